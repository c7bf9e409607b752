import PyProof.Rows.All
import Wide.All
import OpenK.AllK
import Wide.FinOn
import HandS.ForMost
import HandS.Zip
import HandS.Rev
import HandS.TupAny
import HandS.TupMul
import HandS.TupLe
import HandS.Conv
import HandS.Style
import HandS.Flow
import HandS.Walk
import HandS.Wide
import HandS.IsInst
import HandS.NoneIn
import PyProof.P3Eq
import PyProof.ListRange
import PyProof.ListNew
import KE.KRevIter
import HandS.RevTup
import KE.GoesZip
import KE.GoesMore
import HandS.SetFor
import PyProof.FitsBits
import PySem.Challenge.RW_notewhole_k43_whole_ways_of_great_fracti
set_option Elab.async false
set_option linter.all false
set_option maxRecDepth 100000
/-! Fl: readings over plain values. PV: values without a heap; EV: a value, or a list that this frame alone holds and may change. -/
namespace Fl
open PySem PySem.Spec PyProof.Rows L2

inductive PV where
  | non | bl (b : Bool) | int (i : Int) | str (s : Str) | tup (xs : List PV) | lst (xs : List PV) | fro (xs : List PV) | cell (a : Addr) | xtp (xs : List PV)
inductive EV where
  | v (p : PV) | b (xs : List PV)
abbrev Fm := List (Option EV)
abbrev Sto := Addr → Option (List PV)
def gt : Fm → Nat → Option EV
  | [], _ => none
  | x :: _, 0 => x
  | _ :: r, n + 1 => gt r n
def st : Fm → Nat → Option EV → Fm
  | [], _, _ => []
  | _ :: r, 0, x => x :: r
  | y :: r, n + 1, x => y :: st r n x
theorem st_length : ∀ (f : Fm) (i : Nat) (x : Option EV), (st f i x).length = f.length
  | [], _, _ => rfl
  | _ :: _, 0, _ => rfl
  | _ :: r, n + 1, x => congrArg (· + 1) (st_length r n x)
theorem gt_lt : ∀ {f : Fm} {i : Nat} {x : EV}, gt f i = some x → i < f.length
  | [], _, _, h => nomatch h
  | _ :: _, 0, _, _ => Nat.succ_pos _
  | _ :: r, n + 1, _, h => Nat.succ_lt_succ (gt_lt (f := r) h)
theorem gt_st : ∀ {f : Fm} {i j : Nat} {x : Option EV} {y : EV}, gt (st f i x) j = some y → (j = i ∧ x = some y) ∨ (j ≠ i ∧ gt f j = some y)
  | [], _, _, _, _, h => nomatch h
  | _ :: _, 0, 0, _, _, h => .inl ⟨rfl, h⟩
  | _ :: _, 0, j + 1, _, _, h => .inr ⟨Nat.succ_ne_zero j, h⟩
  | _ :: _, i + 1, 0, _, _, h => .inr ⟨(Nat.succ_ne_zero i).symm, h⟩
  | _ :: r, i + 1, j + 1, x, y, h => by
    rcases gt_st (f := r) (i := i) (j := j) h with ⟨e, q⟩ | ⟨e, q⟩
    · exact .inl ⟨by rw [e], q⟩
    · exact .inr ⟨fun z => e (Nat.succ.inj z), q⟩

/-! ### a plain value stands for a value of the layer -/
/-- a list that nobody changes -/
def SqF (K : PySem.W.Frag) (H : Hp) (B : Addr → Prop) (a : Addr) (vs : List V) : Prop := H a = some (.lst vs) ∧ ¬ B a
theorem SqF.sq {K : PySem.W.Frag} {H : Hp} {B : Addr → Prop} {a : Addr} {vs : List V} (h : SqF K H B a vs) : SqL K H a vs := .inl (.inl h.1)
/-- a list that nobody can change: the script, a list of the module -/
def SqR (K : PySem.W.Frag) (H : Hp) (a : Addr) (vs : List V) : Prop :=
  (∃ o, H a = some (.frz o (.lst vs))) ∨
    ∃ (o : Obj) (its : Array Value) (n : Nat), K.lookup a = some o ∧ o.cls = .type "list" ∧ o.dict = none ∧ o.data = .seq its n ∧ its.size ≤ sizeLine ∧ Vals vs its.toList
theorem SqR.sq {K : PySem.W.Frag} {H : Hp} {a : Addr} {vs : List V} (h : SqR K H a vs) : SqL K H a vs := by
  rcases h with h | h
  · exact .inl (.inr h)
  · exact .inr h
/-- a tuple as it is laid: nothing but its items -/
def SqX (H : Hp) (a : Addr) (vs : List V) : Prop := ∃ o, H a = some (.frz o (.tup vs)) ∧ o.dict = none
theorem SqX.sq {K : PySem.W.Frag} {H : Hp} {a : Addr} {vs : List V} (h : SqX H a vs) : SqT K H a vs := let ⟨o, h, _⟩ := h; .inl (.inr ⟨o, h⟩)
mutual
/-- B: what may change; C: the lists that are handed by reference -/
inductive R (K : PySem.W.Frag) (H : Hp) (B C : Addr → Prop) : PV → V → Prop
  | non : R K H B C .non .non
  | bl (b : Bool) : R K H B C (.bl b) (.bl b)
  | int (i : Int) : R K H B C (.int i) (.int i)
  | str (s : Str) : R K H B C (.str s) (.str s)
  | tup {a : Addr} {vs : List V} {xs : List PV} : SqT K H a vs → RL K H B C xs vs → R K H B C (.tup xs) (.ref a)
  | lst {a : Addr} {vs : List V} {xs : List PV} : SqF K H B a vs → RL K H B C xs vs → R K H B C (.lst xs) (.ref a)
  | fro {a : Addr} {vs : List V} {xs : List PV} : SqR K H a vs → RL K H B C xs vs → R K H B C (.fro xs) (.ref a)
  | cell {a : Addr} : C a → R K H B C (.cell a) (.ref a)
  | xtp {a : Addr} {vs : List V} {xs : List PV} : SqX H a vs → RL K H B C xs vs → R K H B C (.xtp xs) (.ref a)
inductive RL (K : PySem.W.Frag) (H : Hp) (B C : Addr → Prop) : List PV → List V → Prop
  | nil : RL K H B C [] []
  | cons {x : PV} {v : V} {xs : List PV} {vs : List V} : R K H B C x v → RL K H B C xs vs → RL K H B C (x :: xs) (v :: vs)
end
/-- what was and may not change is still so, and nothing of it may change from now on -/
structure Evo (B B' : Addr → Prop) (H H' : Hp) : Prop where
  keep : ∀ a o, H a = some o → ¬ B a → H' a = some o
  safe : ∀ a o, H a = some o → ¬ B a → ¬ B' a
section
variable {K : PySem.W.Frag} {H H' H1 H2 : Hp} {B B' C : Addr → Prop} {a : Addr} {vs ws : List V} {xs ys : List PV} {x : PV} {v : V}
theorem Evo.refl : Evo B B H H := ⟨fun _ _ h _ => h, fun _ _ _ h => h⟩
theorem sqT_evo (mu : ∀ a, B a → Mut (H a)) (e : Evo B B' H H') (h : SqT K H a vs) : SqT K H' a vs := by
  rcases h with (h | ⟨o, h⟩) | h
  · exact .inl (.inl (e.keep _ _ h fun z => by have := mu _ z; rw [h] at this; exact this))
  · exact .inl (.inr ⟨o, e.keep _ _ h fun z => by have := mu _ z; rw [h] at this; exact this⟩)
  · exact .inr h
theorem sqF_evo (mu : ∀ a, B a → Mut (H a)) (e : Evo B B' H H') (h : SqF K H B a vs) : SqF K H' B' a vs := ⟨e.keep _ _ h.1 h.2, e.safe _ _ h.1 h.2⟩
theorem sqR_evo (mu : ∀ a, B a → Mut (H a)) (e : Evo B B' H H') (h : SqR K H a vs) : SqR K H' a vs := by
  rcases h with ⟨o, h⟩ | h
  · exact .inl ⟨o, e.keep _ _ h fun z => by have := mu _ z; rw [h] at this; exact this⟩
  · exact .inr h
theorem sqX_evo (mu : ∀ a, B a → Mut (H a)) (e : Evo B B' H H') (h : SqX H a vs) : SqX H' a vs := by
  obtain ⟨o, h, q⟩ := h
  exact ⟨o, e.keep _ _ h fun z => by have := mu _ z; rw [h] at this; exact this, q⟩
mutual
theorem R.evo (mu : ∀ a, B a → Mut (H a)) (e : Evo B B' H H') : ∀ {x : PV} {v : V}, R K H B C x v → R K H' B' C x v
  | _, _, .non => .non
  | _, _, .bl b => .bl b
  | _, _, .int i => .int i
  | _, _, .str s => .str s
  | _, _, .tup h t => .tup (sqT_evo mu e h) (RL.evo mu e t)
  | _, _, .lst h t => .lst (sqF_evo mu e h) (RL.evo mu e t)
  | _, _, .fro h t => .fro (sqR_evo mu e h) (RL.evo mu e t)
  | _, _, .cell h => .cell h
  | _, _, .xtp h t => .xtp (sqX_evo mu e h) (RL.evo mu e t)
theorem RL.evo (mu : ∀ a, B a → Mut (H a)) (e : Evo B B' H H') : ∀ {xs : List PV} {vs : List V}, RL K H B C xs vs → RL K H' B' C xs vs
  | _, _, .nil => .nil
  | _, _, .cons h t => .cons (R.evo mu e h) (RL.evo mu e t)
end
theorem sqF_weak (w : ∀ a, B' a → B a) (h : SqF K H B a vs) : SqF K H B' a vs := ⟨h.1, fun z => h.2 (w _ z)⟩
mutual
theorem R.weak (w : ∀ a, B' a → B a) : ∀ {x : PV} {v : V}, R K H B C x v → R K H B' C x v
  | _, _, .non => .non
  | _, _, .bl b => .bl b
  | _, _, .int i => .int i
  | _, _, .str s => .str s
  | _, _, .tup h t => .tup h (RL.weak w t)
  | _, _, .lst h t => .lst (sqF_weak w h) (RL.weak w t)
  | _, _, .fro h t => .fro h (RL.weak w t)
  | _, _, .cell h => .cell h
  | _, _, .xtp h t => .xtp h (RL.weak w t)
theorem RL.weak (w : ∀ a, B' a → B a) : ∀ {xs : List PV} {vs : List V}, RL K H B C xs vs → RL K H B' C xs vs
  | _, _, .nil => .nil
  | _, _, .cons h t => .cons (R.weak w h) (RL.weak w t)
end
theorem RL.length : ∀ {xs : List PV} {vs : List V}, RL K H B C xs vs → xs.length = vs.length
  | _, _, .nil => rfl
  | _, _, .cons _ t => congrArg (· + 1) (RL.length t)
theorem RL.get : ∀ {xs : List PV} {vs : List V} {i : Nat} {x : PV}, RL K H B C xs vs → xs[i]? = some x → ∃ v, vs[i]? = some v ∧ R K H B C x v
  | _, _, _, _, .nil, h => by simp at h
  | _, _, 0, _, .cons r _, h => by simp at h; subst h; exact ⟨_, rfl, r⟩
  | _, _, i + 1, x, .cons _ t, h => by
    obtain ⟨v, h1, h2⟩ := RL.get (i := i) (x := x) t (by simpa using h)
    exact ⟨v, by simpa using h1, h2⟩
theorem RL.get' : ∀ {xs : List PV} {vs : List V} {i : Nat} {v : V}, RL K H B C xs vs → vs[i]? = some v → ∃ x, xs[i]? = some x ∧ R K H B C x v
  | _, _, _, _, .nil, h => by simp at h
  | _, _, 0, _, .cons r _, h => by simp at h; subst h; exact ⟨_, rfl, r⟩
  | _, _, i + 1, v, .cons _ t, h => by
    obtain ⟨x, h1, h2⟩ := RL.get' (i := i) (v := v) t (by simpa using h)
    exact ⟨x, by simpa using h1, h2⟩
theorem RL.append : ∀ {xs ys : List PV} {vs ws : List V}, RL K H B C xs vs → RL K H B C ys ws → RL K H B C (xs ++ ys) (vs ++ ws)
  | _, _, _, _, .nil, s => s
  | _, _, _, _, .cons r t, s => .cons r (RL.append t s)
theorem RL.take : ∀ {xs : List PV} {vs : List V} (n : Nat), RL K H B C xs vs → RL K H B C (xs.take n) (vs.take n)
  | _, _, 0, _ => .nil
  | _, _, _ + 1, .nil => .nil
  | _, _, n + 1, .cons r t => .cons r (RL.take n t)
theorem RL.drop : ∀ {xs : List PV} {vs : List V} (n : Nat), RL K H B C xs vs → RL K H B C (xs.drop n) (vs.drop n)
  | _, _, 0, r => r
  | _, _, _ + 1, .nil => .nil
  | _, _, n + 1, .cons _ t => RL.drop n t
theorem RL.reverse : ∀ {xs : List PV} {vs : List V}, RL K H B C xs vs → RL K H B C xs.reverse vs.reverse
  | _, _, .nil => .nil
  | _, _, .cons r t => by
    rw [List.reverse_cons, List.reverse_cons]
    exact RL.append (RL.reverse t) (.cons r .nil)
theorem RL.set {x : PV} {v : V} (r : R K H B C x v) : ∀ {xs : List PV} {vs : List V} (i : Nat), RL K H B C xs vs → RL K H B C (xs.set i x) (vs.set i v)
  | _, _, _, .nil => .nil
  | _, _, 0, .cons _ t => .cons r t
  | _, _, i + 1, .cons q t => .cons q (RL.set r i t)
theorem RL.eraseIdx : ∀ {xs : List PV} {vs : List V} (i : Nat), RL K H B C xs vs → RL K H B C (xs.eraseIdx i) (vs.eraseIdx i)
  | _, _, _, .nil => .nil
  | _, _, 0, .cons _ t => t
  | _, _, i + 1, .cons q t => .cons q (RL.eraseIdx i t)
theorem RL.dropLast {xs : List PV} {vs : List V} (r : RL K H B C xs vs) : RL K H B C xs.dropLast vs.dropLast := by
  rw [List.dropLast_eq_take, List.dropLast_eq_take, r.length]
  exact r.take _
theorem RL.replicate {x : PV} {v : V} (r : R K H B C x v) : ∀ n : Nat, RL K H B C (List.replicate n x) (List.replicate n v)
  | 0 => .nil
  | n + 1 => .cons r (RL.replicate r n)
theorem RL.flat {xs : List PV} {vs : List V} (r : RL K H B C xs vs) : ∀ n : Nat, RL K H B C (List.replicate n xs).flatten (List.replicate n vs).flatten
  | 0 => .nil
  | n + 1 => by
    rw [List.replicate_succ, List.replicate_succ, List.flatten_cons, List.flatten_cons]
    exact r.append (RL.flat r n)
/-- lists of ints -/
theorem RL.ints : ∀ {ns : List Int} {vs : List V}, RL K H B C (ns.map PV.int) vs → vs = ns.map V.int
  | [], _, .nil => rfl
  | n :: ns, _, .cons r t => by
    cases r
    rw [RL.ints t]
    rfl
end
/-- of an expression: what is there stays, but the lists that are handed by reference -/
def EvC (C : Addr → Prop) (H H' : Hp) : Prop := ∀ a o, H a = some o → ¬ C a → H' a = some o
theorem EvC.refl {C : Addr → Prop} {H : Hp} : EvC C H H := fun _ _ h _ => h
theorem EvC.trans {C : Addr → Prop} {H H1 H2 : Hp} (a : EvC C H H1) (b : EvC C H1 H2) : EvC C H H2 := fun c o h n => b c o (a c o h n) n
theorem EvC.new {C : Addr → Prop} {H : Hp} {p : Addr} {o : HO} (h : H p = none) : EvC C H (upd H p o) := fun c u e _ => by
  rw [upd_ne (ne_of_none e h)]
  exact e
def Cells (K : PySem.W.Frag) (B C : Addr → Prop) (H : Hp) (M : Sto) : Prop :=
  ∀ a, (C a → ∃ xs vs, M a = some xs ∧ H a = some (.lst vs) ∧ RL K H B C xs vs) ∧ (¬ C a → M a = none)
/-- what is fixed while a def's body runs: the heap at its entry, what may change of it, what is handed by reference; and values that a loop walks -/
structure Gh where
  H0 : Hp
  B0 : Addr → Prop
  C : Addr → Prop
  pins : List (PV × V)
def RV (K : PySem.W.Frag) (G : Gh) (B : Addr → Prop) (H : Hp) : EV → V → Prop
  | .v p, v => R K H B G.C p v
  | .b xs, v => ∃ a vs, v = .ref a ∧ B a ∧ ¬ G.C a ∧ G.H0 a = none ∧ H a = some (.lst vs) ∧ RL K H B G.C xs vs
structure Rep (K : PySem.W.Frag) (G : Gh) (B : Addr → Prop) (f : Fm) (M : Sto) (σ : L2.St) (H : Hp) : Prop where
  len : f.length = σ.length
  slot : ∀ i x, gt f i = some x → ∃ v, σ[i]? = some (some v) ∧ RV K G B H x v
  sep : ∀ i j xs ys a, gt f i = some (.b xs) → gt f j = some (.b ys) → σ[i]? = some (some (.ref a)) → σ[j]? = some (some (.ref a)) → i = j
  cells : Cells K B G.C H M
  keep : EvC G.C G.H0 H
  mu : ∀ a, B a → Mut (H a)
  sub : ∀ a, G.C a → G.B0 a
  amb : ∀ a, G.B0 a → B a
  amb0 : ∀ a, G.B0 a → G.H0 a ≠ none
  pin : ∀ q ∈ G.pins, R K H B G.C q.1 q.2
section
variable {K : PySem.W.Frag} {G : Gh} {B B' : Addr → Prop} {f : Fm} {M : Sto} {σ : L2.St} {H H' : Hp} {a p : Addr} {vs : List V} {xs : List PV} {x : EV} {v : V} {o : HO}
theorem Rep.sb (r : Rep K G B f M σ H) : ∀ a, G.C a → B a := fun a h => r.amb a (r.sub a h)
/-- of an expression's evolution the rest follows -/
theorem EvC.evo (e : EvC G.C H H') (r : Rep K G B f M σ H) : Evo B B H H' := ⟨fun a o h n => e a o h fun z => n (r.sb a z), fun _ _ _ n => n⟩
theorem R.evc {x : PV} (h : R K H B G.C x v) (r : Rep K G B f M σ H) (e : EvC G.C H H') : R K H' B G.C x v := h.evo r.mu (e.evo r)
theorem RL.evc (h : RL K H B G.C xs vs) (r : Rep K G B f M σ H) (e : EvC G.C H H') : RL K H' B G.C xs vs := h.evo r.mu (e.evo r)
theorem RV.evc : ∀ {x : EV}, RV K G B H x v → Rep K G B f M σ H → EvC G.C H H' → RV K G B H' x v
  | .v _, h, r, e => R.evc h r e
  | .b _, ⟨a, vs, h1, h2, h3, h0, h4, h5⟩, r, e => ⟨a, vs, h1, h2, h3, h0, e _ _ h4 h3, h5.evc r e⟩
/-- nothing but new objects -/
theorem Rep.grow (r : Rep K G B f M σ H) (e : ∀ a o, H a = some o → H' a = some o) : Rep K G B f M σ H' := by
  have ec : EvC G.C H H' := fun a o h _ => e a o h
  refine ⟨r.len, fun i x h => ?_, r.sep, fun a => ⟨fun h => ?_, (r.cells a).2⟩, r.keep.trans ec, fun a h => ?_, r.sub, r.amb, r.amb0, fun q hq => (r.pin q hq).evc r ec⟩
  · obtain ⟨v, h1, h2⟩ := r.slot i x h
    exact ⟨v, h1, h2.evc r ec⟩
  · obtain ⟨xs, vs, h1, h2, h3⟩ := (r.cells a).1 h
    exact ⟨xs, vs, h1, e _ _ h2, h3.evc r ec⟩
  · have q := r.mu a h
    cases z : H a with
    | none => rw [z] at q; exact q.elim
    | some o => rw [e a o z, ← z]; exact q
theorem grow_new (h : H p = none) : ∀ a u, H a = some u → upd H p o a = some u := fun a u q => by
  rw [upd_ne (ne_of_none q h)]
  exact q
theorem Rep.new (r : Rep K G B f M σ H) (h : H p = none) : Rep K G B f M σ (upd H p o) := r.grow (grow_new h)
theorem Rep.nb (r : Rep K G B f M σ H) (h : H p = none) : ¬ B p := fun z => by
  have := r.mu p z
  rw [h] at this
  exact this
end

/-! ### judgements -/
abbrev FE := Fm → Sto → (EV → Sto → Prop) → Prop
abbrev FT := Fm → Sto → (Bool → Sto → Prop) → Prop
abbrev FA := Fm → Sto → (List EV → Sto → Prop) → Prop
def RVL (K : PySem.W.Frag) (G : Gh) (B : Addr → Prop) (H : Hp) : List EV → List V → Prop
  | [], [] => True
  | x :: xs, v :: vs => RV K G B H x v ∧ RVL K G B H xs vs
  | _, _ => False
theorem RVL.evc {K : PySem.W.Frag} {G : Gh} {B : Addr → Prop} {f : Fm} {M : Sto} {σ : L2.St} {H H' : Hp} : ∀ {xs : List EV} {vs : List V}, RVL K G B H xs vs → Rep K G B f M σ H → EvC G.C H H' → RVL K G B H' xs vs
  | [], [], _, _, _ => trivial
  | _ :: _, _ :: _, ⟨h, t⟩, r, e => ⟨h.evc r e, RVL.evc t r e⟩
def tE (K : PySem.W.Frag) (m : FE) : TE := fun σ H Q => ∃ G B f M Q', Rep K G B f M σ H ∧ m f M Q' ∧ ∀ x M' v H', Q' x M' → Rep K G B f M' σ H' → RV K G B H' x v → EvC G.C H H' → Q v H'
def tT (K : PySem.W.Frag) (m : FT) : TT := fun σ H Q => ∃ G B f M Q', Rep K G B f M σ H ∧ m f M Q' ∧ ∀ b M' H', Q' b M' → Rep K G B f M' σ H' → EvC G.C H H' → Q b H'
def tA (K : PySem.W.Frag) (n : Nat) (m : FA) : TA := fun σ H Q => ∃ G B f M Q', Rep K G B f M σ H ∧ m f M Q' ∧ ∀ xs M' vs H', Q' xs M' → xs.length = n → Rep K G B f M' σ H' → RVL K G B H' xs vs → EvC G.C H H' → Q vs H'
structure RE (X : Cx) (e : Expr) (m : FE) : Prop where
  pe : PE X e (tE X.K m)
structure RT (X : Cx) (e : Expr) (m : FT) : Prop where
  pt : PT X e (tT X.K m)
structure RW (X : Cx) (e : Expr) (m : FT) : Prop where
  pw : PW X e (tT X.K m)
structure RA (X : Cx) (es : List Expr) (m : FA) : Prop where
  pa : PA X es (tA X.K es.length m)
theorem _root_.L2.PE.imp {X : Cx} {e : Expr} {t t' : TE} (h : PE X e t) (w : ∀ σ H Q, t' σ H Q → t σ H Q) : PE X e t' := ⟨fun pins s σ H Q I q => h.run pins s σ H Q I (w σ H Q q)⟩
theorem _root_.L2.PT.imp {X : Cx} {e : Expr} {t t' : TT} (h : PT X e t) (w : ∀ σ H Q, t' σ H Q → t σ H Q) : PT X e t' := ⟨fun pins s σ H Q I q => h.run pins s σ H Q I (w σ H Q q)⟩
theorem _root_.L2.PW.imp {X : Cx} {e : Expr} {t t' : TT} (h : PW X e t) (w : ∀ σ H Q, t' σ H Q → t σ H Q) : PW X e t' := ⟨fun wh pins s σ H Q I q => h.run wh pins s σ H Q I (w σ H Q q)⟩
theorem _root_.L2.PA.imp {X : Cx} {es : List Expr} {t t' : TA} (h : PA X es t) (w : ∀ σ H Q, t' σ H Q → t σ H Q) : PA X es t' := ⟨fun p pins s σ H Q I q => h.run p pins s σ H Q I (w σ H Q q)⟩
section
variable {X : Cx} {e a b : Expr} {es : List Expr} {m ma mb : FE} {pos : Pos}
def eV (i : Nat) : FE := fun f M Q => match gt f i with
  | some x => Q x M
  | none => False
def eC (p : PV) : FE := fun _ M Q => Q (.v p) M
theorem re_var (i : Nat) {x : Str} {pos : Pos} (hN : X.N[i]? = some x := by rfl) (hv : Vis X.env.scope x := by first | exact Or.inl rfl | exact Or.inr (Or.inl rfl) | exact Or.inr (Or.inr rfl)) (hd : (x == ("__debug__" : Str)) = false := by decide)
    (hcd : (x == ("__classdict__" : Str)) = false := by decide) : RE X (.Name x pos) (eV i) := by
  refine ⟨(pe_var hN hv hd hcd).imp fun σ H Q ⟨G, B, f, M, Q', rep, hm, k⟩ => ?_⟩
  unfold eV at hm
  split at hm
  · rename_i x hx
    obtain ⟨v, h1, h2⟩ := rep.slot i x hx
    exact ⟨v, h1, k _ _ _ _ hm rep h2 .refl⟩
  · exact hm.elim
theorem re_int {i j pos} : RE X (.Constant (.int i) j pos) (eC (.int i)) := ⟨pe_int.imp fun σ H Q ⟨G, B, f, M, Q', rep, hm, k⟩ => k _ _ _ _ hm rep (.int i) .refl⟩
theorem re_bl {b j pos} : RE X (.Constant (.bool b) j pos) (eC (.bl b)) := ⟨pe_bl.imp fun σ H Q ⟨G, B, f, M, Q', rep, hm, k⟩ => k _ _ _ _ hm rep (.bl b) .refl⟩
theorem re_non {j pos} : RE X (.Constant .none j pos) (eC .non) := ⟨pe_non.imp fun σ H Q ⟨G, B, f, M, Q', rep, hm, k⟩ => k _ _ _ _ hm rep .non .refl⟩
theorem re_str {x j pos} : RE X (.Constant (.str x) j pos) (eC (.str x)) := ⟨pe_str.imp fun σ H Q ⟨G, B, f, M, Q', rep, hm, k⟩ => k _ _ _ _ hm rep (.str x) .refl⟩
/-- a module's constant -/
theorem re_glob {x : Str} {p : PV} {v : V} {u : Value} {pos : Pos} (hg : Gl X x) (hm : X.mg x = some u) (r : RelV v u) (h : ∀ H B C, R X.K H B C p v) (hd : (x == ("__debug__" : Str)) = false := by decide) : RE X (.Name x pos) (eC p) :=
  ⟨(pe_glob hg hm r hd).imp fun σ H Q ⟨G, B, f, M, Q', rep, hm, k⟩ => k _ _ _ _ hm rep (h _ _ _) .refl⟩

/-! operators -/
abbrev O2 := Sto → EV → EV → (PV → Prop) → Prop
abbrev O1 := Sto → EV → (PV → Prop) → Prop
abbrev ON := Sto → List EV → (PV → Prop) → Prop
def Op2 (K : PySem.W.Frag) (r : R2) (op : O2) : Prop := ∀ G B f M σ H x y v w k Q, Rep K G B f M σ H → RV K G B H x v → RV K G B H y w → op M x y k →
  (∀ p u H', k p → Rep K G B f M σ H' → R K H' B G.C p u → EvC G.C H H' → Q u H') → r v w H Q
def Op1 (K : PySem.W.Frag) (r : V → Hp → VK → Prop) (op : O1) : Prop := ∀ G B f M σ H x v k Q, Rep K G B f M σ H → RV K G B H x v → op M x k →
  (∀ p u H', k p → Rep K G B f M σ H' → R K H' B G.C p u → EvC G.C H H' → Q u H') → r v H Q
def OpN (K : PySem.W.Frag) (r : List V → Hp → VK → Prop) (op : ON) : Prop := ∀ G B f M σ H xs vs k Q, Rep K G B f M σ H → RVL K G B H xs vs → op M xs k →
  (∀ p u H', k p → Rep K G B f M σ H' → R K H' B G.C p u → EvC G.C H H' → Q u H') → r vs H Q
def e2 (op : O2) (ma mb : FE) : FE := fun f M Q => ma f M fun x M1 => mb f M1 fun y M2 => op M2 x y fun p => Q (.v p) M2
def e1 (op : O1) (ma : FE) : FE := fun f M Q => ma f M fun x M1 => op M1 x fun p => Q (.v p) M1
def eN (op : ON) (ma : FA) : FE := fun f M Q => ma f M fun xs M1 => op M1 xs fun p => Q (.v p) M1
theorem e2_ok {K : PySem.W.Frag} {r : R2} {op : O2} (ho : Op2 K r op) : ∀ σ H Q, tE K (e2 op ma mb) σ H Q → tOp r (tE K ma) (tE K mb) σ H Q := fun σ H Q ⟨G, B, f, M, Q', rep, hm, k⟩ =>
  ⟨G, B, f, M, _, rep, hm, fun x M1 v H1 h1 rep1 r1 c1 => ⟨G, B, f, M1, _, rep1, h1, fun y M2 w H2 h2 rep2 r2 c2 =>
    ho G B f M2 σ H2 x y v w _ Q rep2 (r1.evc rep1 c2) r2 h2 fun p u H3 h3 rep3 r3 c3 => k _ _ _ _ h3 rep3 r3 ((c1.trans c2).trans c3)⟩⟩
theorem e1_ok {K : PySem.W.Frag} {r : V → Hp → VK → Prop} {op : O1} (ho : Op1 K r op) : ∀ σ H Q, tE K (e1 op ma) σ H Q → tUn r (tE K ma) σ H Q := fun σ H Q ⟨G, B, f, M, Q', rep, hm, k⟩ =>
  ⟨G, B, f, M, _, rep, hm, fun x M1 v H1 h1 rep1 r1 c1 => ho G B f M1 σ H1 x v _ Q rep1 r1 h1 fun p u H3 h3 rep3 r3 c3 => k _ _ _ _ h3 rep3 r3 (c1.trans c3)⟩
theorem eN_ok {K : PySem.W.Frag} {n : Nat} {r : List V → Hp → VK → Prop} {op : ON} {ma : FA} (ho : OpN K r op) : ∀ σ H Q, tE K (eN op ma) σ H Q → tCB r (tA K n ma) σ H Q := fun σ H Q ⟨G, B, f, M, Q', rep, hm, k⟩ =>
  ⟨G, B, f, M, _, rep, hm, fun x M1 v H1 h1 _ rep1 r1 c1 => ho G B f M1 σ H1 x v _ Q rep1 r1 h1 fun p u H3 h3 rep3 r3 c3 => k _ _ _ _ h3 rep3 r3 (c1.trans c3)⟩
theorem re_op {op : Operator} {r : R2} {o : O2} (h : OpR X (binaryOp op) r) (ho : Op2 X.K r o) (ha : RE X a ma) (hb : RE X b mb) : RE X (.BinOp a op b pos) (e2 o ma mb) := ⟨(pe_op h ha.pe hb.pe).imp (e2_ok ho)⟩
theorem re_un {op : UnaryOp} {r : V → Hp → VK → Prop} {o : O1} (h : UnR X (unaryOp op) r) (ho : Op1 X.K r o) (ha : RE X a ma) : RE X (.UnaryOp op a pos) (e1 o ma) := ⟨(pe_un h ha.pe).imp (e1_ok ho)⟩
theorem re_cmp {op : CmpOp} {r : R2} {o : O2} (h : OpR X (compareOp op) r) (ho : Op2 X.K r o) (ha : RE X a ma) (hb : RE X b mb) (hm : behindInMarks op b = false) : RE X (.Compare a [op] [b] pos) (e2 o ma mb) := ⟨(pe_cmpR h ha.pe hb.pe hm).imp (e2_ok ho)⟩
/-! argument lists -/
def aNil : FA := fun _ M Q => Q [] M
def aCons (me : FE) (mr : FA) : FA := fun f M Q => me f M fun x M1 => mr f M1 fun xs M2 => Q (x :: xs) M2
theorem ra_nil : RA X [] aNil := ⟨pa_nil.imp fun σ H Q ⟨G, B, f, M, Q', rep, hm, k⟩ => k _ _ _ _ hm rfl rep trivial .refl⟩
theorem ra_cons {mr : FA} (he : RE X e m) (hr : RA X es mr) (hs : starEach (e :: es) X.env = (false, eval e X.env) :: starEach es X.env := by rfl) : RA X (e :: es) (aCons m mr) :=
  ⟨(pa_cons he.pe hr.pa hs).imp fun σ H Q ⟨G, B, f, M, Q', rep, hm, k⟩ => ⟨G, B, f, M, _, rep, hm, fun x M1 v H1 h1 rep1 r1 c1 => ⟨G, B, f, M1, _, rep1, h1, fun xs M2 vs H2 h2 hl rep2 r2 c2 =>
    k _ _ _ _ h2 (congrArg (· + 1) hl) rep2 ⟨r1.evc rep1 c2, r2⟩ (c1.trans c2)⟩⟩⟩
theorem re_bltin {x : Str} {p : Pos} {id : String} {r : List V → Hp → VK → Prop} {o : ON} {t : FA} (hc : CallR X (.builtin id) r) (ho : OpN X.K r o) (hg : Gl X x) (hm : X.mg x = none) (hv : bootBuiltins x = some (.builtin id)) (ha : RA X (e :: es) t) (hn : x ≠ "__name__" := by decide) (hdb : (x == ("__debug__" : Str)) = false := by decide)
    (he : starEach (e :: es) X.env = (false, eval e X.env) :: starEach es X.env := by rfl) (hpl : (backTo pos (starEach es X.env)).any (·.1) = false := by rfl) : RE X (.Call (.Name x p) (e :: es) [] pos) (eN o t) :=
  ⟨(pe_callB hc hg hm hv ha.pa hn hdb he hpl).imp (eN_ok ho)⟩
theorem re_type {x : Str} {p : Pos} {T : String} {r : List V → Hp → VK → Prop} {o : ON} {t : FA} (hc : CallR X (.type T) r) (ho : OpN X.K r o) (hg : Gl X x) (hm : X.mg x = none) (hv : bootBuiltins x = some (.type T)) (ha : RA X (e :: es) t) (hn : x ≠ "__name__" := by decide) (hdb : (x == ("__debug__" : Str)) = false := by decide)
    (he : starEach (e :: es) X.env = (false, eval e X.env) :: starEach es X.env := by rfl) (hpl : (backTo pos (starEach es X.env)).any (·.1) = false := by rfl) : RE X (.Call (.Name x p) (e :: es) [] pos) (eN o t) :=
  ⟨(pe_callTy hc hg hm hv ha.pa hn hdb he hpl).imp (eN_ok ho)⟩
end
end Fl

namespace Fl
open PySem PySem.Spec PyProof.Rows L2

/-! ### stores -/
section
variable {K : PySem.W.Frag} {G : Gh} {B B' : Addr → Prop} {f : Fm} {M M' : Sto} {σ : L2.St} {H H' : Hp} {a p : Addr} {vs : List V} {xs ys : List PV} {x : EV} {v : V} {o : HO} {i : Nat}
theorem Rep.set {p : PV} (r : Rep K G B f M σ H) (h : R K H B G.C p v) : Rep K G B (st f i (some (.v p))) M (σ.set i (some v)) H := by
  refine ⟨by rw [st_length, List.length_set]; exact r.len, fun j x hj => ?_, fun j k xs ys a h1 h2 e1 e2 => ?_, r.cells, r.keep, r.mu, r.sub, r.amb, r.amb0, r.pin⟩
  · have hl := gt_lt hj
    rw [st_length, r.len] at hl
    rcases gt_st hj with ⟨e, q⟩ | ⟨e, q⟩
    · subst e
      cases q
      exact ⟨v, List.getElem?_set_self hl, h⟩
    · obtain ⟨w, h1, h2⟩ := r.slot j x q
      exact ⟨w, by rw [List.getElem?_set_ne (Ne.symm e)]; exact h1, h2⟩
  · rcases gt_st h1 with ⟨_, q⟩ | ⟨n1, q1⟩
    · cases q
    · rcases gt_st h2 with ⟨_, q⟩ | ⟨n2, q2⟩
      · cases q
      · rw [List.getElem?_set_ne (Ne.symm n1)] at e1
        rw [List.getElem?_set_ne (Ne.symm n2)] at e2
        exact r.sep j k xs ys a q1 q2 e1 e2
theorem Rep.drop (r : Rep K G B f M σ H) (w : Option V) : Rep K G B (st f i none) M (σ.set i w) H := by
  refine ⟨by rw [st_length, List.length_set]; exact r.len, fun j x hj => ?_, fun j k xs ys a h1 h2 e1 e2 => ?_, r.cells, r.keep, r.mu, r.sub, r.amb, r.amb0, r.pin⟩
  · rcases gt_st hj with ⟨e, q⟩ | ⟨e, q⟩
    · cases q
    · obtain ⟨w, h1, h2⟩ := r.slot j x q
      exact ⟨w, by rw [List.getElem?_set_ne (Ne.symm e)]; exact h1, h2⟩
  · rcases gt_st h1 with ⟨_, q⟩ | ⟨n1, q1⟩
    · cases q
    · rcases gt_st h2 with ⟨_, q⟩ | ⟨n2, q2⟩
      · cases q
      · rw [List.getElem?_set_ne (Ne.symm n1)] at e1
        rw [List.getElem?_set_ne (Ne.symm n2)] at e2
        exact r.sep j k xs ys a q1 q2 e1 e2
/-- a slot stands as a list of its own -/
theorem Rep.setB (r : Rep K G B f M σ H) (hb : B a) (hc : ¬ G.C a) (h0 : G.H0 a = none) (ha : H a = some (.lst vs)) (hr : RL K H B G.C xs vs) (hn : ∀ j ys, gt f j = some (.b ys) → σ[j]? ≠ some (some (.ref a))) :
    Rep K G B (st f i (some (.b xs))) M (σ.set i (some (.ref a))) H := by
  refine ⟨by rw [st_length, List.length_set]; exact r.len, fun j x hj => ?_, fun j k xs ys a' h1 h2 e1 e2 => ?_, r.cells, r.keep, r.mu, r.sub, r.amb, r.amb0, r.pin⟩
  · have hl := gt_lt hj
    rw [st_length, r.len] at hl
    rcases gt_st hj with ⟨e, q⟩ | ⟨e, q⟩
    · subst e
      cases q
      exact ⟨.ref a, List.getElem?_set_self hl, a, vs, rfl, hb, hc, h0, ha, hr⟩
    · obtain ⟨w, h1, h2⟩ := r.slot j x q
      exact ⟨w, by rw [List.getElem?_set_ne (Ne.symm e)]; exact h1, h2⟩
  · rcases gt_st h1 with ⟨i1, q⟩ | ⟨n1, q1⟩
    · rcases gt_st h2 with ⟨i2, q2⟩ | ⟨n2, q2⟩
      · rw [i1, i2]
      · subst i1
        have hl := gt_lt h1
        rw [st_length, r.len] at hl
        rw [List.getElem?_set_self hl] at e1
        cases e1
        rw [List.getElem?_set_ne (Ne.symm n2)] at e2
        exact absurd e2 (hn k ys q2)
    · rcases gt_st h2 with ⟨i2, q2⟩ | ⟨n2, q2⟩
      · subst i2
        have hl := gt_lt h2
        rw [st_length, r.len] at hl
        rw [List.getElem?_set_self hl] at e2
        cases e2
        rw [List.getElem?_set_ne (Ne.symm n1)] at e1
        exact absurd e1 (hn j xs q1)
      · rw [List.getElem?_set_ne (Ne.symm n1)] at e1
        rw [List.getElem?_set_ne (Ne.symm n2)] at e2
        exact r.sep j k xs ys a' q1 q2 e1 e2
/-- fewer things may change -/
theorem Rep.shrink {M0 : Sto} {H0 : Hp} (r0 : Rep K G B f M0 σ H0) (r : Rep K G B' f M σ H) (w : ∀ a, B a → B' a) : Rep K G B f M σ H := by
  refine ⟨r.len, fun i x h => ?_, r.sep, fun a => ⟨fun h => ?_, (r.cells a).2⟩, r.keep, fun a h => r.mu a (w a h), r.sub, r0.amb, r.amb0, fun q hq => (r.pin q hq).weak w⟩
  · obtain ⟨v, h1, h2⟩ := r.slot i x h
    refine ⟨v, h1, ?_⟩
    cases x with
    | v p => exact R.weak w h2
    | b xs =>
      obtain ⟨a, vs, e, hb, hc, h0, ha, hr⟩ := h2
      obtain ⟨v', h1', a', vs', e', hb', _⟩ := r0.slot i _ h
      rw [h1] at h1'
      cases h1'
      subst e
      cases e'
      exact ⟨a, vs, rfl, hb', hc, h0, ha, hr.weak w⟩
  · obtain ⟨xs, vs, h1, h2, h3⟩ := (r.cells a).1 h
    exact ⟨xs, vs, h1, h2, h3.weak w⟩
abbrev orp (B : Addr → Prop) (p : Addr) : Addr → Prop := fun a => B a ∨ a = p
theorem evo_new (h : H p = none) : Evo B (orp B p) H (upd H p o) := ⟨fun a u e n => by rw [upd_ne (ne_of_none e h)]; exact e, fun a u e n z => by
  rcases z with z | z
  · exact n z
  · exact ne_of_none e h z⟩
/-- a new list that may change -/
theorem Rep.newL (r : Rep K G B f M σ H) (h : H p = none) : Rep K G (orp B p) f M σ (upd H p (.lst vs)) := by
  have ev : Evo B (orp B p) H (upd H p (.lst vs)) := evo_new h
  refine ⟨r.len, fun i x hi => ?_, r.sep, fun a => ⟨fun hc => ?_, (r.cells a).2⟩, r.keep.trans (EvC.new h), fun a hb => ?_, r.sub, fun a z => .inl (r.amb a z), r.amb0, fun q hq => (r.pin q hq).evo r.mu ev⟩
  · obtain ⟨v, h1, h2⟩ := r.slot i x hi
    refine ⟨v, h1, ?_⟩
    cases x with
    | v p => exact R.evo r.mu ev h2
    | b xs =>
      obtain ⟨a, ws, e, hb, hc, h0, ha, hr⟩ := h2
      exact ⟨a, ws, e, .inl hb, hc, h0, by rw [upd_ne (ne_of_none ha h)]; exact ha, hr.evo r.mu ev⟩
  · obtain ⟨xs, ws, h1, h2, h3⟩ := (r.cells a).1 hc
    exact ⟨xs, ws, h1, by rw [upd_ne (ne_of_none h2 h)]; exact h2, h3.evo r.mu ev⟩
  · by_cases e : a = p
    · rw [e, upd_same]
      trivial
    · rw [upd_ne e]
      exact r.mu a (hb.resolve_right e)
theorem Rep.fresh0 (r : Rep K G B f M σ H) (h : H p = none) : G.H0 p = none := by
  cases e : G.H0 p with
  | none => rfl
  | some o =>
    have nc : ¬ G.C p := fun z => r.nb h (r.sb p z)
    rw [r.keep p o e nc] at h
    cases h
/-- a list of the frame's own is written -/
theorem Rep.wrB {ws : List V} (r : Rep K G B f M σ H) (hs : σ[i]? = some (some (.ref a))) (hi : gt f i = some (.b xs)) (hr : RL K H B G.C ys ws) : Rep K G B (st f i (some (.b ys))) M σ (upd H a (.lst ws)) := by
  obtain ⟨v', e1, a', vs', e', hb, hc, h0, ha, hx⟩ := r.slot i _ hi
  rw [hs] at e1
  cases e1
  cases e'
  have ev : Evo B B H (upd H a (.lst ws)) := ⟨fun c u e n => by
    have ne : c ≠ a := fun z => n (by rw [z]; exact hb)
    rw [upd_ne ne]
    exact e, fun _ _ _ n => n⟩
  refine ⟨by rw [st_length]; exact r.len, fun j x hj => ?_, fun j k xs' ys' a' h1 h2 e1 e2 => ?_, fun c => ⟨fun hcc => ?_, (r.cells c).2⟩, fun c o e n => ?_, fun c hb' => ?_, r.sub, r.amb, r.amb0, fun q hq => (r.pin q hq).evo r.mu ev⟩
  · rcases gt_st hj with ⟨e, q⟩ | ⟨e, q⟩
    · subst e
      cases q
      exact ⟨.ref a, hs, a, ws, rfl, hb, hc, h0, upd_same, hr.evo r.mu ev⟩
    · obtain ⟨w, h1, h2⟩ := r.slot j x q
      refine ⟨w, h1, ?_⟩
      cases x with
      | v p => exact R.evo r.mu ev h2
      | b zs =>
        obtain ⟨c, us, e', hb', hc', h0', ha', hr'⟩ := h2
        subst e'
        have ne : c ≠ a := fun z => by
          subst z
          exact e (r.sep j i zs xs c q hi h1 hs)
        exact ⟨c, us, rfl, hb', hc', h0', by rw [upd_ne ne]; exact ha', hr'.evo r.mu ev⟩
  · rcases gt_st h1 with ⟨i1, q⟩ | ⟨n1, q1⟩
    · rcases gt_st h2 with ⟨i2, q2⟩ | ⟨n2, q2⟩
      · rw [i1, i2]
      · subst i1
        exact r.sep j k xs ys' a' hi q2 e1 e2
    · rcases gt_st h2 with ⟨i2, q2⟩ | ⟨n2, q2⟩
      · subst i2
        exact r.sep j k xs' xs a' q1 hi e1 e2
      · exact r.sep j k xs' ys' a' q1 q2 e1 e2
  · obtain ⟨zs, us, h1, h2, h3⟩ := (r.cells c).1 hcc
    have ne : c ≠ a := fun z => hc (by rw [← z]; exact hcc)
    exact ⟨zs, us, h1, by rw [upd_ne ne]; exact h2, h3.evo r.mu ev⟩
  · have ne : c ≠ a := fun z => by rw [z, h0] at e; cases e
    rw [upd_ne ne]
    exact r.keep c o e n
  · by_cases e : c = a
    · rw [e, upd_same]
      trivial
    · rw [upd_ne e]
      exact r.mu c hb'
def upM (M : Sto) (a : Addr) (xs : List PV) : Sto := fun b => if b = a then some xs else M b
theorem upM_same : upM M a xs a = some xs := if_pos rfl
/-- behind a call: what is handed by reference may have changed -/
theorem Rep.call (r : Rep K G B f M σ H) (e : EvC G.C H H') (c : Cells K B G.C H' M') : Rep K G B f M' σ H' := by
  refine ⟨r.len, fun i x h => ?_, r.sep, c, r.keep.trans e, fun a h => ?_, r.sub, r.amb, r.amb0, fun q hq => (r.pin q hq).evc r e⟩
  · obtain ⟨v, h1, h2⟩ := r.slot i x h
    exact ⟨v, h1, h2.evc r e⟩
  · by_cases hc : G.C a
    · obtain ⟨xs, vs, _, h2, _⟩ := (c a).1 hc
      rw [h2]
      trivial
    · have q := r.mu a h
      cases z : H a with
      | none => rw [z] at q; exact q.elim
      | some o => rw [e a o z hc, ← z]; exact q
/-- a list handed by reference is written -/
theorem Rep.wrC {ws : List V} (r : Rep K G B f M σ H) (hc : G.C a) (hr : RL K H B G.C ys ws) : Rep K G B f (upM M a ys) σ (upd H a (.lst ws)) := by
  have ec : EvC G.C H (upd H a (.lst ws)) := fun c o e n => by
    have ne : c ≠ a := fun z => n (by rw [z]; exact hc)
    rw [upd_ne ne]
    exact e
  refine r.call ec fun c => ⟨fun h => ?_, fun h => ?_⟩
  · by_cases e : c = a
    · subst e
      exact ⟨ys, ws, upM_same, upd_same, hr.evc r ec⟩
    · obtain ⟨xs, vs, h1, h2, h3⟩ := (r.cells c).1 h
      exact ⟨xs, vs, by unfold upM; rw [if_neg e]; exact h1, by rw [upd_ne e]; exact h2, h3.evc r ec⟩
  · unfold upM
    rw [if_neg (show c ≠ a from fun z => h (by rw [z]; exact hc))]
    exact (r.cells c).2 h
/-- a list of the frame's own will not change any more -/
theorem Rep.freeze (r : Rep K G B f M σ H) (hi : gt f i = some (.b xs)) : ∃ B', Rep K G B' (st f i (some (.v (.lst xs)))) M σ H := by
  obtain ⟨v, hs, a, vs, e', hb, hc, h0, ha, hx⟩ := r.slot i _ hi
  subst e'
  have w : ∀ c, (B c ∧ c ≠ a) → B c := fun c h => h.1
  refine ⟨fun c => B c ∧ c ≠ a, by rw [st_length]; exact r.len, fun j x hj => ?_, fun j k xs' ys' a' h1 h2 e1 e2 => ?_, fun c => ⟨fun hcc => ?_, (r.cells c).2⟩, r.keep, fun c h => r.mu c h.1, r.sub, fun c h => ⟨r.amb c h, fun z => r.amb0 c h (z ▸ h0)⟩, r.amb0, fun q hq => (r.pin q hq).weak w⟩
  · rcases gt_st hj with ⟨e, q⟩ | ⟨e, q⟩
    · subst e
      cases q
      exact ⟨.ref a, hs, .lst ⟨ha, fun z => z.2 rfl⟩ (hx.weak w)⟩
    · obtain ⟨u, h1, h2⟩ := r.slot j x q
      refine ⟨u, h1, ?_⟩
      cases x with
      | v p => exact R.weak w h2
      | b zs =>
        obtain ⟨c, us, e', hb', hc', h0', ha', hr'⟩ := h2
        subst e'
        exact ⟨c, us, rfl, ⟨hb', fun z => by subst z; exact e (r.sep j i zs xs c q hi h1 hs)⟩, hc', h0', ha', hr'.weak w⟩
  · rcases gt_st h1 with ⟨_, q⟩ | ⟨n1, q1⟩
    · cases q
    · rcases gt_st h2 with ⟨_, q⟩ | ⟨n2, q2⟩
      · cases q
      · exact r.sep j k xs' ys' a' q1 q2 e1 e2
  · obtain ⟨zs, us, h1, h2, h3⟩ := (r.cells c).1 hcc
    exact ⟨zs, us, h1, h2, h3.weak w⟩
end

/-! ### fresh lists, displays -/
abbrev FF := Fm → Sto → (List PV → Sto → Prop) → Prop
def tF (K : PySem.W.Frag) (m : FF) : TE := fun σ H Q => ∃ G B f M Q', Rep K G B f M σ H ∧ m f M Q' ∧ ∀ xs M' D vs H', Q' xs M' → Rep K G (orp B D) f M' σ H' → H' D = some (.lst vs) → RL K H' (orp B D) G.C xs vs → ¬ B D → G.H0 D = none → EvC G.C H H' → Q (.ref D) H'
structure RF (X : Cx) (e : Expr) (m : FF) : Prop where
  pe : PE X e (tF X.K m)
def eF (m : FF) : FE := fun f M Q => m f M fun xs M' => Q (.v (.lst xs)) M'
theorem re_f {X : Cx} {e : Expr} {m : FF} (h : RF X e m) : RE X e (eF m) := ⟨h.pe.imp fun σ H Q ⟨G, B, f, M, Q', rep, hm, k⟩ => ⟨G, B, f, M, _, rep, hm, fun xs M' D vs H' q rep' hD hr nb h0 ec =>
  k _ _ _ _ q (rep.shrink rep' fun a h => .inl h) (.lst ⟨hD, nb⟩ (hr.weak fun a h => .inl h)) ec⟩⟩
def pvs : List EV → Option (List PV)
  | [] => some []
  | .v p :: r => match pvs r with
    | some ps => some (p :: ps)
    | none => none
  | .b _ :: _ => none
theorem pvs_rl {K : PySem.W.Frag} {G : Gh} {B : Addr → Prop} {H : Hp} : ∀ {xs : List EV} {vs : List V} {ps : List PV}, RVL K G B H xs vs → pvs xs = some ps → RL K H B G.C ps vs
  | [], [], _, _, h => by cases h; exact .nil
  | .v p :: r, v :: vs, ps, ⟨h1, h2⟩, h => by
    unfold pvs at h
    cases e : pvs r with
    | none => rw [e] at h; cases h
    | some qs =>
      rw [e] at h
      cases h
      exact .cons h1 (pvs_rl h2 e)
  | .b _ :: _, _ :: _, _, _, h => nomatch h
  | [], _ :: _, _, h, _ => nomatch h
  | _ :: _, [], _, h, _ => nomatch h
theorem RVL.length {K : PySem.W.Frag} {G : Gh} {B : Addr → Prop} {H : Hp} : ∀ {xs : List EV} {vs : List V}, RVL K G B H xs vs → xs.length = vs.length
  | [], [], _ => rfl
  | _ :: _, _ :: _, h => congrArg (· + 1) (RVL.length h.2)
  | [], _ :: _, h => nomatch h
  | _ :: _, [], h => nomatch h
def eTup (m : FA) : FE := fun f M Q => m f M fun xs M1 => match pvs xs with
  | some ps => Q (.v (.tup ps)) M1
  | none => False
def fLst (m : FA) : FF := fun f M Q => m f M fun xs M1 => match pvs xs with
  | some ps => Q ps M1
  | none => False
section
variable {X : Cx} {e a b : Expr} {es : List Expr} {m ma mb : FE} {pos : Pos} {n : FA}
theorem re_tup {x1} (h : RA X es n) (hz : es.length ≤ sizeLine := by decide) : RE X (.Tuple es x1 pos) (eTup n) := by
  refine ⟨(pe_tup h.pa).imp fun σ H Q ⟨G, B, f, M, Q', rep, hm, k⟩ => ⟨G, B, f, M, _, rep, hm, fun xs M' vs H' q hl rep' r ec => ⟨by rw [← r.length, hl]; exact hz, fun p hp => ?_⟩⟩⟩
  split at q
  · rename_i ps hps
    have rl := pvs_rl r hps
    exact k _ _ _ _ q (rep'.new hp) (.tup (.inl (.inl upd_same)) (rl.evc rep' (.new hp))) (ec.trans (.new hp))
  · exact q.elim
theorem rf_lst (h : RA X es n) (hz : es.length ≤ sizeLine := by decide) : RF X (.List es pos) (fLst n) := by
  refine ⟨(pe_lst h.pa).imp fun σ H Q ⟨G, B, f, M, Q', rep, hm, k⟩ => ⟨G, B, f, M, _, rep, hm, fun xs M' vs H' q hl rep' r ec => ⟨by rw [← r.length, hl]; exact hz, fun p hp => ?_⟩⟩⟩
  split at q
  · rename_i ps hps
    have rl := pvs_rl r hps
    exact k _ _ _ _ _ q (rep'.newL hp) upd_same (rl.evo rep'.mu (evo_new hp)) (rep'.nb hp) (rep'.fresh0 hp) (ec.trans (.new hp))
  · exact q.elim
end

/-! ### statements -/
structure FEnds where
  nx : Fm → Sto → Prop
  rt : PV → Sto → Prop
  bk : Fm → Sto → Prop := fun _ _ => False
  ct : Fm → Sto → Prop := fun _ _ => False
abbrev FS := FEnds → Fm → Sto → Prop
def Ret (K : PySem.W.Frag) (G : Gh) (M : Sto) (H : Hp) (p : PV) (v : V) : Prop := Cells K G.B0 G.C H M ∧ R K H G.B0 G.C p v ∧ EvC G.C G.H0 H
structure Fits (K : PySem.W.Frag) (G : Gh) (D' : FEnds) (D : Ends) : Prop where
  nx : ∀ B f M σ H, D'.nx f M → Rep K G B f M σ H → D.nx σ H
  bk : ∀ B f M σ H, D'.bk f M → Rep K G B f M σ H → D.bk σ H
  ct : ∀ B f M σ H, D'.ct f M → Rep K G B f M σ H → D.ct σ H
  rt : ∀ p M v H, D'.rt p M → Ret K G M H p v → D.rt v H
def tS (K : PySem.W.Frag) (m : FS) : TS := fun D σ H => ∃ G B f M D', Rep K G B f M σ H ∧ m D' f M ∧ Fits K G D' D
structure RS (X : Cx) (s : Stmt) (m : FS) : Prop where
  ps : PS X s (tS X.K m)
structure RSs (X : Cx) (s : List Stmt) (m : FS) : Prop where
  pss : PSs X s (tS X.K m)
theorem _root_.L2.PS.imp {X : Cx} {s : Stmt} {t t' : TS} (h : PS X s t) (w : ∀ D σ H, t' D σ H → t D σ H) : PS X s t' := ⟨fun pins s σ H D I q => h.run pins s σ H D I (w D σ H q)⟩
theorem _root_.L2.PSs.imp {X : Cx} {s : List Stmt} {t t' : TS} (h : PSs X s t) (w : ∀ D σ H, t' D σ H → t D σ H) : PSs X s t' := ⟨fun pins s σ H D I q => h.run pins s σ H D I (w D σ H q)⟩
section
variable {X : Cx} {s : Stmt} {r : List Stmt} {e : Expr} {me : FE} {m m2 : FS} {mf : FF} {mt : FT} {pos : Pos}
def sNil : FS := fun D f M => D.nx f M
def sSeq (m m2 : FS) : FS := fun D f M => m { D with nx := m2 D } f M
theorem rs_nil : RSs X [] sNil := ⟨pss_nil.imp fun D σ H ⟨G, B, f, M, D', rep, hm, k⟩ => k.nx _ _ _ _ _ hm rep⟩
theorem rs_cons (h1 : RS X s m) (h2 : RSs X r m2) : RSs X (s :: r) (sSeq m m2) := ⟨(pss_cons h1.ps h2.pss).imp fun D σ H ⟨G, B, f, M, D', rep, hm, k⟩ =>
  ⟨G, B, f, M, _, rep, hm, ⟨fun B1 f1 M1 σ1 H1 q rep1 => ⟨G, B1, f1, M1, D', rep1, q, k⟩, k.bk, k.ct, k.rt⟩⟩⟩
theorem rs_one (h1 : RS X s m) : RSs X [s] m := ⟨pss_one h1.ps⟩
def sNever : FS := fun _ _ _ => False
theorem rs_never : RS X s sNever := ⟨ps_never.imp fun D σ H ⟨G, B, f, M, D', rep, hm, k⟩ => hm.elim⟩
theorem rss_never : RSs X r sNever := ⟨pss_never.imp fun D σ H ⟨G, B, f, M, D', rep, hm, k⟩ => hm.elim⟩
def sPass : FS := fun D f M => D.nx f M
theorem rs_pass : RS X (.Pass pos) sPass := ⟨ps_pass.imp fun D σ H ⟨G, B, f, M, D', rep, hm, k⟩ => k.nx _ _ _ _ _ hm rep⟩
def sBreak : FS := fun D f M => D.bk f M
theorem rs_break : RS X (.Break pos) sBreak := ⟨ps_break.imp fun D σ H ⟨G, B, f, M, D', rep, hm, k⟩ => k.bk _ _ _ _ _ hm rep⟩
def sCont : FS := fun D f M => D.ct f M
theorem rs_cont : RS X (.Continue pos) sCont := ⟨ps_continue.imp fun D σ H ⟨G, B, f, M, D', rep, hm, k⟩ => k.ct _ _ _ _ _ hm rep⟩
def sEx (me : FE) : FS := fun D f M => me f M fun _ M1 => D.nx f M1
theorem rs_ex (he : RE X e me) (hs : swapsWith e none pos.line X.env = pure false := by rfl) : RS X (.Expr e pos) (sEx me) := ⟨(ps_expr he.pe hs).imp fun D σ H ⟨G, B, f, M, D', rep, hm, k⟩ =>
  ⟨G, B, f, M, _, rep, hm, fun x M1 v H1 q rep1 r1 c1 => k.nx _ _ _ _ _ q rep1⟩⟩
def outP : EV → PV
  | .v p => p
  | .b xs => .lst xs
theorem RV.out {K : PySem.W.Frag} {G : Gh} {B : Addr → Prop} {f : Fm} {M : Sto} {σ : L2.St} {H : Hp} {v : V} (rep : Rep K G B f M σ H) : ∀ {x : EV}, RV K G B H x v → R K H G.B0 G.C (outP x) v
  | .v p, h => R.weak rep.amb h
  | .b xs, ⟨a, vs, e, hb, hc, h0, ha, hr⟩ => by
    subst e
    exact .lst ⟨ha, fun z => rep.amb0 a z h0⟩ (hr.weak rep.amb)
theorem Rep.ret {K : PySem.W.Frag} {G : Gh} {B : Addr → Prop} {f : Fm} {M : Sto} {σ : L2.St} {H : Hp} {v : V} {x : EV} (rep : Rep K G B f M σ H) (h : RV K G B H x v) : Ret K G M H (outP x) v :=
  ⟨fun a => ⟨fun hc => let ⟨xs, vs, h1, h2, h3⟩ := (rep.cells a).1 hc; ⟨xs, vs, h1, h2, h3.weak rep.amb⟩, (rep.cells a).2⟩, h.out rep, rep.keep⟩
def sRet (me : FE) : FS := fun D f M => me f M fun x M1 => D.rt (outP x) M1
theorem rs_ret (he : RE X e me) : RS X (.Return (some e) pos) (sRet me) := ⟨(ps_ret he.pe).imp fun D σ H ⟨G, B, f, M, D', rep, hm, k⟩ =>
  ⟨G, B, f, M, _, rep, hm, fun x M1 v H1 q rep1 r1 c1 => k.rt _ _ _ _ q (rep1.ret r1)⟩⟩
def sRetN : FS := fun D f M => D.rt .non M
theorem rs_retN : RS X (.Return none pos) sRetN := ⟨ps_retN.imp fun D σ H ⟨G, B, f, M, D', rep, hm, k⟩ => k.rt .non M .non H hm (rep.ret (x := .v .non) R.non)⟩
def sIf (mt : FT) (m m2 : FS) : FS := fun D f M => mt f M fun b M1 => (b = true → m D f M1) ∧ (b = false → m2 D f M1)
theorem rs_if {c : Expr} {x y : List Stmt} (hc : RT X c mt) (hx : RSs X x m) (hy : RSs X y m2) : RS X (.If c x y pos) (sIf mt m m2) := ⟨(ps_if hc.pt hx.pss hy.pss).imp fun D σ H ⟨G, B, f, M, D', rep, hm, k⟩ =>
  ⟨G, B, f, M, _, rep, hm, fun b M1 H1 q rep1 c1 => by
    cases b with
    | true => rw [if_pos rfl]; exact ⟨G, B, f, M1, D', rep1, q.1 rfl, k⟩
    | false => rw [if_neg Bool.false_ne_true]; exact ⟨G, B, f, M1, D', rep1, q.2 rfl, k⟩⟩⟩
def sSet (i : Nat) (me : FE) : FS := fun D f M => me f M fun x M1 => match x with
  | .v p => D.nx (st f i (some (.v p))) M1
  | .b _ => False
theorem rs_set {i : Nat} {x : Str} {pos' : Pos} (hN : X.N.Nodup) (hi : X.N[i]? = some x) (hx : Loc X.env.scope x) (he : RE X e me) (hs : swapsWith e (some (.Name x pos')) pos.line X.env = pure false := by rfl) (hf : X.fn x = true ∨ X.env.scope.names.lookup x = some .local := by first | exact .inl rfl | exact .inr rfl | assumption) :
    RS X (.Assign [.Name x pos'] e pos) (sSet i me) := ⟨(ps_set hN hi hx he.pe hs hf).imp fun D σ H ⟨G, B, f, M, D', rep, hm, k⟩ => ⟨G, B, f, M, _, rep, hm, fun x M1 v H1 q rep1 r1 c1 => by
  cases x with
  | v p => exact k.nx _ _ _ _ _ q (rep1.set r1)
  | b xs => exact q.elim⟩⟩
/-- name = a fresh list, to be changed in place -/
def sBld (i : Nat) (mf : FF) : FS := fun D f M => mf f M fun xs M1 => D.nx (st f i (some (.b xs))) M1
theorem rs_bld {i : Nat} {x : Str} {pos' : Pos} (hN : X.N.Nodup) (hi : X.N[i]? = some x) (hx : Loc X.env.scope x) (he : RF X e mf) (hs : swapsWith e (some (.Name x pos')) pos.line X.env = pure false := by rfl) (hf : X.fn x = true ∨ X.env.scope.names.lookup x = some .local := by first | exact .inl rfl | exact .inr rfl | assumption) :
    RS X (.Assign [.Name x pos'] e pos) (sBld i mf) := ⟨(ps_set hN hi hx he.pe hs hf).imp fun D σ H ⟨G, B, f, M, D', rep, hm, k⟩ => ⟨G, B, f, M, _, rep, hm, fun xs M1 A vs H1 q rep1 hA hr nb h0 c1 => by
  refine k.nx _ _ _ _ _ q (rep1.setB (.inr rfl) (fun z => nb (rep.sb A z)) h0 hA hr fun j ys hj e => ?_)
  obtain ⟨v, e1, a, ws, e2, hb, _⟩ := rep.slot j _ hj
  rw [e] at e1
  cases e1
  cases e2
  exact nb hb⟩⟩
/-- nothing done: a list of one's own will not change any more -/
def sFrz (i : Nat) (m : FS) : FS := fun D f M => match gt f i with
  | some (.b xs) => m D (st f i (some (.v (.lst xs)))) M
  | _ => False
theorem rs_frz (i : Nat) (h : RS X s m) : RS X s (sFrz i m) := ⟨h.ps.imp fun D σ H ⟨G, B, f, M, D', rep, hm, k⟩ => by
  unfold sFrz at hm
  split at hm
  · rename_i xs hi
    obtain ⟨B', rep'⟩ := rep.freeze hi
    exact ⟨G, B', _, M, D', rep', hm, k⟩
  · exact hm.elim⟩
theorem rss_frz (i : Nat) (h : RSs X r m) : RSs X r (sFrz i m) := ⟨h.pss.imp fun D σ H ⟨G, B, f, M, D', rep, hm, k⟩ => by
  unfold sFrz at hm
  split at hm
  · rename_i xs hi
    obtain ⟨B', rep'⟩ := rep.freeze hi
    exact ⟨G, B', _, M, D', rep', hm, k⟩
  · exact hm.elim⟩
end

/-! ### targets -/
abbrev FG := PV → Fm → (Fm → Prop) → Prop
abbrev FGs := List PV → Fm → (Fm → Prop) → Prop
def Wp (ws : List Nat) (σ σ' : L2.St) : Prop := ∀ vs : List Nat, (∀ i ∈ ws, i ∈ vs) → wipe σ' vs = wipe σ vs
theorem wipe_set {σ : L2.St} {i : Nat} {v : Option V} : ∀ {vs : List Nat}, i ∈ vs → wipe (σ.set i v) vs = wipe σ vs
  | w :: r, h => by
    by_cases e : i ∈ r
    · unfold wipe
      rw [wipe_set e]
    · have q : i = w := by
        rcases List.mem_cons.mp h with z | z
        · exact z
        · exact absurd z e
      subst q
      have go : ∀ (r : List Nat) (τ : L2.St), wipe (τ.set i v) r = (wipe τ r).set i ((wipe (τ.set i v) r)[i]?.getD none) ∨ True := fun _ _ => .inr trivial
      have aux : ∀ (r : List Nat), i ∉ r → wipe (σ.set i v) r = (wipe σ r).set i v := by
        intro r
        induction r with
        | nil => intro _; rfl
        | cons y r ih =>
          intro hy
          unfold wipe
          rw [ih (fun z => hy (List.mem_cons_of_mem _ z)), List.set_comm _ _ (fun z => hy (by rw [z]; exact List.mem_cons_self))]
      unfold wipe
      rw [aux r e, List.set_set]
def tG (K : PySem.W.Frag) (ws : List Nat) (g : FG) : TG := fun v σ H Q => ∃ G B f M p Q', Rep K G B f M σ H ∧ R K H B G.C p v ∧ g p f Q' ∧ ∀ f' σ', Q' f' → Rep K G B f' M σ' H → Wp ws σ σ' → Q σ' H
def tGs (K : PySem.W.Frag) (ws : List Nat) (g : FGs) : TGs := fun vs σ H Q => ∃ G B f M ps Q', Rep K G B f M σ H ∧ RL K H B G.C ps vs ∧ g ps f Q' ∧ ∀ f' σ', Q' f' → Rep K G B f' M σ' H → Wp ws σ σ' → Q σ' H
structure RG (X : Cx) (t : Expr) (ws : List Nat) (g : FG) : Prop where
  pg : PG X t (tG X.K ws g)
structure RGs (X : Cx) (ts : List Expr) (ws : List Nat) (g : FGs) : Prop where
  pgs : PGs X ts (tGs X.K ws g)
theorem _root_.L2.PG.imp {X : Cx} {e : Expr} {t t' : TG} (h : PG X e t) (w : ∀ v σ H Q, t' v σ H Q → t v σ H Q) : PG X e t' := ⟨fun pins s σ H v u Q I r q => h.run pins s σ H v u Q I r (w v σ H Q q)⟩
theorem _root_.L2.PGs.imp {X : Cx} {es : List Expr} {t t' : TGs} (h : PGs X es t) (w : ∀ v σ H Q, t' v σ H Q → t v σ H Q) : PGs X es t' := ⟨fun pins s σ H v u Q I r q => h.run pins s σ H v u Q I r (w v σ H Q q)⟩
section
variable {X : Cx} {t : Expr} {ts : List Expr} {ws ws' : List Nat} {g : FG} {gs : FGs} {pos : Pos}
def gN (i : Nat) : FG := fun p f k => k (st f i (some (.v p)))
theorem rg_name {i : Nat} {x : Str} (hN : X.N.Nodup) (hi : X.N[i]? = some x) (hx : Loc X.env.scope x) (hf : X.fn x = true ∨ X.env.scope.names.lookup x = some .local := by first | exact .inl rfl | exact .inr rfl | assumption) : RG X (.Name x pos) [i] (gN i) :=
  ⟨(pg_name hN hi hx hf).imp fun v σ H Q ⟨G, B, f, M, p, Q', rep, r, hg, k⟩ => k _ _ hg (rep.set r) fun vs h => wipe_set (h i (by simp))⟩
def gsNil : FGs := fun ps f k => match ps with
  | [] => k f
  | _ => False
def gsCons (g : FG) (gs : FGs) : FGs := fun ps f k => match ps with
  | p :: r => g p f fun f' => gs r f' k
  | [] => False
theorem rgs_nil : RGs X [] [] gsNil := ⟨pgs_nil.imp fun vs σ H Q ⟨G, B, f, M, ps, Q', rep, r, hg, k⟩ => by
  cases r with
  | nil => exact ⟨rfl, k _ _ hg rep fun _ _ => rfl⟩
  | cons _ _ => exact hg.elim⟩
theorem rgs_cons (h1 : RG X t ws g) (h2 : RGs X ts ws' gs) (hs : (assignEach (t :: ts) X.env).map (·.2) = assign t X.env :: (assignEach ts X.env).map (·.2) := by rfl) : RGs X (t :: ts) (ws ++ ws') (gsCons g gs) :=
  ⟨(pgs_cons h1.pg h2.pgs hs).imp fun vs σ H Q ⟨G, B, f, M, ps, Q', rep, r, hg, k⟩ => by
    cases r with
    | nil => exact hg.elim
    | cons r1 rr => exact ⟨_, _, rfl, G, B, f, M, _, _, rep, r1, hg, fun f1 σ1 q1 rep1 w1 => ⟨G, B, f1, M, _, Q', rep1, rr, q1, fun f2 σ2 q2 rep2 w2 => k _ _ q2 rep2 fun vs h => (w2 vs fun i hi => h i (List.mem_append_right _ hi)).trans (w1 vs fun i hi => h i (List.mem_append_left _ hi))⟩⟩⟩
/-- a, b = a tuple -/
def gT (n : Nat) (gs : FGs) : FG := fun p f k => match p with
  | .tup ps => ps.length = n ∧ gs ps f k
  | _ => False
theorem rg_tup {k : Nat} {n : Nat} (hc : X.calm = true) (h : RGs X ts ws gs) (hn : (assignEach ts X.env).length = n := by rfl) (hst : (assignEach ts X.env).findIdx? (·.1) = none := by rfl) : RG X (.Tuple ts k pos) ws (gT n gs) :=
  ⟨(pg_tup hc h.pgs hn hst).imp fun v σ H Q ⟨G, B, f, M, p, Q', rep, r, hg, k⟩ => by
    cases p with
    | tup ps =>
      obtain ⟨hl, hg⟩ := hg
      cases r with
      | tup hq hr => exact ⟨_, _, rfl, hq, hr.length.symm.trans hl, G, B, f, M, ps, Q', rep, hr, hg, k⟩
    | _ => exact hg.elim⟩
/-- a, b = a list -/
def gL (n : Nat) (gs : FGs) : FG := fun p f k => match p with
  | .lst ps => ps.length = n ∧ gs ps f k
  | _ => False
theorem rg_lst {k : Nat} {n : Nat} (hc : X.calm = true) (h : RGs X ts ws gs) (hn : (assignEach ts X.env).length = n := by rfl) (hst : (assignEach ts X.env).findIdx? (·.1) = none := by rfl) : RG X (.Tuple ts k pos) ws (gL n gs) :=
  ⟨(pg_unl hc h.pgs hn hst).imp fun v σ H Q ⟨G, B, f, M, p, Q', rep, r, hg, k⟩ => by
    cases p with
    | lst ps =>
      obtain ⟨hl, hg⟩ := hg
      cases r with
      | lst hq hr => exact ⟨_, _, rfl, hq.sq, hr.length.symm.trans hl, G, B, f, M, ps, Q', rep, hr, hg, k⟩
    | _ => exact hg.elim⟩
/-- targets = value -/
def sAsg (me : FE) (g : FG) : FS := fun D f M => me f M fun x M1 => match x with
  | .v p => g p f fun f' => D.nx f' M1
  | .b _ => False
theorem rs_asg {tg e : Expr} {me : FE} (he : RE X e me) (hg : RG X tg ws g) (hs : swapsWithSole [tg] e pos.line X.env = pure false := by rfl) (hw : swappedStores [tg] e X.env = pure none := by rfl)
    (h1 : (assignEach [tg] X.env).map (·.2) = [assign tg X.env] := by rfl) : RS X (.Assign [tg] e pos) (sAsg me g) := ⟨(ps_asg he.pe hg.pg hs hw h1).imp fun D σ H ⟨G, B, f, M, D', rep, hm, k⟩ =>
  ⟨G, B, f, M, _, rep, hm, fun x M1 v H1 q rep1 r1 c1 => by
    cases x with
    | v p => exact ⟨G, B, f, M1, p, _, rep1, r1, q, fun f' σ' q' rep' _ => k.nx _ _ _ _ _ q' rep'⟩
    | b xs => exact q.elim⟩⟩
end
end Fl

namespace Fl
open PySem PySem.Spec PyProof.Rows L2

/-! ### tests -/
section
variable {X : Cx} {e a b c : Expr} {es rest : List Expr} {m ma mb mc : FE} {ta tb : FT} {pos : Pos}
/-- truth -/
def truP : EV → Bool
  | .v .non => false
  | .v (.bl b) => b
  | .v (.int i) => i != 0
  | .v (.str s) => s.length != 0
  | .v (.tup xs) => !xs.isEmpty
  | .v (.lst xs) => !xs.isEmpty
  | .v (.fro xs) => !xs.isEmpty
  | .v (.cell _) => true
  | .v (.xtp _) => true
  | .b xs => !xs.isEmpty
def okTru : EV → Prop
  | .v (.cell _) => False
  | .v (.xtp _) => False
  | .v (.str s) => s.length ≤ sizeLine
  | _ => True
theorem empty_rl {K : PySem.W.Frag} {H : Hp} {B C : Addr → Prop} {xs : List PV} {vs : List V} (r : RL K H B C xs vs) : (!vs.isEmpty) = !xs.isEmpty := by
  cases r <;> rfl
def tTru (m : FE) : FT := fun f M Q => m f M fun x M1 => okTru x ∧ Q (truP x) M1
/-- of what is a bool -/
def tB1 (m : FE) : FT := fun f M Q => m f M fun x M1 => match x with
  | .v (.bl b) => Q b M1
  | _ => False
theorem rt_val (h : RE X e m) (he : ∀ whole, isTrue e X.env whole = (do let v ← whole; standAt e.pos; holding [v] (truthy v)) := by intro _; rfl) : RT X e (tB1 m) := by
  refine ⟨(pt_val h.pe he).imp fun σ H Q ⟨G, B, f, M, Q', rep, hm, k⟩ => ⟨G, B, f, M, _, rep, hm, fun x M1 v H1 q rep1 r1 c1 => ?_⟩⟩
  split at q
  · cases r1
    exact ⟨_, rfl, k _ _ _ q rep1 c1⟩
  · exact q.elim
def cB (op : O2) (ma mb : FE) : FT := fun f M Q => ma f M fun x M1 => mb f M1 fun y M2 => op M2 x y fun p => match p with
  | .bl b => Q b M2
  | _ => False
theorem rt_cmp {op : CmpOp} {r : R2} {o : O2} (h : OpR X (compareOp op) r) (ho : Op2 X.K r o) (ha : RE X a ma) (hb : RE X b mb) (hm : behindInMarks op b = false) : RT X (.Compare a [op] [b] pos) (cB o ma mb) :=
  ⟨(pt_cmpR h ha.pe hb.pe hm).imp fun σ H Q ⟨G, B, f, M, Q', rep, hm, k⟩ => ⟨G, B, f, M, _, rep, hm, fun x M1 v H1 h1 rep1 r1 c1 => ⟨G, B, f, M1, _, rep1, h1, fun y M2 w H2 h2 rep2 r2 c2 =>
    ho G B f M2 σ H2 x y v w _ _ rep2 (r1.evc rep1 c2) r2 h2 fun p u H3 h3 rep3 r3 c3 => by
      split at h3
      · cases r3
        exact ⟨_, rfl, k _ _ _ h3 rep3 ((c1.trans c2).trans c3)⟩
      · exact h3.elim⟩⟩⟩
/-- a op b op' c -/
def cCh (op op' : O2) (ma mb mc : FE) : FT := fun f M Q => ma f M fun x M1 => mb f M1 fun y M2 => op M2 x y fun p => match p with
  | .bl b => (b = true → mc f M2 fun z M3 => op' M3 y z fun p => match p with
    | .bl b => Q b M3
    | _ => False) ∧ (b = false → Q false M2)
  | _ => False
theorem ch_ok {K : PySem.W.Frag} {r r' : R2} {o o' : O2} (ho : Op2 K r o) (ho' : Op2 K r' o') {σ : L2.St} {H : Hp} {Q : Bool → Hp → Prop} (h : tT K (cCh o o' ma mb mc) σ H Q) : tChain r r' (tE K ma) (tE K mb) (tE K mc) σ H (fun x H' => ∃ k, x = .bl k ∧ Q k H') := by
  obtain ⟨G, B, f, M, Q', rep, hm, k⟩ := h
  refine ⟨G, B, f, M, _, rep, hm, fun x M1 v H1 h1 rep1 r1 c1 => ⟨G, B, f, M1, _, rep1, h1, fun y M2 w H2 h2 rep2 r2 c2 => ?_⟩⟩
  refine ho G B f M2 σ H2 x y v w _ _ rep2 (r1.evc rep1 c2) r2 h2 fun p u H3 h3 rep3 r3 c3 => ?_
  split at h3
  · cases r3
    refine ⟨_, rfl, ?_⟩
    split
    · rename_i hb
      refine ⟨G, B, f, M2, _, rep3, h3.1 hb, fun z M4 t H4 h4 rep4 r4 c4 => ?_⟩
      refine ho' G B f M4 σ H4 y z w t _ _ rep4 ((r2.evc rep2 c3).evc rep3 c4) r4 h4 fun p u H5 h5 rep5 r5 c5 => ?_
      split at h5
      · cases r5
        exact ⟨_, rfl, k _ _ _ h5 rep5 ((((c1.trans c2).trans c3).trans c4).trans c5)⟩
      · exact h5.elim
    · rename_i hb
      exact ⟨_, rfl, k _ _ _ (h3.2 (by simpa using hb)) rep3 ((c1.trans c2).trans c3)⟩
  · exact h3.elim
theorem rt_chain {op op' : CmpOp} {r r' : R2} {o o' : O2} (h : OpR X (compareOp op) r) (h' : OpR X (compareOp op') r') (ho : Op2 X.K r o) (ho' : Op2 X.K r' o') (ha : RE X a ma) (hb : RE X b mb) (hc : RE X c mc)
    (hm : lastMarks [op, op'] [b, c] = false := by with_unfolding_all rfl) : RT X (.Compare a [op, op'] [b, c] pos) (cCh o o' ma mb mc) := ⟨(pt_chain h h' ha.pe hb.pe hc.pe hm).imp fun σ H Q q => ch_ok ho ho' q⟩
/-- a test as a value -/
def eT (t : FT) : FE := fun f M Q => t f M fun b M1 => Q (.v (.bl b)) M1
theorem re_chain {op op' : CmpOp} {r r' : R2} {o o' : O2} (h : OpR X (compareOp op) r) (h' : OpR X (compareOp op') r') (ho : Op2 X.K r o) (ho' : Op2 X.K r' o') (ha : RE X a ma) (hb : RE X b mb) (hc : RE X c mc)
    (hm : lastMarks [op, op'] [b, c] = false := by with_unfolding_all rfl) : RE X (.Compare a [op, op'] [b, c] pos) (eT (cCh o o' ma mb mc)) := by
  refine ⟨⟨fun pins s σ H Q I q => ?_⟩⟩
  have q' : tT X.K (cCh o o' ma mb mc) σ H (fun b H1 => Q (.bl b) H1) := by
    obtain ⟨G, B, f, M, Q', rep, hm, k⟩ := q
    exact ⟨G, B, f, M, _, rep, hm, fun b M1 H1 q1 rep1 c1 => k _ _ _ _ q1 rep1 (R.bl b) c1⟩
  refine thn ((pe_chain h h' ha.pe hb.pe hc.pe hm).run pins s σ H _ I (ch_ok ho ho' q')) fun v s1 ⟨x, H1, I1, r1, k, e, q1⟩ => ?_
  subst e
  exact ⟨_, H1, I1, r1, q1⟩
def tAnd2 (t u : FT) : FT := fun f M Q => t f M fun b M1 => (b = true → u f M1 Q) ∧ (b = false → Q false M1)
def tOr2 (t u : FT) : FT := fun f M Q => t f M fun b M1 => (b = true → Q true M1) ∧ (b = false → u f M1 Q)
def tNot1 (t : FT) : FT := fun f M Q => t f M fun b M1 => Q (!b) M1
theorem RW.rt (h : RW X e ta) : RT X e ta := ⟨h.pw.pt⟩
theorem rw_and1 (ha : RT X a ta) : RW X (.BoolOp .And [a] pos) ta := ⟨pw_and1 ha.pt⟩
theorem rw_or1 (ha : RT X a ta) : RW X (.BoolOp .Or [a] pos) ta := ⟨pw_or1 ha.pt⟩
theorem rw_and (ha : RT X a ta) (hb : RW X (.BoolOp .And (b :: rest) pos) tb) : RW X (.BoolOp .And (a :: b :: rest) pos) (tAnd2 ta tb) := ⟨(pw_and ha.pt hb.pw).imp fun σ H Q ⟨G, B, f, M, Q', rep, hm, k⟩ =>
  ⟨G, B, f, M, _, rep, hm, fun b M1 H1 q rep1 c1 => by
    cases b with
    | true => rw [if_pos rfl]; exact ⟨G, B, f, M1, _, rep1, q.1 rfl, fun b M2 H2 q2 rep2 c2 => k _ _ _ q2 rep2 (c1.trans c2)⟩
    | false => rw [if_neg Bool.false_ne_true]; exact k _ _ _ (q.2 rfl) rep1 c1⟩⟩
theorem rw_or (ha : RT X a ta) (hb : RW X (.BoolOp .Or (b :: rest) pos) tb) : RW X (.BoolOp .Or (a :: b :: rest) pos) (tOr2 ta tb) := ⟨(pw_or ha.pt hb.pw).imp fun σ H Q ⟨G, B, f, M, Q', rep, hm, k⟩ =>
  ⟨G, B, f, M, _, rep, hm, fun b M1 H1 q rep1 c1 => by
    cases b with
    | true => rw [if_pos rfl]; exact k _ _ _ (q.1 rfl) rep1 c1
    | false => rw [if_neg Bool.false_ne_true]; exact ⟨G, B, f, M1, _, rep1, q.2 rfl, fun b M2 H2 q2 rep2 c2 => k _ _ _ q2 rep2 (c1.trans c2)⟩⟩⟩
theorem rt_not (ha : RT X a ta) : RT X (.UnaryOp .Not a pos) (tNot1 ta) := ⟨(pt_not ha.pt).imp fun σ H Q ⟨G, B, f, M, Q', rep, hm, k⟩ =>
  ⟨G, B, f, M, _, rep, hm, fun b M1 H1 q rep1 c1 => k _ _ _ q rep1 c1⟩⟩
/-- truth of a value of any kind -/
theorem truV {K : PySem.W.Frag} {G : Gh} {B : Addr → Prop} {H : Hp} {v : V} {x : EV} (h : RV K G B H x v) (ok : okTru x) : TruV K v H (truP x) := by
  cases x with
  | v p =>
    have h' : R K H B G.C p v := h
    clear h
    cases h' with
    | non => rfl
    | bl b => rfl
    | int i => rfl
    | str s => exact ⟨ok, by
        show ((s.length : Nat) != 0) = ((s.length : Int) != 0)
        by_cases e : s.length = 0
        · rw [e]; rfl
        · have e' : ¬ (s.length : Int) = 0 := by omega
          rw [bne_iff_ne.mpr e, bne_iff_ne.mpr e']⟩
    | tup h1 r => exact .inr (.inl ⟨_, h1, (empty_rl r).symm⟩)
    | lst h1 r => exact .inl ⟨_, h1.sq, (empty_rl r).symm⟩
    | fro h1 r => exact .inl ⟨_, h1.sq, (empty_rl r).symm⟩
    | cell h1 => exact ok.elim
    | xtp h1 h2 => exact ok.elim
  | b xs =>
    obtain ⟨a, vs, e, hb, hc, h0, ha, hr⟩ := h
    subst e
    exact .inl ⟨vs, .of ha, (empty_rl hr).symm⟩
theorem rt_tru (h : RE X e m) (he : ∀ whole, isTrue e X.env whole = (do let v ← whole; standAt e.pos; holding [v] (truthy v)) := by intro _; rfl) : RT X e (tTru m) :=
  ⟨(pt_truth h.pe he).imp fun σ H Q ⟨G, B, f, M, Q', rep, hm, k⟩ => ⟨G, B, f, M, _, rep, hm, fun x M1 v H1 q rep1 r1 c1 => ⟨_, truV r1 q.1, k _ _ _ q.2 rep1 c1⟩⟩⟩
/-- not x, x and y, x or y as values -/
def eNot (m : FE) : FE := fun f M Q => m f M fun x M1 => okTru x ∧ Q (.v (.bl (!truP x))) M1
def eAnd (m m2 : FE) : FE := fun f M Q => m f M fun x M1 => okTru x ∧ (truP x = true → m2 f M1 Q) ∧ (truP x = false → Q x M1)
def eOr (m m2 : FE) : FE := fun f M Q => m f M fun x M1 => okTru x ∧ (truP x = true → Q x M1) ∧ (truP x = false → m2 f M1 Q)
theorem re_not (h : RE X a m) : RE X (.UnaryOp .Not a pos) (eNot m) := ⟨(pe_notT h.pe).imp fun σ H Q ⟨G, B, f, M, Q', rep, hm, k⟩ =>
  ⟨G, B, f, M, _, rep, hm, fun x M1 v H1 q rep1 r1 c1 => ⟨_, truV r1 q.1, k _ _ _ _ q.2 rep1 (R.bl _) c1⟩⟩⟩
theorem re_one {op} (h : RE X a m) : RE X (.BoolOp op [a] pos) m := ⟨pe_one h.pe⟩
theorem re_and (h : RE X a ma) (hb : RE X (.BoolOp .And (b :: rest) pos) mb) : RE X (.BoolOp .And (a :: b :: rest) pos) (eAnd ma mb) := ⟨(pe_andT h.pe hb.pe).imp fun σ H Q ⟨G, B, f, M, Q', rep, hm, k⟩ =>
  ⟨G, B, f, M, _, rep, hm, fun x M1 v H1 q rep1 r1 c1 => ⟨_, truV r1 q.1, by
    split
    · rename_i e
      exact ⟨G, B, f, M1, _, rep1, q.2.1 e, fun y M2 w H2 q2 rep2 r2 c2 => k _ _ _ _ q2 rep2 r2 (c1.trans c2)⟩
    · rename_i e
      exact k _ _ _ _ (q.2.2 (by simpa using e)) rep1 r1 c1⟩⟩⟩
theorem re_or (h : RE X a ma) (hb : RE X (.BoolOp .Or (b :: rest) pos) mb) : RE X (.BoolOp .Or (a :: b :: rest) pos) (eOr ma mb) := ⟨(pe_orT h.pe hb.pe).imp fun σ H Q ⟨G, B, f, M, Q', rep, hm, k⟩ =>
  ⟨G, B, f, M, _, rep, hm, fun x M1 v H1 q rep1 r1 c1 => ⟨_, truV r1 q.1, by
    split
    · rename_i e
      exact k _ _ _ _ (q.2.1 e) rep1 r1 c1
    · rename_i e
      exact ⟨G, B, f, M1, _, rep1, q.2.2 (by simpa using e), fun y M2 w H2 q2 rep2 r2 c2 => k _ _ _ _ q2 rep2 r2 (c1.trans c2)⟩⟩⟩⟩
def eIf (t : FT) (ma mb : FE) : FE := fun f M Q => t f M fun b M1 => (b = true → ma f M1 Q) ∧ (b = false → mb f M1 Q)
theorem re_if {t : FT} (hc : RT X c t) (ha : RE X a ma) (hb : RE X b mb) : RE X (.IfExp c a b pos) (eIf t ma mb) := ⟨(pe_ifExp hc.pt ha.pe hb.pe).imp fun σ H Q ⟨G, B, f, M, Q', rep, hm, k⟩ =>
  ⟨G, B, f, M, _, rep, hm, fun x M1 H1 q rep1 c1 => by
    cases x with
    | true => rw [if_pos rfl]; exact ⟨G, B, f, M1, _, rep1, q.1 rfl, fun y M2 w H2 q2 rep2 r2 c2 => k _ _ _ _ q2 rep2 r2 (c1.trans c2)⟩
    | false => rw [if_neg Bool.false_ne_true]; exact ⟨G, B, f, M1, _, rep1, q.2 rfl, fun y M2 w H2 q2 rep2 r2 c2 => k _ _ _ _ q2 rep2 r2 (c1.trans c2)⟩⟩⟩
end

/-! ### calls of defs -/
abbrev PSp := List PV → Sto → (PV → Sto → Prop) → Prop
def spOf (K : PySem.W.Frag) (psp : PSp) : Sp := fun vs H Q _ => ∃ (B0 C : Addr → Prop) (M : Sto) (ps : List PV) (Q' : PV → Sto → Prop),
  (∀ a, C a → B0 a) ∧ (∀ a, B0 a → Mut (H a)) ∧ Cells K B0 C H M ∧ RL K H B0 C ps vs ∧ psp ps M Q' ∧
  ∀ p M' v H', Q' p M' → Cells K B0 C H' M' → R K H' B0 C p v → EvC C H H' → Q v H'
def eCall (psp : PSp) (ma : FA) : FE := fun f M Q => ma f M fun xs M1 => match pvs xs with
  | some ps => psp ps M1 fun p M2 => Q (.v p) M2
  | none => False
/-- a list of one's own is handed to be read: nothing that is handed back may hold it -/
def lend : List EV → List PV
  | [] => []
  | x :: r => outP x :: lend r
mutual
def noL : PV → Bool
  | .tup xs => noLs xs
  | .lst _ => false
  | .xtp _ => false
  | .fro xs => noLs xs
  | _ => true
def noLs : List PV → Bool
  | [] => true
  | x :: xs => noL x && noLs xs
end
def flatM (M : Sto) : Prop := ∀ a xs, M a = some xs → noLs xs = true
def eCallB (psp : PSp) (ma : FA) : FE := fun f M Q => ma f M fun xs M1 => psp (lend xs) M1 fun p M2 => noL p = true ∧ flatM M2 ∧ Q (.v p) M2
theorem noL_tup (xs : List PV) : noL (.tup xs) = noLs xs := by rw [noL]
theorem noL_fro (xs : List PV) : noL (.fro xs) = noLs xs := by rw [noL]
theorem noLs_cons (x : PV) (xs : List PV) : noLs (x :: xs) = (noL x && noLs xs) := by rw [noLs]
mutual
theorem R.noL {K : PySem.W.Frag} {H : Hp} {B B' C : Addr → Prop} : ∀ {x : PV} {v : V}, R K H B C x v → Fl.noL x = true → R K H B' C x v
  | _, _, .non, _ => .non
  | _, _, .bl b, _ => .bl b
  | _, _, .int i, _ => .int i
  | _, _, .str s, _ => .str s
  | _, _, .tup h t, q => .tup h (RL.noL t ((noL_tup _).symm.trans q))
  | _, _, .lst h t, q => by rw [Fl.noL] at q; cases q
  | _, _, .fro h t, q => .fro h (RL.noL t ((noL_fro _).symm.trans q))
  | _, _, .cell h, _ => .cell h
  | _, _, .xtp h t, q => by rw [Fl.noL] at q; cases q
theorem RL.noL {K : PySem.W.Frag} {H : Hp} {B B' C : Addr → Prop} : ∀ {xs : List PV} {vs : List V}, RL K H B C xs vs → noLs xs = true → RL K H B' C xs vs
  | _, _, .nil, _ => .nil
  | _, _, .cons h t, q => .cons (R.noL h ((Bool.and_eq_true_iff.mp ((noLs_cons _ _).symm.trans q)).1)) (RL.noL t ((Bool.and_eq_true_iff.mp ((noLs_cons _ _).symm.trans q)).2))
end
/-- the addresses of the lists of one's own among the arguments -/
def lent : List EV → List V → Addr → Prop
  | .b _ :: r, v :: vs, a => v = .ref a ∨ lent r vs a
  | .v _ :: r, _ :: vs, a => lent r vs a
  | _, _, _ => False
theorem lend_rl {K : PySem.W.Frag} {G : Gh} {B B' : Addr → Prop} {H : Hp} (w : ∀ a, B' a → B a) : ∀ {xs : List EV} {vs : List V}, RVL K G B H xs vs → (∀ a, lent xs vs a → ¬ B' a) → RL K H B' G.C (lend xs) vs
  | [], [], _, _ => .nil
  | .v p :: r, v :: vs, ⟨h1, h2⟩, n => .cons (R.weak w h1) (lend_rl w h2 fun a h => n a h)
  | .b ys :: r, v :: vs, ⟨⟨a, us, e, hb, hc, h0, ha, hr⟩, h2⟩, n => by
    subst e
    exact .cons (.lst ⟨ha, n a (.inl rfl)⟩ (hr.weak w)) (lend_rl w h2 fun a h => n a (.inr h))
theorem lent_nc {K : PySem.W.Frag} {G : Gh} {B : Addr → Prop} {H : Hp} : ∀ {xs : List EV} {vs : List V} {a : Addr}, RVL K G B H xs vs → lent xs vs a → ¬ G.C a
  | .v p :: r, v :: vs, a, ⟨h1, h2⟩, h => lent_nc h2 h
  | .b ys :: r, v :: vs, a, ⟨⟨c, us, e, hb, hc, h0, ha, hr⟩, h2⟩, h => by
    rcases h with h | h
    · rw [e] at h
      cases h
      exact hc
    · exact lent_nc h2 h
section
variable {X : Cx} {CX : CXT} {k : Nat} {fa : Addr} {fd : FuncData} {ps : List Str} {psp : PSp} {E : XK} {x : Str} {p pos : Pos} {e : Expr} {es : List Expr} {t : FA}
theorem re_call (F : FnOk X.prog X.w X.K X.mg X.base CX k fa fd ps (spOf X.K psp)) (hr : Room k X.A) (hg : Gl X x) (hm : X.mg x = some (.ref fa)) (hk : PySem.W.keepIn X.K (.ref fa) = true) (hb : Binds X.K fd ps []) (hx : Passes CX X E)
    (ha : RA X (e :: es) t) (hdb : (x == ("__debug__" : Str)) = false := by decide) (he : starEach (e :: es) X.env = (false, eval e X.env) :: starEach es X.env := by rfl) (hpl : (backTo pos (starEach es X.env)).any (·.1) = false := by rfl) :
    RE X (.Call (.Name x p) (e :: es) [] pos) (eCall psp t) := ⟨(pe_call F hr hg hm hk hb .nil hx ha.pa hdb he hpl).imp fun σ H Q ⟨G, B, f, M, Q', rep, hm, k⟩ => ⟨G, B, f, M, _, rep, hm, fun xs M1 vs H1 q hl rep1 r1 c1 => by
  show spOf X.K psp (vs ++ []) H1 Q E
  rw [List.append_nil]
  split at q
  · rename_i qs hqs
    exact ⟨B, G.C, M1, qs, _, rep1.sb, rep1.mu, rep1.cells, pvs_rl r1 hqs, q, fun p M2 v H2 h2 cs r2 c2 => k _ _ _ _ h2 (rep1.call c2 cs) r2 (c1.trans c2)⟩
  · exact q.elim⟩⟩
theorem re_call0 (F : FnOk X.prog X.w X.K X.mg X.base CX k fa fd ps (spOf X.K psp)) (hr : Room k X.A) (hg : Gl X x) (hm : X.mg x = some (.ref fa)) (hk : PySem.W.keepIn X.K (.ref fa) = true) (hb : Binds X.K fd ps []) (hx : Passes CX X E)
    (hdb : (x == ("__debug__" : Str)) = false := by decide) : RE X (.Call (.Name x p) [] [] pos) (eCall psp aNil) := ⟨(pe_call0 F hr hg hm hk hb .nil hx hdb).imp fun σ H Q ⟨G, B, f, M, Q', rep, hm, k⟩ => by
  have hm : psp [] M fun p M2 => Q' (.v p) M2 := hm
  show spOf X.K psp [] H Q E
  exact ⟨B, G.C, M, [], _, rep.sb, rep.mu, rep.cells, .nil, hm, fun p M2 v H2 h2 cs r2 c2 => k _ _ _ _ h2 (rep.call c2 cs) r2 c2⟩⟩
theorem re_callB (F : FnOk X.prog X.w X.K X.mg X.base CX k fa fd ps (spOf X.K psp)) (hr : Room k X.A) (hg : Gl X x) (hm : X.mg x = some (.ref fa)) (hk : PySem.W.keepIn X.K (.ref fa) = true) (hb : Binds X.K fd ps []) (hx : Passes CX X E)
    (ha : RA X (e :: es) t) (hdb : (x == ("__debug__" : Str)) = false := by decide) (he : starEach (e :: es) X.env = (false, eval e X.env) :: starEach es X.env := by rfl) (hpl : (backTo pos (starEach es X.env)).any (·.1) = false := by rfl) :
    RE X (.Call (.Name x p) (e :: es) [] pos) (eCallB psp t) := ⟨(pe_call F hr hg hm hk hb .nil hx ha.pa hdb he hpl).imp fun σ H Q ⟨G, B, f, M, Q', rep, hm, k⟩ => ⟨G, B, f, M, _, rep, hm, fun xs M1 vs H1 q hl rep1 r1 c1 => by
  show spOf X.K psp (vs ++ []) H1 Q E
  rw [List.append_nil]
  have w : ∀ a, (B a ∧ ¬ lent xs vs a) → B a := fun a h => h.1
  refine ⟨fun a => B a ∧ ¬ lent xs vs a, G.C, M1, lend xs, _, fun a h => ⟨rep1.sb a h, fun z => lent_nc r1 z h⟩, fun a h => rep1.mu a h.1, fun a => ⟨fun hc => ?_, (rep1.cells a).2⟩, lend_rl w r1 fun a h z => z.2 h, q, fun p M2 v H2 h2 cs r2 c2 => ?_⟩
  · obtain ⟨ys, us, h1, h2, h3⟩ := (rep1.cells a).1 hc
    exact ⟨ys, us, h1, h2, h3.weak w⟩
  · have cs' : Cells X.K B G.C H2 M2 := fun a => ⟨fun hc => by
      obtain ⟨ys, us, g1, g2, g3⟩ := (cs a).1 hc
      exact ⟨ys, us, g1, g2, g3.noL (h2.2.1 a ys g1)⟩, (cs a).2⟩
    exact k _ _ _ _ h2.2.2 (rep1.call c2 cs') (R.noL r2 h2.1) (c1.trans c2)⟩⟩
end
end Fl

namespace Fl
open PySem PySem.Spec PyProof.Rows L2

/-! ### lists of one's own, changed in place -/
section
variable {X : Cx} {e i : Expr} {m mi : FE} {pos : Pos}
theorem tyV_lst {K : PySem.W.Frag} {H : Hp} {a : Addr} {vs : List V} (h : H a = some (.lst vs)) : tyV K "list" (.ref a) H := .inl ⟨rfl, _, .inl (.inl h)⟩
/-- the slot's list, as it stands -/
theorem Rep.lst {K : PySem.W.Frag} {G : Gh} {B : Addr → Prop} {f : Fm} {M : Sto} {σ : L2.St} {H : Hp} {j : Nat} {xs : List PV} (r : Rep K G B f M σ H) (h : gt f j = some (.b xs)) : ∃ a vs, σ[j]? = some (some (.ref a)) ∧ H a = some (.lst vs) ∧ RL K H B G.C xs vs ∧ ¬ G.C a := by
  obtain ⟨v, e1, a, vs, e2, hb, hc, h0, ha, hr⟩ := r.slot j _ h
  subst e2
  exact ⟨a, vs, e1, ha, hr, hc⟩
def sApp (j : Nat) (m : FE) : FS := fun D f M => match gt f j with
  | some (.b xs) => m f M fun y M1 => match y with
    | .v p => xs.length < sizeLine ∧ D.nx (st f j (some (.b (xs ++ [p])))) M1
    | .b _ => False
  | _ => False
/-- x.append(e) -/
theorem rs_app (j : Nat) {x : Str} {np apos cpos : Pos} (ho : PE X (.Name x np) (tVar j)) (he : RE X e m)
    (hbase : attributeBase (.Name x np) "append" X.env (eval (.Name x np) X.env) = eval (.Name x np) X.env := by rfl)
    (hfew : ((backTo cpos (starEach (e :: []) X.env)).all (fun x => !x.1) && (backToKw cpos (keywordEach [] X.env)).all (fun x => x.1.isSome)
      && decide ((e :: []).length + ([] : List Keyword).length + (if ([] : List Keyword).isEmpty then 0 else 1) < 30)) = true := by rfl)
    (hline : (apos.endLine == cpos.line) = true := by rfl) (hst : starEach (e :: []) X.env = (false, eval e X.env) :: starEach [] X.env := by rfl) (hplain : (backTo cpos (starEach [] X.env)).any (·.1) = false := by rfl)
    (hs : swapsWith (.Call (.Attribute (.Name x np) "append" apos) [e] [] cpos) none pos.line X.env = pure false := by rfl) : RS X (.Expr (.Call (.Attribute (.Name x np) "append" apos) [e] [] cpos) pos) (sApp j m) := by
  refine ⟨(ps_expr (pe_bm PySem.F.plainAttrs_list PySem.F.slot_list_append PySem.F.type_list_append mt_append ho (pa_cons he.pe pa_nil hst) hbase hfew hline hst hplain) hs).imp fun D σ H ⟨G, B, f, M, D', rep, hm, k⟩ => ?_⟩
  unfold sApp at hm
  split at hm
  · rename_i xs hj
    obtain ⟨a, vs, e1, ha, hr, hc⟩ := rep.lst hj
    refine ⟨_, e1, tyV_lst ha, G, B, f, M, _, rep, hm, fun y M1 w H1 q rep1 r1 c1 => ?_⟩
    cases y with
    | b _ => exact q.elim
    | v p =>
      obtain ⟨hl, q⟩ := q
      obtain ⟨a', vs', e1', ha', hr', _⟩ := rep1.lst hj
      rw [e1] at e1'
      cases e1'
      refine ⟨a, vs', w, rfl, rfl, ha', by rw [← hr'.length]; exact hl, ?_⟩
      exact k.nx _ _ _ _ _ q (rep1.wrB e1 hj (hr'.append (.cons r1 .nil)))
  · exact hm.elim
def sPop (j : Nat) : FS := fun D f M => match gt f j with
  | some (.b xs) => xs ≠ [] ∧ D.nx (st f j (some (.b xs.dropLast))) M
  | _ => False
/-- x.pop() as a statement -/
theorem rs_pop (j : Nat) {x : Str} {np apos cpos : Pos} (ho : PE X (.Name x np) (tVar j))
    (hbase : attributeBase (.Name x np) "pop" X.env (eval (.Name x np) X.env) = eval (.Name x np) X.env := by rfl) (hline : (apos.endLine == cpos.line) = true := by rfl)
    (hs : swapsWith (.Call (.Attribute (.Name x np) "pop" apos) [] [] cpos) none pos.line X.env = pure false := by rfl) : RS X (.Expr (.Call (.Attribute (.Name x np) "pop" apos) [] [] cpos) pos) (sPop j) := by
  refine ⟨(ps_expr (pe_bm0 PySem.F.plainAttrs_list PySem.F.slot_list_pop PySem.F.type_list_pop mt_pop ho hbase hline) hs).imp fun D σ H ⟨G, B, f, M, D', rep, hm, k⟩ => ?_⟩
  unfold sPop at hm
  split at hm
  · rename_i xs hj
    obtain ⟨hne, q⟩ := hm
    obtain ⟨a, vs, e1, ha, hr, hc⟩ := rep.lst hj
    have hl := hr.length
    have hpos : 0 < xs.length := List.length_pos_iff.mpr hne
    have hlt : vs.length - 1 < vs.length := by omega
    exact ⟨_, e1, tyV_lst ha, a, vs, vs[vs.length - 1], rfl, rfl, ha, List.getElem?_eq_getElem hlt, k.nx _ _ _ _ _ q (rep.wrB e1 hj hr.dropLast)⟩
  · exact hm.elim
def sPopAt (j : Nat) (m : FE) : FS := fun D f M => match gt f j with
  | some (.b xs) => m f M fun y M1 => match y with
    | .v (.int n) => (0 ≤ n ∧ n < xs.length ∧ n < 2 ^ 62) ∧ D.nx (st f j (some (.b (xs.eraseIdx n.toNat)))) M1
    | _ => False
  | _ => False
theorem sizeOfL {I : Nat} (h : I ≤ sizeLine) : I < 2 ^ 63 := Nat.lt_of_le_of_lt h line63
/-- x[i] = e: a list of one's own, or one handed by reference -/
def sPut (j : Nat) (mi m : FE) : FS := fun D f M => m f M fun y M1 => match gt f j with
  | some (.b xs) => mi f M1 fun n M2 => match n with
    | .v (.int n) => match y with
      | .v p => (0 ≤ n ∧ n < xs.length) ∧ D.nx (st f j (some (.b (xs.set n.toNat p)))) M2
      | .b _ => False
    | _ => False
  | some (.v (.cell a)) => mi f M1 fun n M2 => match n with
    | .v (.int n) => match y with
      | .v p => match M2 a with
        | some xs => (0 ≤ n ∧ n < xs.length) ∧ D.nx f (upM M2 a (xs.set n.toNat p))
        | none => False
      | .b _ => False
    | _ => False
  | _ => False
theorem ixN_nat {n : Nat} {i : Int} (h0 : 0 ≤ i) (h1 : i < n) : ixN n i = some i.toNat := by
  unfold ixN
  rw [if_pos h0, if_pos h1]
theorem rs_put (j : Nat) {x : Str} {np tpos : Pos} (ho : PE X (.Name x np) (tVar j)) (hi : RE X i mi) (he : RE X e m)
    (ha : ∀ v, assign (.Subscript (.Name x np) i tpos) X.env v = (do
      let ov ← holding [v] (eval (.Name x np) X.env)
      let iv ← holding [v, ov] (eval i X.env)
      standAt tpos
      holding [v, ov, iv] (setItem ov iv v)
      release [v, ov, iv] []) := by intro _; rfl)
    (hs : swapsWithSole [.Subscript (.Name x np) i tpos] e pos.line X.env = pure false := by rfl) (hw : swappedStores [.Subscript (.Name x np) i tpos] e X.env = pure none := by rfl)
    (h1 : (assignEach [.Subscript (.Name x np) i tpos] X.env).map (·.2) = [assign (.Subscript (.Name x np) i tpos) X.env] := by rfl) : RS X (.Assign [.Subscript (.Name x np) i tpos] e pos) (sPut j mi m) := by
  refine ⟨(ps_asg he.pe (pg_sub ho hi.pe set_list ha) hs hw h1).imp fun D σ H ⟨G, B, f, M, D', rep, hm, k⟩ => ⟨G, B, f, M, _, rep, hm, fun y M1 v H1 q rep1 r1 c1 => ?_⟩⟩
  split at q
  · rename_i xs hj
    obtain ⟨a, vs0, e1, _, _, _⟩ := rep1.lst hj
    refine ⟨_, e1, G, B, f, M1, _, rep1, q, fun n M2 u H2 q2 rep2 r2 c2 => ?_⟩
    split at q2
    · rename_i n
      split at q2
      · rename_i p
        obtain ⟨⟨h0, hl⟩, q2⟩ := q2
        obtain ⟨a', vs, e1', ha, hr, _⟩ := rep2.lst hj
        rw [e1] at e1'
        cases e1'
        cases r2
        have r1' : R X.K H1 B G.C p v := r1
        exact ⟨a, vs, n, n.toNat, rfl, rfl, ha, ixN_nat h0 (by rw [← hr.length]; exact hl), k.nx _ _ _ _ _ q2 (rep2.wrB e1 hj (hr.set (r1'.evc rep1 c2) _))⟩
      · exact q2.elim
    · exact q2.elim
  · rename_i a hj
    obtain ⟨w, e1, r0⟩ := rep1.slot j _ hj
    cases r0 with
    | cell hc =>
    refine ⟨_, e1, G, B, f, M1, _, rep1, q, fun n M2 u H2 q2 rep2 r2 c2 => ?_⟩
    split at q2
    · rename_i n
      split at q2
      · rename_i p
        split at q2
        · rename_i xs hM
          obtain ⟨⟨h0, hl⟩, q2⟩ := q2
          obtain ⟨ys, vs, g1, g2, g3⟩ := (rep2.cells a).1 hc
          rw [hM] at g1
          cases g1
          cases r2
          have r1' : R X.K H1 B G.C p v := r1
          exact ⟨a, vs, n, n.toNat, rfl, rfl, g2, ixN_nat h0 (by rw [← g3.length]; exact hl), k.nx _ _ _ _ _ q2 (rep2.wrC hc (g3.set (r1'.evc rep1 c2) _))⟩
        · exact q2.elim
      · exact q2.elim
    · exact q2.elim
  · exact q.elim
theorem rs_popAt (j : Nat) {x : Str} {np apos cpos : Pos} (ho : PE X (.Name x np) (tVar j)) (he : RE X e m)
    (hbase : attributeBase (.Name x np) "pop" X.env (eval (.Name x np) X.env) = eval (.Name x np) X.env := by rfl)
    (hfew : ((backTo cpos (starEach (e :: []) X.env)).all (fun x => !x.1) && (backToKw cpos (keywordEach [] X.env)).all (fun x => x.1.isSome)
      && decide ((e :: []).length + ([] : List Keyword).length + (if ([] : List Keyword).isEmpty then 0 else 1) < 30)) = true := by rfl)
    (hline : (apos.endLine == cpos.line) = true := by rfl) (hst : starEach (e :: []) X.env = (false, eval e X.env) :: starEach [] X.env := by rfl) (hplain : (backTo cpos (starEach [] X.env)).any (·.1) = false := by rfl)
    (hs : swapsWith (.Call (.Attribute (.Name x np) "pop" apos) [e] [] cpos) none pos.line X.env = pure false := by rfl) : RS X (.Expr (.Call (.Attribute (.Name x np) "pop" apos) [e] [] cpos) pos) (sPopAt j m) := by
  refine ⟨(ps_expr (pe_bm PySem.F.plainAttrs_list PySem.F.slot_list_pop PySem.F.type_list_pop mt_popAt ho (pa_cons he.pe pa_nil hst) hbase hfew hline hst hplain) hs).imp fun D σ H ⟨G, B, f, M, D', rep, hm, k⟩ => ?_⟩
  unfold sPopAt at hm
  split at hm
  · rename_i xs hj
    obtain ⟨a, vs, e1, ha, hr, hc⟩ := rep.lst hj
    refine ⟨_, e1, tyV_lst ha, G, B, f, M, _, rep, hm, fun y M1 w H1 q rep1 r1 c1 => ?_⟩
    split at q
    · rename_i n
      obtain ⟨⟨h0, hl, hs62⟩, q⟩ := q
      obtain ⟨a', vs', e1', ha', hr', _⟩ := rep1.lst hj
      rw [e1] at e1'
      cases e1'
      cases r1
      have hlt : n.toNat < vs'.length := by rw [← hr'.length]; omega
      refine ⟨a, vs', n, n.toNat, vs'[n.toNat], rfl, rfl, ha', by omega, by omega, ?_, List.getElem?_eq_getElem hlt, k.nx _ _ _ _ _ q (rep1.wrB e1 hj (hr'.eraseIdx _))⟩
      have e1 : decide (0 ≤ n) = true := decide_eq_true h0
      have e2 : decide (n < (vs'.length : Int)) = true := decide_eq_true (by rw [← hr'.length]; exact hl)
      unfold seqIndex?
      simp only [if_neg (show ¬ n < 0 by omega)]
      rw [e1, e2]
      rfl
    · exact q.elim
  · exact hm.elim
end
end Fl

namespace Fl
open PySem PySem.Spec PyProof.Rows L2

/-! ### while -/
section
variable {X : Cx} {t : FT} {m : FS} {pos : Pos}
def whP (t : FT) (m : FS) (D : FEnds) : Nat → Fm → Sto → Prop
  | 0 => fun _ _ => False
  | n + 1 => fun f M => t f M fun b M1 => (b = true → m { D with nx := whP t m D n, ct := whP t m D n, bk := D.nx } f M1) ∧ (b = false → D.nx f M1)
def sWhile (t : FT) (m : FS) : FS := fun D f M => ∃ n, whP t m D n f M
theorem rs_while {c : Expr} {body : List Stmt} (hp : PassesOwn (model X.prog X.w) X.A X.env X.xe) (hc : RT X c t) (hb : RSs X body m) : RS X (.While c body [] pos) (sWhile t m) := by
  refine ⟨(ps_while hp hc.pt hb.pss).imp fun D σ H ⟨G, B, f, M, D', rep, ⟨n, hm⟩, k⟩ => ?_⟩
  refine ⟨fun n σ H => ∃ B f M, Rep X.K G B f M σ H ∧ whP t m D' n f M, ⟨n, B, f, M, rep, hm⟩, ?_⟩
  rintro n σ H ⟨B, f, M, rep, hm⟩
  cases n with
  | zero => exact hm.elim
  | succ n =>
    refine ⟨G, B, f, M, _, rep, hm, fun b M1 H1 q rep1 c1 => ?_⟩
    cases b with
    | true =>
      rw [if_pos rfl]
      refine ⟨fun σ' H' => ∃ B f M, Rep X.K G B f M σ' H' ∧ whP t m D' n f M, fun σ' H' h => ⟨n, Nat.lt_succ_self n, h⟩, G, B, f, M1, _, rep1, q.1 rfl, ?_⟩
      exact ⟨fun B f M σ H h r => ⟨B, f, M, r, h⟩, fun B f M σ H h r => k.nx _ _ _ _ _ h r, fun B f M σ H h r => ⟨B, f, M, r, h⟩, k.rt⟩
    | false =>
      rw [if_neg Bool.false_ne_true]
      exact k.nx _ _ _ _ _ (q.2 rfl) rep1
end

/-! ### what is walked -/
abbrev FI := Fm → Sto → (List PV → Sto → Prop) → Prop
def ItP (K : PySem.W.Frag) (C : Addr → Prop) (J : It) (pins : List (PV × V)) (xs : List PV) : Prop := ∀ (i : Nat) (B : Addr → Prop) (H : Hp), (∀ q ∈ pins, R K H B C q.1 q.2) → (∀ a, B a → Mut (H a)) →
  (i < xs.length → J.go i H) ∧ J.stop xs.length H ∧ ∀ v H', i < xs.length → J.yld i H v H' → ∃ x, xs[i]? = some x ∧ (∀ a o, H a = some o → H' a = some o) ∧ R K H' B C x v
def tI (K : PySem.W.Frag) (m : FI) : TI := fun σ H S => ∃ G B f M Q', Rep K G B f M σ H ∧ m f M Q' ∧ ∀ xs M' J pins H', Q' xs M' → Rep K G B f M' σ H' → EvC G.C H H' → (∀ q ∈ pins, R K H' B G.C q.1 q.2) → ItP K G.C J pins xs → S J H'
structure RI (X : Cx) (tg e : Expr) (m : FI) : Prop where
  pi : PI X tg e (tI X.K m)
theorem _root_.L2.PI.imp {X : Cx} {tg e : Expr} {t t' : TI} (h : PI X tg e t) (w : ∀ σ H Q, t' σ H Q → t σ H Q) : PI X tg e t' := ⟨fun pins s σ H Q I q => h.run pins s σ H Q I (w σ H Q q)⟩
section
variable {X : Cx} {tg e : Expr} {es : List Expr} {m : FE} {mi : FI} {pos : Pos} {g : FG} {ws : List Nat} {mb : FS}
/-- a list, a tuple -/
def iLst (m : FE) : FI := fun f M Q => m f M fun x M1 => match x with
  | .v (.lst xs) => Q xs M1
  | _ => False
def iTup (m : FE) : FI := fun f M Q => m f M fun x M1 => match x with
  | .v (.tup xs) => Q xs M1
  | _ => False
theorem ri_lst (h : RE X e m) : RI X tg e (iLst m) := ⟨(pi_list h.pe).imp fun σ H S ⟨G, B, f, M, Q', rep, hm, k⟩ => ⟨G, B, f, M, _, rep, hm, fun x M1 v H1 q rep1 r1 c1 => by
  split at q
  · rename_i xs
    have r1 : R X.K H1 B G.C (.lst xs) v := r1
    have r2 := r1
    cases r1 with
    | @lst a vs _ hq hr =>
    refine ⟨a, rfl, ⟨_, hq.sq⟩, k xs M1 _ [(.lst xs, .ref a)] H1 q rep1 c1 (fun z hz => by simp at hz; subst hz; exact r2) fun i B' H' hp mu => ?_⟩
    have hp' := hp (.lst xs, .ref a) (by simp)
    cases hp' with
    | lst hq' hr' =>
    refine ⟨fun hi => ?_, ⟨_, hq'.sq, Nat.le_of_eq hr'.length.symm⟩, fun w H2 hi y => ?_⟩
    · have hi' := hi
      rw [hr'.length] at hi'
      exact ⟨_, _, hq'.sq, List.getElem?_eq_getElem hi'⟩
    · obtain ⟨e, y⟩ := y
      subst e
      obtain ⟨x, h1, h2⟩ := hr'.get' (y _ hq'.sq)
      exact ⟨x, h1, fun _ _ z => z, h2⟩
  · exact q.elim⟩⟩
theorem ri_tup (h : RE X e m) : RI X tg e (iTup m) := ⟨(pi_tup h.pe).imp fun σ H S ⟨G, B, f, M, Q', rep, hm, k⟩ => ⟨G, B, f, M, _, rep, hm, fun x M1 v H1 q rep1 r1 c1 => by
  split at q
  · rename_i xs
    have r1 : R X.K H1 B G.C (.tup xs) v := r1
    have r2 := r1
    cases r1 with
    | @tup a vs _ hq hr =>
    refine ⟨a, rfl, ⟨_, hq⟩, k xs M1 _ [(.tup xs, .ref a)] H1 q rep1 c1 (fun z hz => by simp at hz; subst hz; exact r2) fun i B' H' hp mu => ?_⟩
    have hp' := hp (.tup xs, .ref a) (by simp)
    cases hp' with
    | tup hq' hr' =>
    refine ⟨fun hi => ?_, ⟨_, hq', Nat.le_of_eq hr'.length.symm⟩, fun w H2 hi y => ?_⟩
    · have hi' := hi
      rw [hr'.length] at hi'
      exact ⟨_, _, hq', List.getElem?_eq_getElem hi'⟩
    · obtain ⟨e, y⟩ := y
      subst e
      obtain ⟨x, h1, h2⟩ := hr'.get' (y _ hq')
      exact ⟨x, h1, fun _ _ z => z, h2⟩
  · exact q.elim⟩⟩
/-- lo, lo + 1, .. below hi -/
def rng (lo : Int) : Nat → List PV
  | 0 => []
  | n + 1 => .int lo :: rng (lo + 1) n
theorem rng_length : ∀ (n : Nat) (lo : Int), (rng lo n).length = n
  | 0, _ => rfl
  | n + 1, lo => congrArg (· + 1) (rng_length n (lo + 1))
theorem rng_get : ∀ (n : Nat) (lo : Int) (i : Nat), i < n → (rng lo n)[i]? = some (.int (lo + i))
  | n + 1, lo, 0, _ => by
    show some (PV.int lo) = _
    rw [show lo + ((0 : Nat) : Int) = lo by omega]
  | n + 1, lo, i + 1, h => by
    show (rng (lo + 1) n)[i]? = _
    rw [rng_get n (lo + 1) i (by omega)]
    rw [show lo + 1 + (i : Int) = lo + ((i + 1 : Nat) : Int) by omega]
theorem it_rng {K : PySem.W.Frag} {C : Addr → Prop} (lo : Int) (n : Nat) : ItP K C (Itr lo n) [] (rng lo n) := fun i B H _ _ => by
  rw [rng_length]
  refine ⟨fun h => h, Nat.le_refl _, fun v H' hi y => ⟨.int (lo + i), rng_get n lo i hi, ?_, ?_⟩⟩
  · rw [y.1]
    exact fun _ _ z => z
  · rw [y.2]
    exact .int _
def iR1 (ma : FA) : FI := fun f M Q => ma f M fun xs M1 => match xs with
  | [.v (.int n)] => (-(2 ^ 62) ≤ n ∧ n < 2 ^ 62) ∧ Q (rng 0 n.toNat) M1
  | _ => False
def iR2 (ma : FA) : FI := fun f M Q => ma f M fun xs M1 => match xs with
  | [.v (.int i), .v (.int n)] => (-(2 ^ 62) ≤ i ∧ i < 2 ^ 62 ∧ -(2 ^ 62) ≤ n ∧ n < 2 ^ 62) ∧ Q (rng i (n - i).toNat) M1
  | _ => False
theorem ri_rng1 {a : Expr} {ma : FA} {p : Pos} (hg : Gl X "range") (hm : X.mg "range" = none) (ha : RA X [a] ma) (hs : starEach [a] X.env = [(false, eval a X.env)] := by rfl) : RI X tg (.Call (.Name "range" p) [a] [] pos) (iR1 ma) :=
  ⟨(pi_range1 hg hm ha.pa hs).imp fun σ H S ⟨G, B, f, M, Q', rep, hm, k⟩ => ⟨G, B, f, M, _, rep, hm, fun xs M1 vs H1 q hl rep1 r1 c1 => by
    split at q
    · rename_i n
      match vs, r1 with
      | [v], ⟨r, _⟩ =>
        cases r
        exact ⟨n, rfl, q.1.1, q.1.2, k _ _ _ [] _ q.2 rep1 c1 (by simp) (it_rng 0 _)⟩
    · exact q.elim⟩⟩
theorem ri_rng2 {a b : Expr} {ma : FA} {p : Pos} (hg : Gl X "range") (hm : X.mg "range" = none) (ha : RA X [a, b] ma) (hs : starEach [a, b] X.env = [(false, eval a X.env), (false, eval b X.env)] := by rfl) (hs2 : starEach [b] X.env = [(false, eval b X.env)] := by rfl) :
    RI X tg (.Call (.Name "range" p) [a, b] [] pos) (iR2 ma) :=
  ⟨(pi_range2 hg hm ha.pa hs hs2).imp fun σ H S ⟨G, B, f, M, Q', rep, hm, k⟩ => ⟨G, B, f, M, _, rep, hm, fun xs M1 vs H1 q hl rep1 r1 c1 => by
    split at q
    · rename_i i n
      match vs, r1 with
      | [v, w], ⟨r, r', _⟩ =>
        cases r
        cases r'
        exact ⟨i, n, rfl, q.1, k _ _ _ [] _ q.2 rep1 c1 (by simp) (it_rng i _)⟩
    · exact q.elim⟩⟩

/-! ### for -/
def foP (g : FG) (mb : FS) (D : FEnds) : List PV → Fm → Sto → Prop
  | [] => D.nx
  | x :: xs => fun f M => g x f fun f1 => mb { D with nx := foP g mb D xs, ct := foP g mb D xs, bk := D.nx } f1 M
def sFor (mi : FI) (g : FG) (mb : FS) : FS := fun D f M => mi f M fun xs M1 => foP g mb D xs f M1
theorem Rep.pinned {K : PySem.W.Frag} {G : Gh} {B : Addr → Prop} {f : Fm} {M : Sto} {σ : L2.St} {H : Hp} {pins : List (PV × V)} (r : Rep K G B f M σ H) (h : ∀ q ∈ pins, R K H B G.C q.1 q.2) : Rep K { G with pins := pins ++ G.pins } B f M σ H :=
  ⟨r.len, fun i x hx => by
    obtain ⟨v, h1, h2⟩ := r.slot i x hx
    exact ⟨v, h1, by cases x <;> exact h2⟩, r.sep, r.cells, r.keep, r.mu, r.sub, r.amb, r.amb0, fun q hq => (List.mem_append.mp hq).elim (h q) (r.pin q)⟩
theorem Rep.unpinned {K : PySem.W.Frag} {G : Gh} {B : Addr → Prop} {f : Fm} {M : Sto} {σ : L2.St} {H : Hp} {pins : List (PV × V)} (r : Rep K { G with pins := pins ++ G.pins } B f M σ H) : Rep K G B f M σ H :=
  ⟨r.len, fun i x hx => by
    obtain ⟨v, h1, h2⟩ := r.slot i x hx
    exact ⟨v, h1, by cases x <;> exact h2⟩, r.sep, r.cells, r.keep, r.mu, r.sub, r.amb, r.amb0, fun q hq => r.pin q (List.mem_append_right _ hq)⟩
theorem rs_for {body : List Stmt} (hp : PassesOwn (model X.prog X.w) X.A X.env X.xe) (hc : X.calm = true) (hi : RI X tg e mi) (hg : RG X tg ws g) (hb : RSs X body mb)
    (hs : ∀ x, foldedSetIterable e X.env x = pure x := by intro _; rfl) : RS X (.For tg e body [] pos) (sFor mi g mb) := by
  refine ⟨(ps_for hp hc hi.pi hg.pg hb.pss hs).imp fun D σ H ⟨G, B, f, M, D', rep, hm, k⟩ => ?_⟩
  refine ⟨G, B, f, M, _, rep, hm, fun xs M1 J pins H1 q rep1 c1 hpin it => ?_⟩
  refine ⟨fun i m σ H => m = xs.length - i ∧ i ≤ xs.length ∧ ∃ B f M, Rep X.K { G with pins := pins ++ G.pins } B f M σ H ∧ foP g mb D' (xs.drop i) f M, ⟨xs.length, by simp, Nat.zero_le _, B, f, M1, rep1.pinned hpin, q⟩, ?_⟩
  rintro i m σ H ⟨rfl, hi, B, f, M, rep, hm⟩
  obtain ⟨go, stop, yld⟩ := it i B H (fun q hq => rep.pin q (List.mem_append_left _ hq)) rep.mu
  by_cases hlt : i < xs.length
  · refine .inr ⟨go hlt, fun σ H => ∃ B f M, Rep X.K { G with pins := pins ++ G.pins } B f M σ H ∧ foP g mb D' (xs.drop (i + 1)) f M, fun σ' H' h => ⟨xs.length - (i + 1), by omega, rfl, hlt, h⟩, fun v H' y => ?_⟩
    obtain ⟨x, hx, gr, r⟩ := yld v H' hlt y
    have ed : xs.drop i = x :: xs.drop (i + 1) := by
      rw [List.drop_eq_getElem_cons hlt]
      rw [List.getElem?_eq_getElem hlt] at hx
      cases hx
      rfl
    rw [ed] at hm
    refine ⟨_, B, f, M, x, _, rep.grow gr, r, hm, fun f1 σ1 q1 rep1 w1 => ⟨_, B, f1, M, _, rep1, q1, ?_⟩⟩
    exact ⟨fun B f M σ H h r => ⟨B, f, M, r, h⟩, fun B f M σ H h r => k.nx _ _ _ _ _ h r.unpinned, fun B f M σ H h r => ⟨B, f, M, r, h⟩, k.rt⟩
  · have e : i = xs.length := by omega
    subst e
    rw [List.drop_length] at hm
    exact .inl ⟨stop, k.nx _ _ _ _ _ hm rep.unpinned⟩
end
end Fl

namespace Fl
open PySem PySem.Spec PyProof.Rows L2

/-! ### list comprehensions -/
structure RTs (X : Cx) (ifs : List Expr) (m : FT) : Prop where
  pts : PTs X ifs (tT X.K m)
theorem _root_.L2.PTs.imp {X : Cx} {ifs : List Expr} {t t' : TT} (h : PTs X ifs t) (w : ∀ σ H Q, t' σ H Q → t σ H Q) : PTs X ifs t' := ⟨fun pins s σ H Q I q => h.run pins s σ H Q I (w σ H Q q)⟩
def tYs : FT := fun _ M Q => Q true M
theorem rts_nil {X : Cx} : RTs X [] tYs := ⟨pts_nil.imp fun σ H Q ⟨G, B, f, M, Q', rep, hm, k⟩ => k _ _ _ hm rep .refl⟩
theorem rts_one {X : Cx} {c : Expr} {m : FT} (h : RT X c m) : RTs X [c] m := ⟨pts_one h.pt⟩
/-- the slots of a comprehension's own names forgotten -/
def wpF (f : Fm) : List Nat → Fm
  | [] => f
  | i :: r => st (wpF f r) i none
theorem Rep.wipe {K : PySem.W.Frag} {G : Gh} {B : Addr → Prop} {f : Fm} {M : Sto} {σ : L2.St} {H : Hp} (r : Rep K G B f M σ H) : ∀ ws : List Nat, Rep K G B (wpF f ws) M (L2.wipe σ ws) H
  | [] => r
  | i :: ws => (Rep.wipe r ws).drop none
def lcP (g : FG) (mt : FT) (me : FE) (fw : Fm) : List PV → List PV → Sto → (List PV → Sto → Prop) → Prop
  | [], acc, M, Q => Q acc M
  | x :: xs, acc, M, Q => g x fw fun f2 => mt f2 M fun b M2 => (b = true → me f2 M2 fun y M3 => match y with
      | .v p => lcP g mt me fw xs (acc ++ [p]) M3 Q
      | .b _ => False) ∧ (b = false → lcP g mt me fw xs acc M2 Q)
def fLc (mi : FI) (g : FG) (mt : FT) (me : FE) (ws : List Nat) : FF := fun f M Q => mi f M fun xs M1 => xs.length ≤ sizeLine ∧ lcP g mt me (wpF f ws) xs [] M1 Q
section
variable {X : Cx} {tg elt iter : Expr} {ifs : List Expr} {scope : Scope} {own : List (Str × Nat)} {pos : Pos} {mi : FI} {g : FG} {mt : FT} {me : FE} {ws : List Nat}
theorem Evo.trans {B B1 B2 : Addr → Prop} {H H1 H2 : Hp} (a : Evo B B1 H H1) (b : Evo B1 B2 H1 H2) : Evo B B2 H H2 :=
  ⟨fun c o e n => b.keep c o (a.keep c o e n) (a.safe c o e n), fun c o e n => b.safe c o (a.keep c o e n) (a.safe c o e n)⟩
/-- the heap with the new list written -/
theorem Rep.wrNew {K : PySem.W.Frag} {G : Gh} {B : Addr → Prop} {f : Fm} {M : Sto} {σ : L2.St} {H : Hp} {D : Addr} {vs ws : List V} (r : Rep K G (orp B D) f M σ H) (hn : ¬ B D) (h0 : G.H0 D = none) (hc : ¬ G.C D)
    (hs : ∀ i xs, gt f i = some (.b xs) → σ[i]? ≠ some (some (.ref D))) : Rep K G (orp B D) f M σ (upd H D (.lst ws)) ∧ Evo (orp B D) (orp B D) H (upd H D (.lst ws)) := by
  have ev : Evo (orp B D) (orp B D) H (upd H D (.lst ws)) := ⟨fun c u e n => by
    have ne : c ≠ D := fun z => n (.inr z)
    rw [upd_ne ne]
    exact e, fun _ _ _ n => n⟩
  refine ⟨⟨r.len, fun i x hi => ?_, r.sep, fun c => ⟨fun hcc => ?_, (r.cells c).2⟩, fun c o e n => ?_, fun c hb => ?_, r.sub, r.amb, r.amb0, fun q hq => (r.pin q hq).evo r.mu ev⟩, ev⟩
  · obtain ⟨v, h1, h2⟩ := r.slot i x hi
    refine ⟨v, h1, ?_⟩
    cases x with
    | v p => exact R.evo r.mu ev h2
    | b xs =>
      obtain ⟨a, us, e, hb, hc', h0', ha, hr⟩ := h2
      have ne : a ≠ D := fun z => hs i xs hi (by rw [h1, e, z])
      exact ⟨a, us, e, hb, hc', h0', by rw [upd_ne ne]; exact ha, hr.evo r.mu ev⟩
  · obtain ⟨xs, us, h1, h2, h3⟩ := (r.cells c).1 hcc
    have ne : c ≠ D := fun z => hc (by rw [← z]; exact hcc)
    exact ⟨xs, us, h1, by rw [upd_ne ne]; exact h2, h3.evo r.mu ev⟩
  · have ne : c ≠ D := fun z => by rw [z, h0] at e; cases e
    rw [upd_ne ne]
    exact r.keep c o e n
  · by_cases e : c = D
    · rw [e, upd_same]
      trivial
    · rw [upd_ne e]
      exact r.mu c hb
theorem gt_wpF {f : Fm} {i : Nat} {x : EV} : ∀ {ws : List Nat}, gt (wpF f ws) i = some x → gt f i = some x ∧ i ∉ ws
  | [], h => ⟨h, by simp⟩
  | j :: ws, h => by
    rcases gt_st h with ⟨e, q⟩ | ⟨e, q⟩
    · cases q
    · obtain ⟨h1, h2⟩ := gt_wpF q
      exact ⟨h1, by simp only [List.mem_cons, not_or]; exact ⟨e, h2⟩⟩
theorem lc_ok {K : PySem.W.Frag} {vs0 : List Nat} (hw : ∀ i ∈ ws, i ∈ vs0) {σ : L2.St} {H : Hp} {Q : VK} (h : tF K (fLc mi g mt me vs0) σ H Q) : tLc (tI K mi) (tG K ws g) (tT K mt) (tE K me) vs0 σ H Q := by
  obtain ⟨G, B, f, M, Q', rep, hm, k⟩ := h
  refine ⟨G, B, f, M, _, rep, hm, fun xs M1 J pins H1 q rep1 c1 hpin it D hD => ?_⟩
  obtain ⟨hz, q⟩ := q
  have nb : ¬ B D := rep1.nb hD
  have h0 : G.H0 D = none := rep1.fresh0 hD
  have nc : ¬ G.C D := fun z => nb (rep1.sb D z)
  have nsl : ∀ i ys, gt f i = some (.b ys) → σ[i]? ≠ some (some (.ref D)) := fun i ys hi e => by
    obtain ⟨v, e1, a, vs, e2, hb, _⟩ := rep.slot i _ hi
    rw [e] at e1
    cases e1
    cases e2
    exact nb hb
  have r0 : Rep K { G with pins := pins ++ G.pins } (orp B D) f M1 σ (upd H1 D (.lst [])) := (rep1.newL hD).pinned fun q hq => (hpin q hq).evo rep1.mu (evo_new hD)
  -- the invariant: turn, measure, heap
  refine ⟨fun i m H' => m = xs.length - i ∧ i ≤ xs.length ∧ ∃ acc vs M, Rep K { G with pins := pins ++ G.pins } (orp B D) f M σ H' ∧ H' D = some (.lst vs) ∧ RL K H' (orp B D) G.C acc vs ∧ vs.length ≤ i ∧ EvC G.C H1 H' ∧ lcP g mt me (wpF f vs0) (xs.drop i) acc M Q', ⟨xs.length, by simp, Nat.zero_le _, [], [], M1, r0, upd_same, .nil, Nat.le_refl _, .new hD, q⟩, ?_⟩
  rintro i m H' ⟨rfl, hi, acc, vs, M, rep, hD', hr, hlen, ec, hm⟩
  obtain ⟨go, stop, yld⟩ := it i (orp B D) H' (fun q hq => rep.pin q (List.mem_append_left _ hq)) rep.mu
  by_cases hlt : i < xs.length
  · refine .inr ⟨go hlt, fun H' => ∃ acc vs M, Rep K { G with pins := pins ++ G.pins } (orp B D) f M σ H' ∧ H' D = some (.lst vs) ∧ RL K H' (orp B D) G.C acc vs ∧ vs.length ≤ i + 1 ∧ EvC G.C H1 H' ∧ lcP g mt me (wpF f vs0) (xs.drop (i + 1)) acc M Q', fun H' h => ⟨xs.length - (i + 1), by omega, rfl, hlt, h⟩, fun v H2 y => ?_⟩
    obtain ⟨x, hx, gr, r⟩ := yld v H2 hlt y
    have ed : xs.drop i = x :: xs.drop (i + 1) := by
      rw [List.drop_eq_getElem_cons hlt]
      rw [List.getElem?_eq_getElem hlt] at hx
      cases hx
      rfl
    rw [ed] at hm
    have rep2 := rep.grow gr
    have ec2 : EvC G.C H' H2 := fun a o e _ => gr a o e
    have hD2 := gr _ _ hD'
    have hr2 : RL K H2 (orp B D) G.C acc vs := RL.evc (G := { G with pins := pins ++ G.pins }) hr rep ec2
    refine ⟨_, _, _, M, x, _, rep2.wipe _, r, hm, fun f3 σ3 q3 rep3 w3 => ⟨?_, ?_⟩⟩
    · rw [w3 _ hw]
      have idem : ∀ (σ : L2.St) (a b : List Nat), (∀ i ∈ a, i ∈ b) → L2.wipe (L2.wipe σ a) b = L2.wipe σ b := by
        intro σ a
        induction a with
        | nil => intro b _; rfl
        | cons j a ih =>
          intro b hb
          show L2.wipe ((L2.wipe σ a).set j none) b = _
          rw [wipe_set (hb j (by simp)), ih b fun i hi => hb i (List.mem_cons_of_mem _ hi)]
      exact idem σ _ _ fun i hi => hi
    refine ⟨_, _, f3, M, _, rep3, q3, fun b M4 H4 q4 rep4 c4 => ?_⟩
    -- what becomes of the def's own slots
    have back : ∀ {M5 : Sto} {H5 : Hp}, Rep K { G with pins := pins ++ G.pins } (orp B D) f3 M5 σ3 H5 → EvC G.C H2 H5 → Rep K { G with pins := pins ++ G.pins } (orp B D) f M5 σ H5 := fun {M5 H5} r5 e5 => rep2.call e5 r5.cells
    cases b with
    | true =>
      refine iteT ?_
      refine ⟨_, _, f3, M4, _, rep4, q4.1 rfl, fun y M5 w H5 q5 rep5 r5 c5 => ?_⟩
      cases y with
      | b _ => exact q5.elim
      | v p =>
        have e25 : EvC G.C H2 H5 := c4.trans c5
        have hD5 : H5 D = some (.lst vs) := e25 _ _ hD2 nc
        have hr5 : RL K H5 (orp B D) G.C acc vs := RL.evc (G := { G with pins := pins ++ G.pins }) hr2 rep2 e25
        have repf := back rep5 e25
        obtain ⟨repn, ev⟩ := repf.wrNew (vs := vs) (ws := vs ++ [w]) nb h0 nc nsl
        refine ⟨vs, hD5, by omega, acc ++ [p], vs ++ [w], M5, repn, upd_same, (hr5.append (.cons r5 .nil)).evo repf.mu ev, by simp; omega, ?_, q5⟩
        exact fun c o e n => by
          have ne : c ≠ D := ne_of_none e hD
          rw [upd_ne ne]
          exact ((ec.trans ec2).trans e25) c o e n
    | false =>
      refine iteF ?_
      exact ⟨acc, vs, M4, back rep4 c4, c4 _ _ hD2 nc, RL.evc (G := { G with pins := pins ++ G.pins }) hr2 rep2 c4, by omega, (ec.trans ec2).trans c4, q4.2 rfl⟩
  · have e : i = xs.length := by omega
    subst e
    rw [List.drop_length] at hm
    exact .inl ⟨stop, k acc M D vs H' hm rep.unpinned hD' hr nb h0 (c1.trans ec)⟩
theorem rf_lc (hc : X.calm = true) (hN : X.N.Nodup) (hi : RI X tg iter mi) (ok : BlkOk X.N X.env.scope scope own)
    (hg : ∀ (s : Shared) (H : Hp) (C : Addr) (cl : List (Str × Addr)) (fp : List Addr), RG (X.blk s H scope (compEnvC scope cl C X.env) fp) tg ws g) (ht : ∀ (s : Shared) (H : Hp) (C : Addr) (cl : List (Str × Addr)) (fp : List Addr), RTs (X.blk s H scope (compEnvC scope cl C X.env) fp) ifs mt)
    (he : ∀ (s : Shared) (H : Hp) (C : Addr) (cl : List (Str × Addr)) (fp : List Addr), RE (X.blk s H scope (compEnvC scope cl C X.env) fp) elt me) (hw : ∀ i ∈ ws, i ∈ own.map (·.2) := by decide) (hs : ∀ x, foldedSetIterable iter X.env x = pure x := by intro _; rfl) :
    RF X (.ListComp elt [⟨tg, iter, ifs, 0⟩] scope pos) (fLc mi g mt me (own.map (·.2))) := by
  exact ⟨(pe_lc (g := tG X.K ws g) (tt := tT X.K mt) (te := tE X.K me) hc hN hi.pi ok (fun s H C cl fp => (hg s H C cl fp).pg) (fun s H C cl fp => (ht s H C cl fp).pts) (fun s H C cl fp => (he s H C cl fp).pe) hs).imp fun σ H Q q => lc_ok hw q⟩
end
end Fl

namespace Fl
open PySem PySem.Spec PyProof.Rows L2

/-! ### a def -/
def fr0 (n : Nat) (args : List PV) : Fm := args.map (fun p => some (.v p)) ++ List.replicate n none
theorem gt_app1 : ∀ {l r : Fm} {i : Nat} {x : EV}, gt (l ++ r) i = some x → (gt l i = some x ∧ i < l.length) ∨ (l.length ≤ i ∧ gt r (i - l.length) = some x)
  | [], r, i, x, h => .inr ⟨Nat.zero_le _, h⟩
  | a :: l, r, 0, x, h => .inl ⟨h, Nat.succ_pos _⟩
  | a :: l, r, i + 1, x, h => by
    rcases gt_app1 (l := l) (r := r) (i := i) h with ⟨h1, h2⟩ | ⟨h1, h2⟩
    · exact .inl ⟨h1, Nat.succ_lt_succ h2⟩
    · exact .inr ⟨Nat.succ_le_succ h1, by rw [show i + 1 - (a :: l).length = i - l.length by simp]; exact h2⟩
theorem gt_none : ∀ {n i : Nat} {x : EV}, gt (List.replicate n none) i = some x → False
  | 0, _, _, h => nomatch h
  | n + 1, 0, _, h => nomatch h
  | n + 1, i + 1, _, h => gt_none (n := n) (i := i) h
theorem gt_args {K : PySem.W.Frag} {H : Hp} {B C : Addr → Prop} : ∀ {ps : List PV} {vs : List V} {i : Nat} {x : EV}, RL K H B C ps vs → gt (ps.map fun p => some (.v p)) i = some x → ∃ p v, x = .v p ∧ vs[i]? = some v ∧ R K H B C p v
  | _, _, _, _, .nil, h => nomatch h
  | _, _, 0, _, .cons r _, h => by cases h; exact ⟨_, _, rfl, rfl, r⟩
  | _, _, i + 1, x, .cons _ t, h => by
    obtain ⟨p, v, e, h1, h2⟩ := gt_args (i := i) t h
    exact ⟨p, v, e, by simpa using h1, h2⟩
theorem rep_start {K : PySem.W.Frag} {H : Hp} {B0 C : Addr → Prop} {M : Sto} {ps : List PV} {vs : List V} {N : List Str} (hN : vs.length ≤ N.length) (hs : ∀ a, C a → B0 a) (mu : ∀ a, B0 a → Mut (H a)) (cs : Cells K B0 C H M) (r : RL K H B0 C ps vs) :
    Rep K ⟨H, B0, C, []⟩ B0 (fr0 (N.length - vs.length) ps) M (L2.start N vs) H := by
  refine ⟨?_, fun i x h => ?_, fun i j xs ys a h1 h2 e1 e2 => ?_, cs, .refl, mu, hs, fun a h => h, fun a h z => ?_, fun q h => nomatch h⟩
  · unfold fr0 L2.start
    rw [List.length_append, List.length_append, List.length_map, List.length_map, List.length_replicate, List.length_replicate, r.length]
  · unfold fr0 at h
    rcases gt_app1 h with ⟨h1, h2⟩ | ⟨h1, h2⟩
    · obtain ⟨p, v, e, q1, q2⟩ := gt_args r h1
      subst e
      refine ⟨v, ?_, q2⟩
      unfold L2.start
      rw [List.getElem?_append_left (by rw [List.length_map]; exact (List.getElem?_eq_some_iff.mp q1).1), List.getElem?_map, q1]
      rfl
    · exact (gt_none h2).elim
  · unfold fr0 at h1
    rcases gt_app1 h1 with ⟨q1, _⟩ | ⟨_, q2⟩
    · obtain ⟨p, v, e, _⟩ := gt_args r q1
      cases e
    · exact (gt_none q2).elim
  · have := mu a h
    have z : H a = none := z
    rw [z] at this
    exact this
section
variable {P : Program} {w : World} {K : PySem.W.Frag} {mg : Str → Option Value} {base : Heap}
/-- what a body's reading must give -/
abbrev fE (Q : PV → Sto → Prop) : FEnds := { nx := fun _ M => Q .non M, rt := Q }
theorem fn_ok {x qual : Str} {stm : Stmt} {f : Addr} {fd : FuncData} {N ps : List Str} {k n : Nat} {psp : PSp} {mb : FS} (F : Fun K x qual stm f fd) (S : FnScope N ps (defScope stm)) (hn : N.length = ps.length + n)
    (hb : ∀ (cdv : Value) (A : Around) (outer : List Env) (s : Shared) (H : Hp) (E : XK), Room k (A.deeper (envOfC qual (defScope stm) s.heap.objs.size f cdv)) → RSs (cxOf CX0 P w K mg base N qual (defScope stm) f cdv A outer s H E).nox (defBody stm) mb)
    (hp : ∀ args M Q, psp args M Q → args.length = ps.length ∧ mb (fE Q) (fr0 n args) M) : FnOk P w K mg base CX0 (k + 1) f fd ps (spOf K psp) := by
  refine F.ok S (fun vs H Q E h => ?_) (fun cdv A outer s H vs Q E hr h => ?_)
  · obtain ⟨B0, C, M, args, Q', _, _, _, r, h, _⟩ := h
    rw [← r.length]
    exact (hp _ _ _ h).1
  · obtain ⟨B0, C, M, args, Q', h1, h2, h3, r, h, fin⟩ := h
    obtain ⟨hl, h⟩ := hp _ _ _ h
    refine ⟨_, (hb cdv A outer s H E hr).pss, ⟨H, B0, C, []⟩, B0, fr0 (N.length - vs.length) args, M, fE Q', rep_start (by rw [← r.length]; omega) h1 h2 h3 r, ?_, ?_⟩
    · rw [show N.length - vs.length = n by rw [← r.length]; omega]
      exact h
    · refine ⟨fun B f M σ H1 q rep => ?_, fun _ _ _ _ _ q => q.elim, fun _ _ _ _ _ q => q.elim, fun p M v H1 q rt => fin p M v H1 q rt.1 rt.2.1 rt.2.2⟩
      obtain ⟨a1, a2, a3⟩ := rep.ret (x := .v .non) (v := .non) R.non
      exact fin .non M .non H1 q a1 a2 a3
end

/-! ### arithmetic -/
section
variable {K : PySem.W.Frag}
theorem op_scal {r : R2} {op : O2} (h : ∀ G B f M σ H x y v w k Q, Rep K G B f M σ H → RV K G B H x v → RV K G B H y w → op M x y k → (∀ p u H', k p → Rep K G B f M σ H' → R K H' B G.C p u → EvC G.C H H' → Q u H') → r v w H Q) : Op2 K r op := h
def addP : O2 := fun _ x y k => match x, y with
  | .v (.int i), .v (.int j) => k (.int (i + j))
  | .v (.tup xs), .v (.tup ys) => xs.length + ys.length ≤ sizeLine ∧ k (.tup (xs ++ ys))
  | .v (.lst xs), .v (.lst ys) => xs.length + ys.length ≤ sizeLine ∧ k (.lst (xs ++ ys))
  | .b xs, .v (.lst ys) => xs.length + ys.length ≤ sizeLine ∧ k (.lst (xs ++ ys))
  | .v (.lst xs), .b ys => xs.length + ys.length ≤ sizeLine ∧ k (.lst (xs ++ ys))
  | .v (.str a), .v (.str b) => a.length + b.length ≤ sizeLine ∧ k (.str (a ++ b))
  | _, _ => False
/-- a list to be read -/
theorem rv_lst {G : Gh} {B : Addr → Prop} {f : Fm} {M : Sto} {σ : L2.St} {H : Hp} {xs : List PV} {v : V} (h : RV K G B H (.v (.lst xs)) v) : ∃ a vs, v = .ref a ∧ H a = some (.lst vs) ∧ RL K H B G.C xs vs := by
  have h' : R K H B G.C (.lst xs) v := h
  cases h' with
  | lst h1 r => exact ⟨_, _, rfl, h1.1, r⟩
theorem rv_b {G : Gh} {B : Addr → Prop} {H : Hp} {xs : List PV} {v : V} (h : RV K G B H (.b xs) v) : ∃ a vs, v = .ref a ∧ H a = some (.lst vs) ∧ RL K H B G.C xs vs := by
  obtain ⟨a, vs, e, _, _, _, ha, r⟩ := h
  exact ⟨a, vs, e, ha, r⟩
theorem new_lst {G : Gh} {B : Addr → Prop} {f : Fm} {M : Sto} {σ : L2.St} {H : Hp} {xs : List PV} {vs : List V} {p : Addr} (rep : Rep K G B f M σ H) (r : RL K H B G.C xs vs) (hp : H p = none) : R K (upd H p (.lst vs)) B G.C (.lst xs) (.ref p) :=
  .lst ⟨upd_same, rep.nb hp⟩ (r.evc rep (.new hp))
theorem new_tup {G : Gh} {B : Addr → Prop} {f : Fm} {M : Sto} {σ : L2.St} {H : Hp} {xs : List PV} {vs : List V} {p : Addr} (rep : Rep K G B f M σ H) (r : RL K H B G.C xs vs) (hp : H p = none) : R K (upd H p (.tup vs)) B G.C (.tup xs) (.ref p) :=
  .tup (.inl (.inl upd_same)) (r.evc rep (.new hp))
theorem add_ok {X : Cx} : ∃ r, OpR X (binaryOp .Add) r ∧ Op2 X.K r addP := by
  refine ⟨_, op_add.or (op_catA.or (op_cat.or op_add_str)), fun G B f M σ H x y v w k Q rep rx ry h fin => ?_⟩
  have cat : ∀ {a b : Addr} {vs us : List V} {xs ys : List PV}, H a = some (.lst vs) → RL X.K H B G.C xs vs → H b = some (.lst us) → RL X.K H B G.C ys us → (xs.length + ys.length ≤ sizeLine ∧ k (.lst (xs ++ ys))) → rCat (.ref a) (.ref b) H Q := fun ha ra hb rb h =>
    ⟨_, _, _, _, rfl, rfl, ha, hb, by rw [← ra.length, ← rb.length]; exact h.1, fun p hp => fin _ _ _ h.2 (rep.new hp) (new_lst rep (ra.append rb) hp) (.new hp)⟩
  unfold addP at h
  split at h
  · cases rx
    cases ry
    exact .inl ⟨_, _, rfl, rfl, fin _ _ _ h rep (.int _) .refl⟩
  · rename_i xs ys
    have rx : R X.K H B G.C (.tup xs) v := rx
    have ry : R X.K H B G.C (.tup ys) w := ry
    cases rx with
    | tup h1 r1 =>
    cases ry with
    | tup h2 r2 =>
    refine .inr (.inl ⟨_, _, _, _, rfl, rfl, h1, h2, by rw [← r1.length, ← r2.length]; exact h.1, fun e => ?_, fun e e2 => ?_, fun e e2 p hp => fin _ _ _ h.2 (rep.new hp) (new_tup rep (r1.append r2) hp) (.new hp)⟩)
    · subst e
      cases r1
      exact fin _ _ _ h.2 rep (.tup h2 r2) .refl
    · subst e2
      cases r2
      exact fin _ _ _ (by have := h.2; rw [List.append_nil] at this; exact this) rep (.tup h1 r1) .refl
  · obtain ⟨a, vs, rfl, ha, ra⟩ := rv_lst (f := f) (M := M) (σ := σ) rx
    obtain ⟨b, us, rfl, hb, rb⟩ := rv_lst (f := f) (M := M) (σ := σ) ry
    exact .inr (.inr (.inl (cat ha ra hb rb h)))
  · obtain ⟨a, vs, rfl, ha, ra⟩ := rv_b rx
    obtain ⟨b, us, rfl, hb, rb⟩ := rv_lst (f := f) (M := M) (σ := σ) ry
    exact .inr (.inr (.inl (cat ha ra hb rb h)))
  · obtain ⟨a, vs, rfl, ha, ra⟩ := rv_lst (f := f) (M := M) (σ := σ) rx
    obtain ⟨b, us, rfl, hb, rb⟩ := rv_b ry
    exact .inr (.inr (.inl (cat ha ra hb rb h)))
  · cases rx
    cases ry
    exact .inr (.inr (.inr ⟨_, _, rfl, rfl, h.1, fin _ _ _ h.2 rep (.str _) .refl⟩))
  · exact h.elim
def i2 (g : Int → Int → (PV → Prop) → Prop) : O2 := fun _ x y k => match x, y with
  | .v (.int i), .v (.int j) => g i j k
  | _, _ => False
theorem i2_ok {r : R2} {g : Int → Int → (PV → Prop) → Prop} (h : ∀ i j H Q k, g i j k → (∀ n : Int, k (.int n) → Q (.int n) H) → (∀ b : Bool, k (.bl b) → Q (.bl b) H) → r (.int i) (.int j) H Q) : Op2 K r (i2 g) := fun G B f M σ H x y v w k Q rep rx ry hx fin => by
  unfold i2 at hx
  split at hx
  · cases rx
    cases ry
    exact h _ _ _ _ _ hx (fun n q => fin _ _ _ q rep (.int n) .refl) fun b q => fin _ _ _ q rep (.bl b) .refl
  · exact hx.elim
def subP : O2 := i2 fun i j k => k (.int (i - j))
theorem sub_ok {X : Cx} : Op2 X.K (rI0 fun i j => .int (i - j)) subP := i2_ok fun i j H Q k h q _ => ⟨_, _, rfl, rfl, q _ h⟩
theorem op_mulG {X : Cx} : OpR X (binaryOp .Mult) (rI IntMulOk fun i j => .int (i * j)) := opI fun _ _ _ _ _ _ _ hc q => mul_int q hc
def mulP : O2 := i2 fun i j k => IntMulOk i j ∧ k (.int (i * j))
theorem mul_ok {X : Cx} : Op2 X.K (rI IntMulOk fun i j => .int (i * j)) mulP := i2_ok fun i j H Q k h q _ => ⟨_, _, rfl, rfl, h.1, q _ h.2⟩
/-- a floor division by a number above 0 -/
def divP : O2 := i2 fun i j k => (0 < j ∧ j.natAbs.log2 < 9000) ∧ k (.int (i / j))
theorem div_ok {X : Cx} : Op2 X.K (rI CDivW fun i j => .int (i / j)) divP := i2_ok fun i j H Q k h q _ => ⟨_, _, rfl, rfl, h.1, q _ h.2⟩
def divN : O2 := i2 fun i j k => (j ≠ 0 ∧ j.natAbs < 1073741824) ∧ k (.int (i.fdiv j))
theorem divN_ok {X : Cx} : Op2 X.K (rI CDivN fun i j => .int (i.fdiv j)) divN := i2_ok fun i j H Q k h q _ => ⟨_, _, rfl, rfl, h.1, q _ h.2⟩
def modP : O2 := i2 fun i j k => 0 < j ∧ k (.int (i % j))
theorem mod_ok {X : Cx} : Op2 X.K (rI (fun _ j => 0 < j) fun i j => .int (i % j)) modP := i2_ok fun i j H Q k h q _ => ⟨_, _, rfl, rfl, h.1, q _ h.2⟩
def powP : O2 := i2 fun i j k => (0 ≤ j ∧ j ≤ 1000000 ∧ i.natAbs < 2 ^ 64) ∧ k (.int (i ^ j.toNat))
theorem pow_ok {X : Cx} : Op2 X.K (rI CPow fun i j => .int (i ^ j.toNat)) powP := i2_ok fun i j H Q k h q _ => ⟨_, _, rfl, rfl, h.1, q _ h.2⟩
def ltP : O2 := i2 fun i j k => k (.bl (decide (i < j)))
def leP : O2 := i2 fun i j k => k (.bl (decide (i ≤ j)))
def gtP : O2 := i2 fun i j k => k (.bl (decide (j < i)))
def geP : O2 := i2 fun i j k => k (.bl (decide (j ≤ i)))
theorem lt_ok {X : Cx} : Op2 X.K (rI0 fun i j => .bl (decide (i < j))) ltP := i2_ok fun i j H Q k h _ q => ⟨_, _, rfl, rfl, q _ h⟩
theorem le_ok {X : Cx} : Op2 X.K (rI0 fun i j => .bl (decide (i ≤ j))) leP := i2_ok fun i j H Q k h _ q => ⟨_, _, rfl, rfl, q _ h⟩
theorem gt_ok {X : Cx} : Op2 X.K (rI0 fun i j => .bl (decide (j < i))) gtP := i2_ok fun i j H Q k h _ q => ⟨_, _, rfl, rfl, q _ h⟩
theorem ge_ok {X : Cx} : Op2 X.K (rI0 fun i j => .bl (decide (j ≤ i))) geP := i2_ok fun i j H Q k h _ q => ⟨_, _, rfl, rfl, q _ h⟩
def negP : O1 := fun _ x k => match x with
  | .v (.int i) => k (.int (-i))
  | _ => False
theorem neg_ok {X : Cx} : Op1 X.K (rU fun i => .int (-i)) negP := fun G B f M σ H x v k Q rep rx hx fin => by
  unfold negP at hx
  split at hx
  · cases rx
    exact ⟨_, rfl, fin _ _ _ hx rep (.int _) .refl⟩
  · exact hx.elim
end

/-! ### == and != -/
mutual
def eqv : PV → PV → Bool
  | .non, y => match y with | .non => true | _ => false
  | .bl a, y => match y with | .bl b => a == b | .int j => (if a then 1 else 0) == j | _ => false
  | .int i, y => match y with | .bl b => i == (if b then 1 else 0) | .int j => i == j | _ => false
  | .str a, y => match y with | .str b => a == b | _ => false
  | .tup xs, y => match y with | .tup ys => eqvs xs ys | _ => false
  | .lst xs, y => match y with | .lst ys => eqvs xs ys | .fro ys => eqvs xs ys | _ => false
  | .fro xs, y => match y with | .lst ys => eqvs xs ys | .fro ys => eqvs xs ys | _ => false
  | .cell _, _ => false
  | .xtp _, _ => false
def eqvs : List PV → List PV → Bool
  | [], ys => match ys with | [] => true | _ => false
  | x :: xs, ys => match ys with | y :: ys => eqv x y && eqvs xs ys | [] => false
end
mutual
def toD : PV → PyData
  | .non => .none
  | .bl b => .bool b
  | .int i => .int i
  | .str s => .str s
  | .tup xs => .tuple (toDs xs)
  | .lst xs => .list (toDs xs)
  | .fro xs => .list (toDs xs)
  | .cell _ => .dict []
  | .xtp _ => .dict []
def toDs : List PV → List PyData
  | [] => []
  | x :: xs => toD x :: toDs xs
end
mutual
theorem eqv_toD : ∀ x y : PV, PyData.eqv (toD x) (toD y) = eqv x y
  | .non, y => by cases y <;> simp only [toD, eqv, PyData.eqv]
  | .bl a, y => by cases y <;> simp only [toD, eqv, PyData.eqv]
  | .int a, y => by cases y <;> simp only [toD, eqv, PyData.eqv]
  | .str a, y => by cases y <;> simp only [toD, eqv, PyData.eqv]
  | .tup xs, y => by cases y <;> simp only [toD, eqv, PyData.eqv, eqvs_toD xs]
  | .lst xs, y => by cases y <;> simp only [toD, eqv, PyData.eqv, eqvs_toD xs]
  | .fro xs, y => by cases y <;> simp only [toD, eqv, PyData.eqv, eqvs_toD xs]
  | .cell a, y => by cases y <;> simp only [toD, eqv, PyData.eqv]
  | .xtp a, y => by cases y <;> simp only [toD, eqv, PyData.eqv]
theorem eqvs_toD : ∀ xs ys : List PV, PyData.eqvAll (toDs xs) (toDs ys) = eqvs xs ys
  | [], ys => by cases ys <;> simp only [toDs, eqvs, PyData.eqvAll]
  | x :: xs, ys => by
    cases ys with
    | nil => simp only [toDs, eqvs, PyData.eqvAll]
    | cons y ys => simp only [toDs, eqvs, PyData.eqvAll, eqv_toD x y, eqvs_toD xs ys]
end
mutual
theorem R.dp {K : PySem.W.Frag} {H : Hp} {B C : Addr → Prop} : ∀ {x : PV} {v : V}, R K H B C x v → (toD x).canLay0 = true → Dp K H v (toD x)
  | _, _, .non, _ => .non
  | _, _, .bl b, _ => .bl b
  | _, _, .int i, _ => .int i
  | _, _, .str s, _ => .str s
  | .tup xs, _, .tup h t, q => by
    rw [toD, PyData.canLay0] at q
    rw [toD]
    exact .tup h (RL.dp t q)
  | .lst xs, _, .lst h t, q => by
    rw [toD, PyData.canLay0] at q
    rw [toD]
    exact .lst h.sq (RL.dp t q)
  | .fro xs, _, .fro h t, q => by
    rw [toD, PyData.canLay0] at q
    rw [toD]
    exact .lst h.sq (RL.dp t q)
  | .cell a, _, .cell h, q => by rw [toD, PyData.canLay0] at q; cases q
  | .xtp a, _, .xtp h t, q => by rw [toD, PyData.canLay0] at q; cases q
theorem RL.dp {K : PySem.W.Frag} {H : Hp} {B C : Addr → Prop} : ∀ {xs : List PV} {vs : List V}, RL K H B C xs vs → PyData.canLayAll0 (toDs xs) = true → DpAll K H vs (toDs xs)
  | [], _, .nil, _ => by rw [toDs]; exact .nil
  | x :: xs, _, .cons h t, q => by
    rw [toDs, PyData.canLayAll0, Bool.and_eq_true] at q
    rw [toDs]
    exact .cons (R.dp h q.1) (RL.dp t q.2)
end
/-- what may be compared by == -/
def okD (p : PV) : Prop := SeqAt.shaped (toD p) = true
def okE : EV → Prop
  | .v p => okD p
  | .b xs => okD (.lst xs)
theorem rv_dp {K : PySem.W.Frag} {G : Gh} {B : Addr → Prop} {H : Hp} {v : V} : ∀ {x : EV}, RV K G B H x v → okE x → Dp K H v (toD (outP x))
  | .v p, h, q => R.dp h (SeqAt.canLay_of_shaped q)
  | .b xs, ⟨a, vs, e, hb, hc, h0, ha, r⟩, q => by
    subst e
    have q' : (toD (.lst xs)).canLay0 = true := SeqAt.canLay_of_shaped q
    rw [toD, PyData.canLay0] at q'
    show Dp K H _ (toD (.lst xs))
    rw [toD]
    exact .lst (.of ha) (r.dp q')
def eqP : O2 := fun _ x y k => (okE x ∧ okE y) ∧ k (.bl (eqv (outP x) (outP y)))
def neP : O2 := fun _ x y k => (okE x ∧ okE y) ∧ k (.bl (!eqv (outP x) (outP y)))
theorem okE_sh : ∀ {x : EV}, okE x → SeqAt.shaped (toD (outP x)) = true
  | .v _, h => h
  | .b _, h => h
theorem eq_ok {K : PySem.W.Frag} : Op2 K (rEqD K) eqP := fun G B f M σ H x y v w k Q rep rx ry h fin =>
  ⟨_, _, rv_dp rx h.1.1, rv_dp ry h.1.2, okE_sh h.1.1, okE_sh h.1.2, fin _ _ _ h.2 rep (by rw [eqv_toD]; exact .bl _) .refl⟩
theorem ne_ok {K : PySem.W.Frag} : Op2 K (rNeD K) neP := fun G B f M σ H x y v w k Q rep rx ry h fin =>
  ⟨_, _, rv_dp rx h.1.1, rv_dp ry h.1.2, okE_sh h.1.1, okE_sh h.1.2, fin _ _ _ h.2 rep (by rw [eqv_toD]; exact .bl _) .refl⟩
end Fl

namespace Fl
open PySem PySem.Spec PyProof.Rows L2

section
variable {K : PySem.W.Frag} {H : Hp} {B C : Addr → Prop} {xs : List PV} {vs : List V}
theorem RL.at {i : Int} {p : PV} (r : RL K H B C xs vs) (h : atI xs i = some p) : ∃ v, atI vs i = some v ∧ R K H B C p v := by
  unfold atI at h ⊢
  rw [r.length] at h
  cases e : ixN vs.length i with
  | none => rw [e] at h; cases h
  | some j =>
    rw [e] at h
    exact r.get h
/-- what is handed as a sequence: its place, its items -/
def seqP : EV → Option (List PV)
  | .v (.tup xs) => some xs
  | .v (.lst xs) => some xs
  | .v (.fro xs) => some xs
  | .b xs => some xs
  | _ => none
theorem rv_seq {G : Gh} {v : V} : ∀ {x : EV} {xs : List PV}, RV K G B H x v → seqP x = some xs → ∃ a vs, v = .ref a ∧ (SqL K H a vs ∨ SqT K H a vs) ∧ RL K H B G.C xs vs
  | .v (.tup ys), xs, h, e => by
    cases e
    have h' : R K H B G.C (.tup ys) v := h
    cases h' with
    | tup h1 r => exact ⟨_, _, rfl, .inr h1, r⟩
  | .v (.lst ys), xs, h, e => by
    cases e
    have h' : R K H B G.C (.lst ys) v := h
    cases h' with
    | lst h1 r => exact ⟨_, _, rfl, .inl h1.sq, r⟩
  | .v (.fro ys), xs, h, e => by
    cases e
    have h' : R K H B G.C (.fro ys) v := h
    cases h' with
    | fro h1 r => exact ⟨_, _, rfl, .inl h1.sq, r⟩
  | .b ys, xs, h, e => by
    cases e
    obtain ⟨a, vs, e, ha, r⟩ := rv_b h
    exact ⟨a, vs, e, .inl (.of ha), r⟩
  | .v .non, _, _, e => nomatch e
  | .v (.bl _), _, _, e => nomatch e
  | .v (.int _), _, _, e => nomatch e
  | .v (.str _), _, _, e => nomatch e
  | .v (.cell _), _, _, e => nomatch e
  | .v (.xtp _), _, _, e => nomatch e
end
section
variable {X : Cx}
/-- len -/
def lenP : ON := fun M xs k => match xs with
  | [.v (.cell a)] => ∃ ys, M a = some ys ∧ k (.int ys.length)
  | [.v (.str s)] => s.length ≤ sizeLine ∧ k (.int s.length)
  | [x] => match seqP x with
    | some ys => k (.int ys.length)
    | none => False
  | _ => False
theorem len_ok : OpN X.K (fun xs H Q => (∃ p ys, xs = [.ref p] ∧ (SqL X.K H p ys ∨ SqT X.K H p ys) ∧ Q (.int ys.length) H) ∨ ∃ z, xs = [.str z] ∧ z.length ≤ sizeLine ∧ Q (.int z.length) H) lenP := fun G B f M σ H xs vs k Q rep r h fin => by
  unfold lenP at h
  split at h
  · obtain ⟨ys, hM, h⟩ := h
    match vs, r with
    | [v], ⟨r, _⟩ =>
      cases r with
      | cell hc =>
        obtain ⟨zs, ws, g1, g2, g3⟩ := (rep.cells _).1 hc
        rw [hM] at g1
        cases g1
        exact .inl ⟨_, _, rfl, .inl (.of g2), fin _ _ _ h rep (by rw [g3.length]; exact .int _) .refl⟩
  · match vs, r with
    | [v], ⟨r, _⟩ =>
      cases r
      exact .inr ⟨_, rfl, h.1, fin _ _ _ h.2 rep (.int _) .refl⟩
  · split at h
    · rename_i ys hy
      match vs, r with
      | [v], ⟨r, _⟩ =>
        obtain ⟨a, ws, e, hs, hr⟩ := rv_seq r hy
        subst e
        exact .inl ⟨_, _, rfl, hs, fin _ _ _ h rep (by rw [hr.length]; exact .int _) .refl⟩
    · exact h.elim
  · exact h.elim
theorem call_lenA : CallR X (.builtin "len") (fun xs H Q => (∃ p ys, xs = [.ref p] ∧ (SqL X.K H p ys ∨ SqT X.K H p ys) ∧ Q (.int ys.length) H) ∨ ∃ z, xs = [.str z] ∧ z.length ≤ sizeLine ∧ Q (.int z.length) H) := call_len_seq.or call_len_str
/-- x[i] -/
def ixP : O2 := fun M x y k => match y with
  | .v (.int i) => match x with
    | .v (.cell a) => ∃ xs, M a = some xs ∧ ∃ p, atI xs i = some p ∧ k p
    | .v (.str s) => s.length ≤ sizeLine ∧ ∃ c, atI s.cps.toList i = some c ∧ k (.str ⟨#[c]⟩)
    | x => match seqP x with
      | some xs => ∃ p, atI xs i = some p ∧ k p
      | none => False
  | _ => False
theorem ix_ok : Op2 X.K (rIx X.K) ixP := fun G B f M σ H x y v w k Q rep rx ry h fin => by
  unfold ixP at h
  split at h
  · cases ry
    split at h
    · obtain ⟨xs, hM, p, hp, h⟩ := h
      cases rx with
      | cell hc =>
        obtain ⟨zs, ws, g1, g2, g3⟩ := (rep.cells _).1 hc
        rw [hM] at g1
        cases g1
        obtain ⟨u, q1, q2⟩ := g3.at hp
        exact .inl ⟨_, _, _, _, rfl, rfl, .of g2, q1, fin _ _ _ h rep q2 .refl⟩
    · obtain ⟨hz, c, hc, h⟩ := h
      cases rx
      exact .inr (.inr ⟨_, _, _, rfl, rfl, hz, hc, fin _ _ _ h rep (.str _) .refl⟩)
    · split at h
      · rename_i xs hy
        obtain ⟨p, hp, h⟩ := h
        obtain ⟨a, ws, e, hs, hr⟩ := rv_seq rx hy
        subst e
        obtain ⟨u, q1, q2⟩ := hr.at hp
        rcases hs with hs | hs
        · exact .inl ⟨_, _, _, _, rfl, rfl, hs, q1, fin _ _ _ h rep q2 .refl⟩
        · exact .inr (.inl ⟨_, _, _, _, rfl, rfl, hs, q1, fin _ _ _ h rep q2 .refl⟩)
      · exact h.elim
  · exact h.elim
theorem re_ix {a b : Expr} {ma mb : FE} {pos : Pos} (ha : RE X a ma) (hb : RE X b mb) (hs : PlainIx b := by exact fun _ _ => rfl) : RE X (.Subscript a b pos) (e2 ixP ma mb) := ⟨(pe_ix ix_seq ha.pe hb.pe hs).imp (e2_ok ix_ok)⟩
/-- x[lo:hi] -/
abbrev FO := Fm → Sto → (Option Int → Sto → Prop) → Prop
def tO (K : PySem.W.Frag) (m : FO) : TO := fun σ H Q => ∃ G B f M Q', Rep K G B f M σ H ∧ m f M Q' ∧ ∀ o M' H', Q' o M' → Rep K G B f M' σ H' → EvC G.C H H' → Q o H'
structure RO (X : Cx) (e : Option Expr) (m : FO) : Prop where
  po : PO X e (tO X.K m)
theorem _root_.L2.PO.imp {X : Cx} {e : Option Expr} {t t' : TO} (h : PO X e t) (w : ∀ σ H Q, t' σ H Q → t σ H Q) : PO X e t' := ⟨fun pins s σ H Q I q => h.run pins s σ H Q I (w σ H Q q)⟩
def oN : FO := fun _ M Q => Q none M
def oS (m : FE) : FO := fun f M Q => m f M fun x M1 => match x with
  | .v (.int i) => Q (some i) M1
  | _ => False
theorem ro_none : RO X none oN := ⟨po_none.imp fun σ H Q ⟨G, B, f, M, Q', rep, hm, k⟩ => k _ _ _ hm rep .refl⟩
theorem ro_some {e : Expr} {m : FE} (h : RE X e m) : RO X (some e) (oS m) := ⟨(po_some h.pe).imp fun σ H Q ⟨G, B, f, M, Q', rep, hm, k⟩ => ⟨G, B, f, M, _, rep, hm, fun x M1 v H1 q rep1 r1 c1 => by
  split at q
  · cases r1
    exact ⟨_, rfl, k _ _ _ q rep1 c1⟩
  · exact q.elim⟩⟩
def cut {α : Type} (xs : List α) (lo hi : Option Int) : List α := (xs.drop (HT.sIx xs.length 0 lo)).take (HT.sIx xs.length xs.length hi - HT.sIx xs.length 0 lo)
theorem RL.cut {K : PySem.W.Frag} {H : Hp} {B C : Addr → Prop} {xs : List PV} {vs : List V} (r : RL K H B C xs vs) (lo hi : Option Int) : RL K H B C (Fl.cut xs lo hi) (cutV vs lo hi) := by
  unfold Fl.cut cutV
  rw [r.length]
  exact (r.drop _).take _
theorem cutV_all {vs : List V} {lo hi : Option Int} (h : HT.sIx vs.length 0 lo = 0 ∧ HT.sIx vs.length vs.length hi = vs.length) : cutV vs lo hi = vs := by
  unfold cutV
  rw [h.1, h.2, List.drop_zero, Nat.sub_zero, List.take_length]
def slP (lo hi : Option Int) : O1 := fun _ x k => match x with
  | .v (.tup xs) => k (.tup (cut xs lo hi))
  | .v (.lst xs) => k (.lst (cut xs lo hi))
  | .v (.fro xs) => k (.lst (cut xs lo hi))
  | .b xs => k (.lst (cut xs lo hi))
  | _ => False
def eSl (m : FE) (ml mh : FO) : FE := fun f M Q => m f M fun x M1 => ml f M1 fun lo M2 => mh f M2 fun hi M3 => slP lo hi M3 x fun p => Q (.v p) M3
theorem re_sl {e : Expr} {lo hi : Option Expr} {m : FE} {ml mh : FO} {p2 pos : Pos} (he : RE X e m) (hl : RO X lo ml) (hh : RO X hi mh) : RE X (.Subscript e (.Slice lo hi none p2) pos) (eSl m ml mh) := by
  refine ⟨(pe_slice (sl_list.or sl_tupA) he.pe hl.po hh.po).imp fun σ H Q ⟨G, B, f, M, Q', rep, hm, k⟩ => ⟨G, B, f, M, _, rep, hm, fun x M1 v H1 q rep1 r1 c1 => ⟨G, B, f, M1, _, rep1, q, fun lo M2 H2 q2 rep2 c2 => ⟨G, B, f, M2, _, rep2, q2, fun hi M3 H3 q3 rep3 c3 => ?_⟩⟩⟩⟩
  have r3 := (r1.evc rep1 c2).evc rep2 c3
  have c := (c1.trans c2).trans c3
  have lst : ∀ {a : Addr} {xs : List PV} {vs : List V}, v = .ref a → SqL X.K H3 a vs → RL X.K H3 B G.C xs vs → Q' (.v (.lst (cut xs lo hi))) M3 → rSlL X.K v lo hi H3 Q := fun {a xs vs} e hs hr h =>
    ⟨a, vs, e, hs, fun p hp => k _ _ _ _ h (rep3.new hp) (new_lst rep3 (hr.cut lo hi) hp) (c.trans (.new hp))⟩
  unfold slP at q3
  split at q3
  · rename_i xs
    have r3' : R X.K H3 B G.C (.tup xs) v := r3
    cases r3' with
    | tup h1 r =>
    refine .inr ⟨_, _, rfl, h1, fun e => k _ _ _ _ q3 rep3 ?_ c, fun e p hp => k _ _ _ _ q3 (rep3.new hp) (new_tup rep3 (r.cut lo hi) hp) (c.trans (.new hp))⟩
    have q := r.cut lo hi
    rw [cutV_all e] at q
    exact R.tup h1 q
  · rename_i xs
    obtain ⟨a, vs, e, ha, r⟩ := rv_lst (f := f) (M := M3) (σ := σ) r3
    exact .inl (lst e (.of ha) r q3)
  · rename_i xs
    obtain ⟨a, vs, e, hs, r⟩ := rv_seq (x := .v (.fro xs)) r3 rfl
    have r3' : R X.K H3 B G.C (.fro xs) v := r3
    cases r3' with
    | fro h1 r => exact .inl (lst rfl h1.sq r q3)
  · obtain ⟨a, vs, e, ha, r⟩ := rv_b r3
    exact .inl (lst e (.of ha) r q3)
  · exact q3.elim
/-- tuple(x) -/
def tupP : ON := fun _ xs k => match xs with
  | [x] => match seqP x with
    | some ys => k (.tup ys)
    | none => False
  | _ => False
theorem tup_ok : OpN X.K (fun xs H Q => ∃ p ys, xs = [.ref p] ∧ ((SqL X.K H p ys ∧ ∀ l, H l = none → Q (.ref l) (upd H l (.tup ys))) ∨ (SqT X.K H p ys ∧ Q (.ref p) H))) tupP := fun G B f M σ H xs vs k Q rep r h fin => by
  unfold tupP at h
  split at h
  · split at h
    · rename_i ys hy
      match vs, r with
      | [v], ⟨r, _⟩ =>
        obtain ⟨a, ws, e, hs, hr⟩ := rv_seq r hy
        subst e
        refine ⟨a, ws, rfl, ?_⟩
        rcases hs with hs | hs
        · exact .inl ⟨hs, fun p hp => fin _ _ _ h (rep.new hp) (new_tup rep hr hp) (.new hp)⟩
        · exact .inr ⟨hs, fin _ _ _ h rep (.tup hs hr) .refl⟩
    · exact h.elim
  · exact h.elim
theorem re_tupOf {e : Expr} {t : FA} {p pos : Pos} (hg : Gl X "tuple") (hm : X.mg "tuple" = none) (ha : RA X [e] t) (he : starEach [e] X.env = (false, eval e X.env) :: starEach [] X.env := by rfl) : RE X (.Call (.Name "tuple" p) [e] [] pos) (eN tupP t) :=
  re_type call_tuple_of tup_ok hg hm boot_tuple ha (by decide) (by decide) he rfl
/-- list(x) -/
def fList (t : FA) : FF := fun f M Q => t f M fun xs M1 => match xs with
  | [x] => match seqP x with
    | some ys => Q ys M1
    | none => False
  | _ => False
theorem rf_listOf {e : Expr} {t : FA} {p pos : Pos} (hg : Gl X "list") (hm : X.mg "list" = none) (ha : RA X [e] t) (he : starEach [e] X.env = (false, eval e X.env) :: starEach [] X.env := by rfl) : RF X (.Call (.Name "list" p) [e] [] pos) (fList t) :=
  ⟨(pe_callTy call_list_of hg hm boot_list ha.pa (by decide) (by decide) he rfl).imp fun σ H Q ⟨G, B, f, M, Q', rep, hm, k⟩ => ⟨G, B, f, M, _, rep, hm, fun xs M1 vs H1 q hl rep1 r1 c1 => by
    split at q
    · split at q
      · rename_i ys hy
        match vs, r1 with
        | [v], ⟨r, _⟩ =>
          obtain ⟨a, ws, e, hs, hr⟩ := rv_seq r hy
          subst e
          exact ⟨a, ws, rfl, hs, fun p hp => k _ _ _ _ _ q (rep1.newL hp) upd_same (hr.evo rep1.mu (evo_new hp)) (rep1.nb hp) (rep1.fresh0 hp) (c1.trans (.new hp))⟩
      · exact q.elim
    · exact q.elim⟩⟩
/-- abs, int, min, max of ints -/
def absP : ON := fun _ xs k => match xs with
  | [.v (.int i)] => k (.int (if i < 0 then -i else i))
  | _ => False
theorem abs_ok : OpN X.K (fun xs H Q => ∃ i, xs = [.int i] ∧ Q (.int (if i < 0 then -i else i)) H) absP := fun G B f M σ H xs vs k Q rep r h fin => by
  unfold absP at h
  split at h
  · match vs, r with
    | [v], ⟨r, _⟩ =>
      cases r
      exact ⟨_, rfl, fin _ _ _ h rep (.int _) .refl⟩
  · exact h.elim
def intP : ON := fun _ xs k => match xs with
  | [.v (.int i)] => k (.int i)
  | [.v (.bl b)] => k (.int (if b then 1 else 0))
  | _ => False
theorem int_ok : OpN X.K (fun xs H Q => (∃ i, xs = [.int i] ∧ Q (.int i) H) ∨ ∃ k, xs = [.bl k] ∧ Q (.int (if k then 1 else 0)) H) intP := fun G B f M σ H xs vs k Q rep r h fin => by
  unfold intP at h
  split at h
  · match vs, r with
    | [v], ⟨r, _⟩ =>
      cases r
      exact .inl ⟨_, rfl, fin _ _ _ h rep (.int _) .refl⟩
  · match vs, r with
    | [v], ⟨r, _⟩ =>
      cases r
      exact .inr ⟨_, rfl, fin _ _ _ h rep (.int _) .refl⟩
  · exact h.elim
def iiN (g : Int → Int → Int) : ON := fun _ xs k => match xs with
  | [.v (.int i), .v (.int j)] => k (.int (g i j))
  | _ => False
theorem iiN_ok {g : Int → Int → Int} : OpN X.K (fun xs H Q => ∃ i j, xs = [.int i, .int j] ∧ Q (.int (g i j)) H) (iiN g) := fun G B f M σ H xs vs k Q rep r h fin => by
  unfold iiN at h
  split at h
  · match vs, r with
    | [v, w], ⟨r, r2, _⟩ =>
      cases r
      cases r2
      exact ⟨_, _, rfl, fin _ _ _ h rep (.int _) .refl⟩
  · exact h.elim
abbrev maxP : ON := iiN fun i j => if j > i then j else i
abbrev minP : ON := iiN fun i j => if j < i then j else i
/-- any, all, sum of a list -/
theorem RL.bls {K : PySem.W.Frag} {H : Hp} {B C : Addr → Prop} : ∀ {ns : List Bool} {vs : List V}, RL K H B C (ns.map PV.bl) vs → vs = ns.map V.bl
  | [], _, .nil => rfl
  | n :: ns, _, .cons r t => by
    cases r
    rw [RL.bls t]
    rfl
def lstP : EV → Option (List PV)
  | .v (.lst xs) => some xs
  | .b xs => some xs
  | _ => none
theorem rv_lstP {K : PySem.W.Frag} {G : Gh} {B : Addr → Prop} {H : Hp} {v : V} : ∀ {x : EV} {xs : List PV}, RV K G B H x v → lstP x = some xs → ∃ a vs, v = .ref a ∧ H a = some (.lst vs) ∧ RL K H B G.C xs vs
  | .v (.lst ys), xs, h, e => by
    cases e
    have h' : R K H B G.C (.lst ys) v := h
    cases h' with
    | lst h1 r => exact ⟨_, _, rfl, h1.1, r⟩
  | .b ys, xs, h, e => by
    cases e
    exact rv_b h
  | .v (.tup _), _, _, e => nomatch e
  | .v (.fro _), _, _, e => nomatch e
  | .v .non, _, _, e => nomatch e
  | .v (.bl _), _, _, e => nomatch e
  | .v (.int _), _, _, e => nomatch e
  | .v (.str _), _, _, e => nomatch e
  | .v (.cell _), _, _, e => nomatch e
  | .v (.xtp _), _, _, e => nomatch e
def blsN (g : List Bool → Bool) : ON := fun _ xs k => match xs with
  | [x] => match lstP x with
    | some ys => ∃ bs : List Bool, ys = bs.map PV.bl ∧ k (.bl (g bs))
    | none => False
  | _ => False
theorem bls_ok {g : List Bool → Bool} : OpN X.K (fun vs H Q => ∃ (a : Addr) (bs : List Bool), vs = [V.ref a] ∧ SqL X.K H a (bs.map V.bl) ∧ Q (.bl (g bs)) H) (blsN g) := fun G B f M σ H xs vs k Q rep r h fin => by
  unfold blsN at h
  split at h
  · split at h
    · rename_i ys hy
      obtain ⟨bs, e, h⟩ := h
      subst e
      match vs, r with
      | [v], ⟨r, _⟩ =>
        obtain ⟨a, ws, e, hs, hr⟩ := rv_lstP r hy
        subst e
        rw [hr.bls] at hs
        exact ⟨_, _, rfl, .of hs, fin _ _ _ h rep (.bl _) .refl⟩
    · exact h.elim
  · exact h.elim
abbrev anyP : ON := blsN fun bs => bs.any id
abbrev allP : ON := blsN fun bs => bs.all id
def sumP : ON := fun _ xs k => match xs with
  | [x] => match lstP x with
    | some ys => ∃ ns : List Int, ys = ns.map PV.int ∧ k (.int ns.sum)
    | none => False
  | _ => False
theorem sum_ok : OpN X.K (rSum X.K) sumP := fun G B f M σ H xs vs k Q rep r h fin => by
  unfold sumP at h
  split at h
  · split at h
    · rename_i ys hy
      obtain ⟨bs, e, h⟩ := h
      subst e
      match vs, r with
      | [v], ⟨r, _⟩ =>
        obtain ⟨a, ws, e, hs, hr⟩ := rv_lstP r hy
        subst e
        rw [hr.ints] at hs
        exact ⟨_, _, rfl, .of hs, fin _ _ _ h rep (.int _) .refl⟩
    · exact h.elim
  · exact h.elim
/-- tuple(reversed(x)), x a list -/
def tRevP : O1 := fun _ x k => match lstP x with
  | some ys => k (.tup ys.reverse)
  | none => False
theorem re_tupRev {e : Expr} {m : FE} {p p2 pos pos2 : Pos} (hc : X.calm = true) (hg : Gl X "tuple") (hm : X.mg "tuple" = none) (hg2 : Gl X "reversed") (hm2 : X.mg "reversed" = none) (he : RE X e m)
    (hs : starEach [e] X.env = (false, eval e X.env) :: starEach [] X.env := by rfl)
    (hs2 : starEach [.Call (.Name "reversed" p2) [e] [] pos2] X.env = (false, eval (.Call (.Name "reversed" p2) [e] [] pos2) X.env) :: starEach [] X.env := by rfl) :
    RE X (.Call (.Name "tuple" p) [.Call (.Name "reversed" p2) [e] [] pos2] [] pos) (e1 tRevP m) := ⟨(RT.pe_tupRev hc hg hm hg2 hm2 he.pe hs hs2).imp fun σ H Q ⟨G, B, f, M, Q', rep, hm, k⟩ => ⟨G, B, f, M, _, rep, hm, fun x M1 v H1 q rep1 r1 c1 => by
  unfold tRevP at q
  split at q
  · rename_i ys hy
    obtain ⟨a, ws, e, hs, hr⟩ := rv_lstP r1 hy
    exact ⟨a, ws, e, .of hs, fun p hp => k _ _ _ _ q (rep1.new hp) (new_tup rep1 hr.reverse hp) (c1.trans (.new hp))⟩
  · exact q.elim⟩⟩
/-- x[::-1], x a list -/
def fRevL (m : FE) : FF := fun f M Q => m f M fun x M1 => match lstP x with
  | some ys => Q ys.reverse M1
  | none => False
theorem rf_revL {e : Expr} {m : FE} {k : Nat} {p1 p2 p3 pos : Pos} (he : RE X e m) : RF X (.Subscript e (.Slice none none (some (.UnaryOp .USub (.Constant (.int 1) k p1) p2)) p3) pos) (fRevL m) := ⟨(pe_revL he.pe).imp fun σ H Q ⟨G, B, f, M, Q', rep, hm, k⟩ => ⟨G, B, f, M, _, rep, hm, fun x M1 v H1 q rep1 r1 c1 => by
  split at q
  · rename_i ys hy
    obtain ⟨a, ws, e, hs, hr⟩ := rv_lstP r1 hy
    exact ⟨a, ws, e, .of hs, fun p hp => k _ _ _ _ _ q (rep1.newL hp) upd_same (hr.reverse.evo rep1.mu (evo_new hp)) (rep1.nb hp) (rep1.fresh0 hp) (c1.trans (.new hp))⟩
  · exact q.elim⟩⟩
end
end Fl

namespace Fl
open PySem PySem.Spec PyProof.Rows L2

/-! ### short words for printed derivations -/
section
variable {X : Cx} {e a b c : Expr} {es : List Expr} {m ma mb mc : FE} {t : FT} {ta : FA} {mf : FF} {pos p : Pos}
theorem re_add (ha : RE X a ma) (hb : RE X b mb) : RE X (.BinOp a .Add b pos) (e2 addP ma mb) := let ⟨_, h, o⟩ := add_ok (X := X); re_op h o ha hb
theorem re_sub (ha : RE X a ma) (hb : RE X b mb) : RE X (.BinOp a .Sub b pos) (e2 subP ma mb) := re_op op_sub sub_ok ha hb
theorem re_div (ha : RE X a ma) (hb : RE X b mb) : RE X (.BinOp a .FloorDiv b pos) (e2 divP ma mb) := re_op op_fdivW div_ok ha hb
theorem re_divN (ha : RE X a ma) (hb : RE X b mb) : RE X (.BinOp a .FloorDiv b pos) (e2 divN ma mb) := re_op op_fdivN divN_ok ha hb
theorem re_mod (ha : RE X a ma) (hb : RE X b mb) : RE X (.BinOp a .Mod b pos) (e2 modP ma mb) := re_op op_mod mod_ok ha hb
theorem re_pow (ha : RE X a ma) (hb : RE X b mb) : RE X (.BinOp a .Pow b pos) (e2 powP ma mb) := re_op op_pow pow_ok ha hb
theorem re_mulI (ha : RE X a ma) (hb : RE X b mb) : RE X (.BinOp a .Mult b pos) (e2 mulP ma mb) := re_op op_mulG mul_ok ha hb
theorem re_neg (ha : RE X a ma) : RE X (.UnaryOp .USub a pos) (e1 negP ma) := re_un un_neg neg_ok ha
structure CmpR (X : Cx) (op : CmpOp) (o : O2) : Prop where
  ex : ∃ r, OpR X (compareOp op) r ∧ Op2 X.K r o
theorem c_lt : CmpR X .Lt ltP := ⟨_, op_lt, lt_ok⟩
theorem c_le : CmpR X .LtE leP := ⟨_, op_le, le_ok⟩
theorem c_gt : CmpR X .Gt gtP := ⟨_, op_gt, gt_ok⟩
theorem c_ge : CmpR X .GtE geP := ⟨_, op_ge, ge_ok⟩
theorem c_eq (hu : X.A.units + 64 < cLine) : CmpR X .Eq eqP := ⟨_, op_eqD hu, eq_ok⟩
theorem c_ne (hu : X.A.units + 64 < cLine) : CmpR X .NotEq neP := ⟨_, op_neD hu, ne_ok⟩
theorem rec {op : CmpOp} {o : O2} (h : CmpR X op o) (ha : RE X a ma) (hb : RE X b mb) (hm : behindInMarks op b = false := by first | exact nomark _ | rfl) : RE X (.Compare a [op] [b] pos) (e2 o ma mb) := let ⟨_, h, o⟩ := h.ex; re_cmp h o ha hb hm
theorem rtc {op : CmpOp} {o : O2} (h : CmpR X op o) (ha : RE X a ma) (hb : RE X b mb) (hm : behindInMarks op b = false := by first | exact nomark _ | rfl) : RT X (.Compare a [op] [b] pos) (cB o ma mb) := let ⟨_, h, o⟩ := h.ex; rt_cmp h o ha hb hm
theorem rec2 {op op' : CmpOp} {o o' : O2} (h : CmpR X op o) (h' : CmpR X op' o') (ha : RE X a ma) (hb : RE X b mb) (hc : RE X c mc) (hm : lastMarks [op, op'] [b, c] = false := by with_unfolding_all rfl) : RE X (.Compare a [op, op'] [b, c] pos) (eT (cCh o o' ma mb mc)) :=
  let ⟨_, h, o⟩ := h.ex; let ⟨_, h', o'⟩ := h'.ex; re_chain h h' o o' ha hb hc hm
theorem rtc2 {op op' : CmpOp} {o o' : O2} (h : CmpR X op o) (h' : CmpR X op' o') (ha : RE X a ma) (hb : RE X b mb) (hc : RE X c mc) (hm : lastMarks [op, op'] [b, c] = false := by with_unfolding_all rfl) : RT X (.Compare a [op, op'] [b, c] pos) (cCh o o' ma mb mc) :=
  let ⟨_, h, o⟩ := h.ex; let ⟨_, h', o'⟩ := h'.ex; rt_chain h h' o o' ha hb hc hm
/-- is None, is not None -/
def isN : O2 := fun _ x y k => match y with
  | .v .non => match x with
    | .v .non => k (.bl true)
    | _ => k (.bl false)
  | _ => False
def notN : O2 := fun _ x y k => match y with
  | .v .non => match x with
    | .v .non => k (.bl false)
    | _ => k (.bl true)
  | _ => False
theorem rv_non {K : PySem.W.Frag} {G : Gh} {B : Addr → Prop} {H : Hp} {v : V} {x : EV} (h : RV K G B H x v) : (x = .v .non ∧ v = .non) ∨ (x ≠ .v .non ∧ v ≠ .non) := by
  cases x with
  | b xs =>
    obtain ⟨a, vs, e, _⟩ := h
    exact .inr ⟨(fun z => nomatch z), by rw [e]; exact (fun z => nomatch z)⟩
  | v p =>
    have h' : R K H B G.C p v := h
    cases h' with
    | non => exact .inl ⟨rfl, rfl⟩
    | _ => exact .inr ⟨(fun z => nomatch z), (fun z => nomatch z)⟩
theorem c_is : CmpR X .Is isN := ⟨_, op_isN, fun G B f M σ H x y v w k Q rep rx ry h fin => by
  unfold isN at h
  split at h
  · cases ry
    refine ⟨rfl, ?_⟩
    rcases rv_non rx with ⟨e1, e2⟩ | ⟨e1, e2⟩
    · subst e1 e2
      exact fin _ _ _ h rep (R.bl true) .refl
    · rw [decide_eq_false e2]
      split at h
      · exact absurd rfl e1
      · exact fin _ _ _ h rep (R.bl false) .refl
  · exact h.elim⟩
theorem c_isnot : CmpR X .IsNot notN := ⟨_, op_notN, fun G B f M σ H x y v w k Q rep rx ry h fin => by
  unfold notN at h
  split at h
  · cases ry
    refine ⟨rfl, ?_⟩
    rcases rv_non rx with ⟨e1, e2⟩ | ⟨e1, e2⟩
    · subst e1 e2
      exact fin _ _ _ h rep (R.bl false) .refl
    · rw [decide_eq_false e2]
      split at h
      · exact absurd rfl e1
      · exact fin _ _ _ h rep (R.bl true) .refl
  · exact h.elim⟩
/-! built-ins by name -/
theorem re_len (hg : Gl X "len") (hm : X.mg "len" = none) (ha : RA X (e :: es) ta) (he : starEach (e :: es) X.env = (false, eval e X.env) :: starEach es X.env := by rfl) (hpl : (backTo pos (starEach es X.env)).any (·.1) = false := by rfl) : RE X (.Call (.Name "len" p) (e :: es) [] pos) (eN lenP ta) := re_bltin call_lenA len_ok hg hm PySem.boot_len ha (by decide) (by decide) he hpl
theorem re_abs (hg : Gl X "abs") (hm : X.mg "abs" = none) (ha : RA X (e :: es) ta) (he : starEach (e :: es) X.env = (false, eval e X.env) :: starEach es X.env := by rfl) (hpl : (backTo pos (starEach es X.env)).any (·.1) = false := by rfl) : RE X (.Call (.Name "abs" p) (e :: es) [] pos) (eN absP ta) := re_bltin call_abs abs_ok hg hm (by decide +kernel) ha (by decide) (by decide) he hpl
theorem re_max (hc : X.calm = true) (hg : Gl X "max") (hm : X.mg "max" = none) (ha : RA X (e :: es) ta) (he : starEach (e :: es) X.env = (false, eval e X.env) :: starEach es X.env := by rfl) (hpl : (backTo pos (starEach es X.env)).any (·.1) = false := by rfl) : RE X (.Call (.Name "max" p) (e :: es) [] pos) (eN maxP ta) := re_bltin (call_max2 hc) iiN_ok hg hm (by decide +kernel) ha (by decide) (by decide) he hpl
theorem re_min (hc : X.calm = true) (hg : Gl X "min") (hm : X.mg "min" = none) (ha : RA X (e :: es) ta) (he : starEach (e :: es) X.env = (false, eval e X.env) :: starEach es X.env := by rfl) (hpl : (backTo pos (starEach es X.env)).any (·.1) = false := by rfl) : RE X (.Call (.Name "min" p) (e :: es) [] pos) (eN minP ta) := re_bltin (call_min2 hc) iiN_ok hg hm (by decide +kernel) ha (by decide) (by decide) he hpl
theorem re_any (hc : X.calm = true) (hg : Gl X "any") (hm : X.mg "any" = none) (ha : RA X (e :: es) ta) (he : starEach (e :: es) X.env = (false, eval e X.env) :: starEach es X.env := by rfl) (hpl : (backTo pos (starEach es X.env)).any (·.1) = false := by rfl) : RE X (.Call (.Name "any" p) (e :: es) [] pos) (eN anyP ta) := re_bltin (cr_any hc) bls_ok hg hm (by decide +kernel) ha (by decide) (by decide) he hpl
theorem re_sum (hc : X.calm = true) (hg : Gl X "sum") (hm : X.mg "sum" = none) (ha : RA X (e :: es) ta) (he : starEach (e :: es) X.env = (false, eval e X.env) :: starEach es X.env := by rfl) (hpl : (backTo pos (starEach es X.env)).any (·.1) = false := by rfl) : RE X (.Call (.Name "sum" p) (e :: es) [] pos) (eN sumP ta) := re_bltin (cr_sum hc) sum_ok hg hm (by decide +kernel) ha (by decide) (by decide) he hpl
theorem re_intc (hg : Gl X "int") (hm : X.mg "int" = none) (ha : RA X (e :: es) ta) (he : starEach (e :: es) X.env = (false, eval e X.env) :: starEach es X.env := by rfl) (hpl : (backTo pos (starEach es X.env)).any (·.1) = false := by rfl) : RE X (.Call (.Name "int" p) (e :: es) [] pos) (eN intP ta) := re_type call_int1 int_ok hg hm (by decide +kernel) ha (by decide) (by decide) he hpl
end

/-! ### a def as it stands, a def that keeps its promise -/
structure Dfn (K : PySem.W.Frag) (mg : Str → Option Value) (id name : Str) (stm : Stmt) (ps : List Str) : Prop where
  ex : ∃ f fd, Fun K name name stm f fd ∧ mg id = some (.ref f) ∧ Binds K fd ps []
structure Cal (P : Program) (w : World) (K : PySem.W.Frag) (mg : Str → Option Value) (base : Heap) (k : Nat) (id : Str) (ps : List Str) (psp : PSp) : Prop where
  ex : ∃ f fd, FnOk P w K mg base CX0 k f fd ps (spOf K psp) ∧ mg id = some (.ref f) ∧ PySem.W.keepIn K (.ref f) = true ∧ Binds K fd ps []
section
variable {P : Program} {w : World} {K : PySem.W.Frag} {mg : Str → Option Value} {base : Heap}
theorem cal_ok {id name : Str} {stm : Stmt} {N ps : List Str} {k n : Nat} {psp : PSp} {mb : FS} (D : Dfn K mg id name stm ps) (S : FnScope N ps (defScope stm)) (hn : N.length = ps.length + n)
    (hb : ∀ (f : Addr) (cdv : Value) (A : Around) (outer : List Env) (s : Shared) (H : Hp) (E : XK), Room k (A.deeper (envOfC name (defScope stm) s.heap.objs.size f cdv)) → RSs (cxOf CX0 P w K mg base N name (defScope stm) f cdv A outer s H E).nox (defBody stm) mb)
    (hp : ∀ args M Q, psp args M Q → args.length = ps.length ∧ mb (fE Q) (fr0 n args) M) : Cal P w K mg base (k + 1) id ps psp := by
  obtain ⟨f, fd, F, m, b⟩ := D.ex
  exact ⟨f, fd, fn_ok F S hn (hb f) hp, m, F.kp, b⟩
theorem Cal.mono {j k : Nat} {id : Str} {ps : List Str} {psp : PSp} (c : Cal P w K mg base j id ps psp) (h : j ≤ k) : Cal P w K mg base k id ps psp := let ⟨f, fd, F, r⟩ := c.ex; ⟨f, fd, F.mono h, r⟩
theorem Cal.imp {k : Nat} {id : Str} {ps : List Str} {psp psp' : PSp} (c : Cal P w K mg base k id ps psp) (h : ∀ args M Q, psp' args M Q → psp args M Q) : Cal P w K mg base k id ps psp' :=
  let ⟨f, fd, F, r⟩ := c.ex
  ⟨f, fd, F.imp fun vs H Q E ⟨B0, C, M, qs, Q', h1, h2, h3, r, q, fin⟩ => ⟨B0, C, M, qs, Q', h1, h2, h3, r, h _ _ _ q, fin⟩, r⟩
end
section
variable {X : Cx} {k j : Nat} {x : Str} {ps : List Str} {psp : PSp} {p pos : Pos} {e : Expr} {es : List Expr} {t : FA}
theorem rcl (c : Cal X.prog X.w X.K X.mg X.base k x ps psp) (hr : Room j X.A) (ha : RA X (e :: es) t) (hkj : k ≤ j := by decide) (hg : Gl X x := by rfl) (hdb : (x == ("__debug__" : Str)) = false := by decide) (he : starEach (e :: es) X.env = (false, eval e X.env) :: starEach es X.env := by rfl)
    (hpl : (backTo pos (starEach es X.env)).any (·.1) = false := by rfl) : RE X (.Call (.Name x p) (e :: es) [] pos) (eCall psp t) := let ⟨f, fd, F, m, kp, b⟩ := c.ex; re_call F (hr.mono hkj) hg m kp b pass0 ha hdb he hpl
theorem rclB (c : Cal X.prog X.w X.K X.mg X.base k x ps psp) (hr : Room j X.A) (ha : RA X (e :: es) t) (hkj : k ≤ j := by decide) (hg : Gl X x := by rfl) (hdb : (x == ("__debug__" : Str)) = false := by decide) (he : starEach (e :: es) X.env = (false, eval e X.env) :: starEach es X.env := by rfl)
    (hpl : (backTo pos (starEach es X.env)).any (·.1) = false := by rfl) : RE X (.Call (.Name x p) (e :: es) [] pos) (eCallB psp t) := let ⟨f, fd, F, m, kp, b⟩ := c.ex; re_callB F (hr.mono hkj) hg m kp b pass0 ha hdb he hpl
theorem rcl0 (c : Cal X.prog X.w X.K X.mg X.base k x ps psp) (hr : Room j X.A) (hkj : k ≤ j := by decide) (hg : Gl X x := by rfl) (hdb : (x == ("__debug__" : Str)) = false := by decide) : RE X (.Call (.Name x p) [] [] pos) (eCall psp aNil) := let ⟨f, fd, F, m, kp, b⟩ := c.ex; re_call0 F (hr.mono hkj) hg m kp b pass0 hdb
end

/-! ### stores of a comprehension, pairs of names, tuples or lists taken apart -/
section
variable {X : Cx} {i j l : Nat} {x y z : Str} {px py pz pt : Pos} {pos : Pos} {e a b c : Expr} {m ma mb mc : FE} {mf : FF} {ta : FA}
theorem st1 (i : Nat) (hN : X.N.Nodup) (he : RE X e m) (hi : X.N[i]? = some x := by rfl) (hx : Loc X.env.scope x := by first | exact Or.inl rfl | exact Or.inr rfl) (hs : swapsWith e (some (.Name x px)) pos.line X.env = pure false := by rfl) (hf : X.fn x = true ∨ X.env.scope.names.lookup x = some .local := by first | exact .inl rfl | exact .inr rfl) :
    RS X (.Assign [.Name x px] e pos) (sSet i m) := rs_set hN hi hx he hs hf
theorem stB (i : Nat) (hN : X.N.Nodup) (he : RF X e mf) (hi : X.N[i]? = some x := by rfl) (hx : Loc X.env.scope x := by first | exact Or.inl rfl | exact Or.inr rfl) (hs : swapsWith e (some (.Name x px)) pos.line X.env = pure false := by rfl) (hf : X.fn x = true ∨ X.env.scope.names.lookup x = some .local := by first | exact .inl rfl | exact .inr rfl) :
    RS X (.Assign [.Name x px] e pos) (sBld i mf) := rs_bld hN hi hx he hs hf
theorem tg1 (i : Nat) (hN : X.N.Nodup) (hi : X.N[i]? = some x := by rfl) (hx : Loc X.env.scope x := by first | exact Or.inl rfl | exact Or.inr rfl) (hf : X.fn x = true ∨ X.env.scope.names.lookup x = some .local := by first | exact .inl rfl | exact .inr rfl) : RG X (.Name x px) [i] (gN i) := rg_name hN hi hx hf
/-- x, y = a, b: names of the frame -/
def sPar (i j : Nat) (ta : FA) : FS := fun D f M => ta f M fun xs M1 => match xs with
  | [.v p, .v q] => D.nx (st (st f i (some (.v p))) j (some (.v q))) M1
  | _ => False
theorem st2 (i j : Nat) {kt k2 pt2} (hc : X.calm = true) (hN : X.N.Nodup) (ha : RA X [a, b] ta) (hi : X.N[i]? = some x := by rfl) (hj : X.N[j]? = some y := by rfl) (hij : i ≠ j := by decide)
    (hx : X.env.scope.names.lookup x = some .local := by rfl) (hy : X.env.scope.names.lookup y = some .local := by rfl)
    (hw : swappedStores [.Tuple [.Name x px, .Name y py] kt pt] (.Tuple [a, b] k2 pt2) X.env = pure (some [x, y]) := by rfl)
    (hs : swapsWithSole [.Tuple [.Name x px, .Name y py] kt pt] (.Tuple [a, b] k2 pt2) pos.line X.env = pure false := by rfl) : RS X (.Assign [.Tuple [.Name x px, .Name y py] kt pt] (.Tuple [a, b] k2 pt2) pos) (sPar i j ta) :=
  ⟨(ps_par hc hN hi hj hij hx hy ha.pa hw hs).imp fun D σ H ⟨G, B, f, M, D', rep, hm, k⟩ => ⟨G, B, f, M, _, rep, hm, fun xs M1 vs H1 q hl rep1 r1 c1 => by
    split at q
    · match vs, r1 with
      | [v, w], ⟨r, r2, _⟩ =>
        exact ⟨v, w, rfl, k.nx _ _ _ _ _ q ((rep1.set r).set r2)⟩
    · exact q.elim⟩⟩
def sPar3 (i j l : Nat) (ta : FA) : FS := fun D f M => ta f M fun xs M1 => match xs with
  | [.v p, .v q, .v r] => D.nx (st (st (st f i (some (.v p))) j (some (.v q))) l (some (.v r))) M1
  | _ => False
theorem st3 (i j l : Nat) {kt k2 pt2} (hc : X.calm = true) (hN : X.N.Nodup) (ha : RA X [a, b, c] ta) (hi : X.N[i]? = some x := by rfl) (hj : X.N[j]? = some y := by rfl) (hl : X.N[l]? = some z := by rfl) (hij : i ≠ j := by decide) (hil : i ≠ l := by decide) (hjl : j ≠ l := by decide)
    (hx : X.env.scope.names.lookup x = some .local := by rfl) (hy : X.env.scope.names.lookup y = some .local := by rfl) (hz : X.env.scope.names.lookup z = some .local := by rfl)
    (hw : swappedStores [.Tuple [.Name x px, .Name y py, .Name z pz] kt pt] (.Tuple [a, b, c] k2 pt2) X.env = pure (some [x, y, z]) := by rfl)
    (hs : swapsWithSole [.Tuple [.Name x px, .Name y py, .Name z pz] kt pt] (.Tuple [a, b, c] k2 pt2) pos.line X.env = pure false := by rfl) : RS X (.Assign [.Tuple [.Name x px, .Name y py, .Name z pz] kt pt] (.Tuple [a, b, c] k2 pt2) pos) (sPar3 i j l ta) :=
  ⟨(ps_par3 hc hN hi hj hl hij hil hjl hx hy hz ha.pa hw hs).imp fun D σ H ⟨G, B, f, M, D', rep, hm, k⟩ => ⟨G, B, f, M, _, rep, hm, fun xs M1 vs H1 q hl' rep1 r1 c1 => by
    split at q
    · match vs, r1 with
      | [v, w, u], ⟨r, r2, r3, _⟩ =>
        exact ⟨v, w, u, rfl, k.nx _ _ _ _ _ q (((rep1.set r).set r2).set r3)⟩
    · exact q.elim⟩⟩
/-- a, b, .. = a tuple or a list -/
def gS (n : Nat) (gs : FGs) : FG := fun p f k => match p with
  | .tup ps => ps.length = n ∧ gs ps f k
  | .lst ps => ps.length = n ∧ gs ps f k
  | _ => False
theorem _root_.L2.PG.orr {e : Expr} {t t' : TG} (h : PG X e t) (h' : PG X e t') : PG X e (fun v σ H Q => t v σ H Q ∨ t' v σ H Q) := ⟨fun pins s σ H v u Q I r q => q.elim (h.run pins s σ H v u Q I r) (h'.run pins s σ H v u Q I r)⟩
theorem tgS {ts : List Expr} {ws : List Nat} {gs : FGs} {k n : Nat} (hc : X.calm = true) (h : RGs X ts ws gs) (hn : (assignEach ts X.env).length = n := by rfl) (hst : (assignEach ts X.env).findIdx? (·.1) = none := by rfl) : RG X (.Tuple ts k pos) ws (gS n gs) :=
  ⟨((pg_tup hc h.pgs hn hst).orr (pg_unl hc h.pgs hn hst)).imp fun v σ H Q ⟨G, B, f, M, p, Q', rep, r, hg, k⟩ => by
    cases p with
    | tup ps =>
      obtain ⟨hl, hg⟩ := hg
      cases r with
      | tup hq hr => exact .inl ⟨_, _, rfl, hq, hr.length.symm.trans hl, G, B, f, M, ps, Q', rep, hr, hg, k⟩
    | lst ps =>
      obtain ⟨hl, hg⟩ := hg
      cases r with
      | lst hq hr => exact .inr ⟨_, _, rfl, hq.sq, hr.length.symm.trans hl, G, B, f, M, ps, Q', rep, hr, hg, k⟩
    | _ => exact hg.elim⟩
theorem tgc {ts : List Expr} {t : Expr} {ws ws' : List Nat} {g : FG} {gs : FGs} (h1 : RG X t ws g) (h2 : RGs X ts ws' gs) (hs : (assignEach (t :: ts) X.env).map (·.2) = assign t X.env :: (assignEach ts X.env).map (·.2) := by rfl) : RGs X (t :: ts) (ws ++ ws') (gsCons g gs) := rgs_cons h1 h2 hs
end
end Fl

namespace Fl
open PySem PySem.Spec PyProof.Rows L2

/-! ### a tuple times an int, whatever it is -/
theorem tuple_mul_same (l : Addr) (items : Array Value) (n : Nat) (dd : Option Addr) (sl : Array (Option Value)) (x : Int) (u : Tok) (c0 : (decide (x < -(2 ^ 63)) || decide (x ≥ 2 ^ 63)) = false) (c1 : (items.isEmpty || x == 1) = true) :
    Meets (Builtin.«tuple.__mul__» ⟨[.ref l, .int x u], []⟩) (fun _ R s => s.heap.get? l = some { cls := .type "tuple", dict := dd, data := .seq items n, slots := sl } ∧ R (.ok (.ret (Value.ref l))) s) :=
  .of_wp fun prog w A R s h => by
    obtain ⟨hp, g, d, tk, os⟩ := s
    obtain ⟨hl, h⟩ := h
    have f1 := AutoSeq1.idx_int
    have ht : Shared.TypeIs ⟨hp, g, d, tk, os⟩ (.ref l) "tuple" := ⟨_, hl, rfl⟩
    wp_walk using wpAny_loadPart' hl
    repeat (first
      | (refine wpAny_ite_false (decide_eq_false (by rw [c0]; exact Bool.false_ne_true)) ?_; wp_walk using wpAny_loadPart' hl)
      | (refine wpAny_ite_true (decide_eq_true c1) ?_; wp_walk using wpAny_loadPart' hl))
    exact ⟨_, rfl, h⟩
theorem tuple_mul_nil (l : Addr) (items : Array Value) (n : Nat) (dd : Option Addr) (sl : Array (Option Value)) (x : Int) (u : Tok) (c0 : (decide (x < -(2 ^ 63)) || decide (x ≥ 2 ^ 63)) = false) (c1 : (items.isEmpty || x == 1) = false) (c2 : (decide (x ≤ 0) || items.isEmpty) = true) :
    Meets (Builtin.«tuple.__mul__» ⟨[.ref l, .int x u], []⟩) (fun _ R s => s.heap.get? l = some { cls := .type "tuple", dict := dd, data := .seq items n, slots := sl } ∧ R (.ok (.ret (Value.ref s.heap.objs.size))) { s with heap := s.heap.push { cls := Value.type "tuple", data := Data.seq #[] }, toks := s.toks }) :=
  .of_wp fun prog w A R s h => by
    obtain ⟨hp, g, d, tk, os⟩ := s
    obtain ⟨hl, h⟩ := h
    have f1 := AutoSeq1.idx_int
    wp_walk using wpAny_loadPart' hl
    repeat (first
      | (refine wpAny_ite_false (decide_eq_false (by rw [c0]; exact Bool.false_ne_true)) ?_; wp_walk using wpAny_loadPart' hl)
      | (refine wpAny_ite_false (decide_eq_false (by rw [c1]; exact Bool.false_ne_true)) ?_; wp_walk using wpAny_loadPart' hl)
      | (refine wpAny_ite_true (decide_eq_true c2) ?_; wp_walk using wpAny_loadPart' hl))
    exact ⟨_, rfl, h⟩
def rRepA (K : PySem.W.Frag) : R2 := fun x y H Q => ∃ l k xs, x = .ref l ∧ y = .int k ∧ SqT K H l xs ∧ (-(2 ^ 62) ≤ k ∧ k < 2 ^ 62) ∧ xs.length * k.toNat ≤ sizeLine ∧ ((xs = [] ∨ k = 1) → Q (.ref l) H) ∧
  (¬ (xs = [] ∨ k = 1) → ∀ p, H p = none → Q (.ref p) (upd H p (.tup (List.replicate k.toNat xs).flatten)))
theorem op_repA {X : Cx} : OpR X (binaryOp .Mult) (rRepA X.K) := by
  intro pins s σ H x y v u Q I rx ry h
  obtain ⟨l, k, xs, rfl, rfl, hT, ⟨b1, b2⟩, hz, q1, q2⟩ := h
  cases rx
  obtain ⟨t, rfl⟩ := ry
  obtain ⟨its, r, ⟨⟨cls, dd, data, sl⟩, ho, hc, n, hd⟩, hs⟩ := I.tuple hT
  simp only at hc hd
  subst hc hd
  have hle : its.length = xs.length := r.length.symm
  have c0 : (decide (k < -(2 ^ 63)) || decide (k ≥ 2 ^ 63)) = false := by
    rw [decide_eq_false (by omega), decide_eq_false (by omega)] <;> rfl
  have emp : its.toArray.isEmpty = decide (xs = []) := by
    cases xs with
    | nil => cases its with
      | nil => rfl
      | cons _ _ => cases hle
    | cons _ _ => cases its with
      | nil => cases hle
      | cons _ _ => rfl
  refine wpAny_binaryOp_repeat_ref (T := "tuple") (U := "int") (by decide) ⟨_, ho, rfl⟩ (fun s' => typeIs_int s' k t) noFill_tuple_mul F.fills_int_mul F.slot_int_rmul repeat_tuple F.slot_int_index.lookup
    (call_meets F.slot_int_rmul (typeIs_int s k t) F.entry_int_rmul (F.args_int_rmul_2 _ _) (int_rmul_tuple k t l its.toArray n dd sl)
      ⟨ho, rfl, ⟨_, ho, rfl⟩, ?_⟩)
  by_cases hsame : xs = [] ∨ k = 1
  · have c1 : (its.toArray.isEmpty || k == 1) = true := by
      rw [emp]
      rcases hsame with e | e
      · rw [decide_eq_true e, Bool.true_or]
      · rw [e, Bool.or_comm]
        rfl
    exact call_meets F.slot_tuple_mul ⟨_, ho, rfl⟩ F.entry_tuple_mul (F.args_tuple_mul_2 _ _) (tuple_mul_same l its.toArray n dd sl k t c0 c1) ⟨ho, ⟨.ref l, H, I, rfl, q1 hsame⟩⟩
  · have hne : xs ≠ [] := fun e => hsame (.inl e)
    have hk1 : k ≠ 1 := fun e => hsame (.inr e)
    have c1 : (its.toArray.isEmpty || k == 1) = false := by
      rw [emp, decide_eq_false hne, Bool.false_or]
      exact beq_eq_false_iff_ne.mpr hk1
    have hf : H s.heap.objs.size = none := I.hok.fresh (Nat.le_refl _)
    by_cases hk : k ≤ 0
    · have c2 : (decide (k ≤ 0) || its.toArray.isEmpty) = true := by rw [decide_eq_true hk, Bool.true_or]
      refine call_meets F.slot_tuple_mul ⟨_, ho, rfl⟩ F.entry_tuple_mul (F.args_tuple_mul_2 _ _) (tuple_mul_nil l its.toArray n dd sl k t c0 c1 c2) ⟨ho, ?_⟩
      have e0 : (List.replicate k.toNat xs).flatten = [] := by
        rw [show k.toNat = 0 by omega]
        rfl
      have q := q2 hsame s.heap.objs.size hf
      rw [e0] at q
      refine ⟨.ref s.heap.objs.size, _, I.laid (t' := s.toks) (o := .tup []) (fun b ob q => Heap.get?_push_of_some _ q) (Nat.le_refl _) ?_, rfl, q⟩
      exact ⟨Nat.zero_le _, [], .nil, ⟨_, Heap.get?_push_size _ rfl, rfl, _, rfl⟩⟩
    · have c2 : (decide (k ≤ 0) || its.toArray.isEmpty) = false := by
        rw [emp, decide_eq_false hne, decide_eq_false hk] <;> rfl
      have hsz0 : its.toArray.size = xs.length := by rw [List.size_toArray, hle]
      have hkn : ((k.toNat : Nat) : Int) = k := by omega
      have hm : ((its.toArray.size : Nat) : Int) * k ≤ (sizeLine : Int) := by
        rw [hsz0, ← hkn, ← Int.natCast_mul]
        exact Int.ofNat_le.mpr hz
      have c4 : Builtin.Tuple.tupleTooMany (((its.toArray.size : Nat) : Int) * k) = false := by
        unfold Builtin.Tuple.tupleTooMany
        exact decide_eq_false (by omega)
      have flen : (List.replicate k.toNat its).flatten.length ≤ sizeLine := by
        rw [PyProof.Rows.lm_len_rep_flat, hle, Nat.mul_comm]
        exact hz
      have hcap : (sizeLine : Int) ≤ (2 ^ 63 - 1) / 8 := by
        rw [sizeLine_eq]
        decide
      refine call_meets F.slot_tuple_mul ⟨_, ho, rfl⟩ F.entry_tuple_mul (F.args_tuple_mul_2 _ _) (tuple_mulW l its.toArray n dd sl k t c0 c1 c2 (by omega) c4 (by rw [size_rep, List.size_toArray]; exact flen)) ⟨ho, ?_⟩
      rw [size_rep]
      refine ⟨.ref s.heap.objs.size, _, I.laid (t' := s.toks) (o := .tup (List.replicate k.toNat xs).flatten) (fun b ob q => Heap.get?_push_of_some _ q) (Nat.le_refl _) ?_, rfl, q2 hsame _ hf⟩
      exact ⟨by rw [PyProof.Rows.lm_len_rep_flat, Nat.mul_comm]; exact hz, _, r.rep k.toNat, IsTup.new _ _⟩
/-- x * y: ints, a tuple or a list times an int -/
def mulA : O2 := fun _ x y k => match y with
  | .v (.int j) => match x with
    | .v (.int i) => IntMulOk i j ∧ k (.int (i * j))
    | .v (.tup xs) => ((-(2 ^ 62) ≤ j ∧ j < 2 ^ 62) ∧ xs.length * j.toNat ≤ sizeLine) ∧ k (.tup (List.replicate j.toNat xs).flatten)
    | .v (.lst xs) => ((-(2 ^ 62) ≤ j ∧ j < 2 ^ 62) ∧ xs.length * j.toNat ≤ sizeLine) ∧ k (.lst (List.replicate j.toNat xs).flatten)
    | _ => False
  | _ => False
theorem flat1 {α : Type} (xs : List α) : (List.replicate 1 xs).flatten = xs := by simp
theorem flat0 {α : Type} : ∀ n : Nat, (List.replicate n ([] : List α)).flatten = []
  | 0 => rfl
  | n + 1 => by
    rw [List.replicate_succ, List.flatten_cons, flat0 n]
    rfl
theorem mulA_ok {X : Cx} : ∃ r, OpR X (binaryOp .Mult) r ∧ Op2 X.K r mulA := by
  refine ⟨_, op_mulG.or (op_repA.or op_rep), fun G B f M σ H x y v w k Q rep rx ry h fin => ?_⟩
  unfold mulA at h
  split at h
  · rename_i j
    cases ry
    split at h
    · cases rx
      exact .inl ⟨_, _, rfl, rfl, h.1, fin _ _ _ h.2 rep (.int _) .refl⟩
    · rename_i xs
      have rx' : R X.K H B G.C (.tup xs) v := rx
      cases rx' with
      | tup h1 r =>
      refine .inr (.inl ⟨_, _, _, rfl, rfl, h1, h.1.1, by rw [← r.length]; exact h.1.2, fun e => ?_, fun e p hp => fin _ _ _ h.2 (rep.new hp) (new_tup rep (r.flat _) hp) (.new hp)⟩)
      have e2 : (List.replicate j.toNat xs).flatten = xs := by
        rcases e with e | e
        · subst e
          cases r
          exact flat0 _
        · rw [e]
          exact flat1 xs
      have q := h.2
      rw [e2] at q
      exact fin _ _ _ q rep (.tup h1 r) .refl
    · obtain ⟨a, vs, rfl, ha, r⟩ := rv_lst (f := f) (M := M) (σ := σ) rx
      exact .inr (.inr ⟨_, _, _, rfl, rfl, ha, by omega, by omega, by rw [← r.length]; exact h.1.2, fun p hp => fin _ _ _ h.2 (rep.new hp) (new_lst rep (r.flat _) hp) (.new hp)⟩)
    · exact h.elim
  · exact h.elim

/-! ### == with ints apart, the order of ints and of tuples -/
def eqA : O2 := fun M x y k => match x, y with
  | .v (.int i), .v (.int j) => k (.bl (decide (i = j)))
  | x, y => eqP M x y k
def neA : O2 := fun M x y k => match x, y with
  | .v (.int i), .v (.int j) => k (.bl (!decide (i = j)))
  | x, y => neP M x y k
theorem sh_int (i : Int) : SeqAt.shaped (toD (.int i)) = true := by
  rw [toD]
  rfl
theorem eqv_int (i j : Int) : eqv (.int i) (.int j) = decide (i = j) := by
  rw [eqv]
  rfl
theorem eqA_ok {K : PySem.W.Frag} : Op2 K (rEqD K) eqA := fun G B f M σ H x y v w k Q rep rx ry h fin => by
  unfold eqA at h
  split at h
  · rename_i i j
    refine eq_ok G B f M σ H _ _ v w k Q rep rx ry ⟨⟨sh_int i, sh_int j⟩, ?_⟩ fin
    show k (.bl (eqv (.int i) (.int j)))
    rw [eqv_int]
    exact h
  · exact eq_ok G B f M σ H _ _ v w k Q rep rx ry h fin
theorem neA_ok {K : PySem.W.Frag} : Op2 K (rNeD K) neA := fun G B f M σ H x y v w k Q rep rx ry h fin => by
  unfold neA at h
  split at h
  · rename_i i j
    refine ne_ok G B f M σ H _ _ v w k Q rep rx ry ⟨⟨sh_int i, sh_int j⟩, ?_⟩ fin
    show k (.bl (!eqv (.int i) (.int j)))
    rw [eqv_int]
    exact h
  · exact ne_ok G B f M σ H _ _ v w k Q rep rx ry h fin
end Fl

namespace Fl
open PySem PySem.Spec PyProof.Rows L2
theorem _root_.L2.PI.orr {X : Cx} {tg e : Expr} {t t' : TI} (h : PI X tg e t) (h' : PI X tg e t') : PI X tg e (fun σ H R => t σ H R ∨ t' σ H R) := ⟨fun pins s σ H R I q => q.elim (h.run pins s σ H R I) (h'.run pins s σ H R I)⟩
section
variable {X : Cx} {tg e a b c : Expr} {m ma mb : FE} {mf : FF} {ta : FA} {pos p : Pos}
theorem re_mul (ha : RE X a ma) (hb : RE X b mb) : RE X (.BinOp a .Mult b pos) (e2 mulA ma mb) := let ⟨_, h, o⟩ := mulA_ok (X := X); re_op h o ha hb
theorem c_eqA (hu : X.A.units + 64 < cLine) : CmpR X .Eq eqA := ⟨_, op_eqD hu, eqA_ok⟩
theorem c_neA (hu : X.A.units + 64 < cLine) : CmpR X .NotEq neA := ⟨_, op_neD hu, neA_ok⟩
/-- for x in a list or a tuple -/
def iSeq (m : FE) : FI := fun f M Q => m f M fun x M1 => match x with
  | .v (.tup xs) => Q xs M1
  | .v (.lst xs) => Q xs M1
  | .v (.fro xs) => Q xs M1
  | _ => False
theorem it_lst {K : PySem.W.Frag} {C : Addr → Prop} {a : Addr} {xs : List PV} : ItP K C (Itl K a) [(.lst xs, .ref a)] xs := fun i B' H' hp mu => by
  have hp' := hp (.lst xs, .ref a) (by simp)
  cases hp' with
  | lst hq' hr' =>
  refine ⟨fun hi => ?_, ⟨_, hq'.sq, Nat.le_of_eq hr'.length.symm⟩, fun w H2 hi y => ?_⟩
  · have hi' := hi
    rw [hr'.length] at hi'
    exact ⟨_, _, hq'.sq, List.getElem?_eq_getElem hi'⟩
  · obtain ⟨e, y⟩ := y
    subst e
    obtain ⟨x, h1, h2⟩ := hr'.get' (y _ hq'.sq)
    exact ⟨x, h1, fun _ _ z => z, h2⟩
theorem it_fro {K : PySem.W.Frag} {C : Addr → Prop} {a : Addr} {xs : List PV} : ItP K C (Itl K a) [(.fro xs, .ref a)] xs := fun i B' H' hp mu => by
  have hp' := hp (.fro xs, .ref a) (by simp)
  cases hp' with
  | fro hq' hr' =>
  refine ⟨fun hi => ?_, ⟨_, hq'.sq, Nat.le_of_eq hr'.length.symm⟩, fun w H2 hi y => ?_⟩
  · have hi' := hi
    rw [hr'.length] at hi'
    exact ⟨_, _, hq'.sq, List.getElem?_eq_getElem hi'⟩
  · obtain ⟨e, y⟩ := y
    subst e
    obtain ⟨x, h1, h2⟩ := hr'.get' (y _ hq'.sq)
    exact ⟨x, h1, fun _ _ z => z, h2⟩
theorem it_tup {K : PySem.W.Frag} {C : Addr → Prop} {a : Addr} {xs : List PV} : ItP K C (Itt K a) [(.tup xs, .ref a)] xs := fun i B' H' hp mu => by
  have hp' := hp (.tup xs, .ref a) (by simp)
  cases hp' with
  | tup hq' hr' =>
  refine ⟨fun hi => ?_, ⟨_, hq', Nat.le_of_eq hr'.length.symm⟩, fun w H2 hi y => ?_⟩
  · have hi' := hi
    rw [hr'.length] at hi'
    exact ⟨_, _, hq', List.getElem?_eq_getElem hi'⟩
  · obtain ⟨e, y⟩ := y
    subst e
    obtain ⟨x, h1, h2⟩ := hr'.get' (y _ hq')
    exact ⟨x, h1, fun _ _ z => z, h2⟩
theorem pin1 {K : PySem.W.Frag} {H : Hp} {B C : Addr → Prop} {x : PV} {v : V} (r : R K H B C x v) : ∀ q ∈ [(x, v)], R K H B C q.1 q.2 := fun q hq => by
  have e : q = (x, v) := by simpa using hq
  subst e
  exact r
theorem ri_seq (h : RE X e m) : RI X tg e (iSeq m) := by
  have hl : PI X tg e (fun σ H S => tE X.K m σ H fun x H1 => ∃ a, x = .ref a ∧ ((∃ xs, SqL X.K H1 a xs) ∧ S (Itl X.K a) H1 ∨ (∃ xs, SqT X.K H1 a xs) ∧ S (Itt X.K a) H1)) := by
    refine ⟨fun pins s σ H R I q => ?_⟩
    refine thn (h.pe.run pins s σ H _ I q) fun v s1 ⟨x, H1, I1, r1, a, ex, q1⟩ => ?_
    subst ex
    cases r1
    rcases q1 with ⟨⟨xs, hq⟩, q⟩ | ⟨⟨xs, hq⟩, q⟩
    · obtain ⟨its, rv, p, hz⟩ := I1.list hq
      refine wpAny_pyIter_list p.isList ?_
      refine ⟨s1.heap.objs.size, [s1.heap.objs.size], _, _, H1, rfl, I1.kept (t' := s1.toks) fun b o e => Heap.get?_push_of_some _ e, turn_list a _, ⟨_, Heap.get?_push_size _ rfl, rfl, rfl⟩, fun b hb => ?_, q⟩
      have e : b = s1.heap.objs.size := by simpa using hb
      subst e
      exact I1.fpOk (Nat.le_refl _) (I1.hok.fresh (Nat.le_refl _))
    · obtain ⟨its, rv, p, hz⟩ := I1.tuple hq
      refine wpAny_pyIter_tuple (show s1.heap.IsTuple a its.toArray from p) ?_
      refine ⟨s1.heap.objs.size, [s1.heap.objs.size], _, _, H1, rfl, I1.kept (t' := s1.toks) fun b o e => Heap.get?_push_of_some _ e, turn_tuple a _, ⟨_, Heap.get?_push_size _ rfl, rfl, rfl⟩, fun b hb => ?_, q⟩
      have e : b = s1.heap.objs.size := by simpa using hb
      subst e
      exact I1.fpOk (Nat.le_refl _) (I1.hok.fresh (Nat.le_refl _))
  refine ⟨hl.imp fun σ H S ⟨G, B, f, M, Q', rep, hm, k⟩ => ⟨G, B, f, M, _, rep, hm, fun x M1 v H1 q rep1 r1 c1 => ?_⟩⟩
  split at q
  · rename_i xs
    have r2 : R X.K H1 B G.C (.tup xs) v := r1
    have r3 := r2
    cases r2 with
    | @tup a vs _ hq hr => exact ⟨a, rfl, .inr ⟨⟨_, hq⟩, k xs M1 _ _ H1 q rep1 c1 (pin1 r3) it_tup⟩⟩
  · rename_i xs
    have r2 : R X.K H1 B G.C (.lst xs) v := r1
    have r3 := r2
    cases r2 with
    | @lst a vs _ hq hr => exact ⟨a, rfl, .inl ⟨⟨_, hq.sq⟩, k xs M1 _ _ H1 q rep1 c1 (pin1 r3) it_lst⟩⟩
  · rename_i xs
    have r2 : R X.K H1 B G.C (.fro xs) v := r1
    have r3 := r2
    cases r2 with
    | @fro a vs _ hq hr => exact ⟨a, rfl, .inl ⟨⟨_, hq.sq⟩, k xs M1 _ _ H1 q rep1 c1 (pin1 r3) it_fro⟩⟩
  · exact q.elim
/-- for x in reversed(a list or a tuple) -/
def iRev (m : FE) : FI := fun f M Q => m f M fun x M1 => match x with
  | .v (.tup xs) => Q xs.reverse M1
  | .v (.lst xs) => Q xs.reverse M1
  | _ => False
theorem rev_get {α : Type} {xs : List α} {i : Nat} (h : i < xs.length) : xs.reverse[i]? = xs[xs.length - 1 - i]? := List.getElem?_reverse h
theorem it_rlst {K : PySem.W.Frag} {C : Addr → Prop} {a : Addr} {xs : List PV} : ItP K C (Itv K a xs.length) [(.lst xs, .ref a)] xs.reverse := fun i B' H' hp mu => by
  have hp' := hp (.lst xs, .ref a) (by simp)
  rw [List.length_reverse]
  cases hp' with
  | @lst _ vs _ hq' hr' =>
  refine ⟨fun hi => ⟨hi, ?_⟩, Nat.le_refl _, fun w H2 hi y => ?_⟩
  · have hi' : xs.length - 1 - i < vs.length := by
      have := hr'.length
      omega
    exact ⟨_, _, hq'.sq, List.getElem?_eq_getElem hi'⟩
  · obtain ⟨e, y⟩ := y
    subst e
    obtain ⟨x, h1, h2⟩ := hr'.get' (y _ hq'.sq)
    exact ⟨x, by rw [rev_get hi]; exact h1, fun _ _ z => z, h2⟩
theorem it_rtup {K : PySem.W.Frag} {C : Addr → Prop} {a : Addr} {xs : List PV} : ItP K C (RT.ItvT K a xs.length) [(.tup xs, .ref a)] xs.reverse := fun i B' H' hp mu => by
  have hp' := hp (.tup xs, .ref a) (by simp)
  rw [List.length_reverse]
  cases hp' with
  | @tup _ vs _ hq' hr' =>
  refine ⟨fun hi => ⟨hi, ?_⟩, Nat.le_refl _, fun w H2 hi y => ?_⟩
  · have hi' : xs.length - 1 - i < vs.length := by
      have := hr'.length
      omega
    exact ⟨_, _, hq', List.getElem?_eq_getElem hi'⟩
  · obtain ⟨e, y⟩ := y
    subst e
    obtain ⟨x, h1, h2⟩ := hr'.get' (y _ hq')
    exact ⟨x, by rw [rev_get hi]; exact h1, fun _ _ z => z, h2⟩
theorem ri_rev (hg : Gl X "reversed") (hm : X.mg "reversed" = none) (h : RE X e m) (hs : starEach [e] X.env = (false, eval e X.env) :: starEach [] X.env := by rfl) : RI X tg (.Call (.Name "reversed" p) [e] [] pos) (iRev m) :=
  ⟨(RT.pi_revA hg hm h.pe hs).imp fun σ H S ⟨G, B, f, M, Q', rep, hm, k⟩ => ⟨G, B, f, M, _, rep, hm, fun x M1 v H1 q rep1 r1 c1 => by
    split at q
    · rename_i xs
      have r2 : R X.K H1 B G.C (.tup xs) v := r1
      have r3 := r2
      cases r2 with
      | @tup a vs _ hq hr => exact ⟨a, vs, rfl, .inr ⟨hq, by rw [← hr.length]; exact k _ M1 _ _ H1 q rep1 c1 (pin1 r3) it_rtup⟩⟩
    · rename_i xs
      have r2 : R X.K H1 B G.C (.lst xs) v := r1
      have r3 := r2
      cases r2 with
      | @lst a vs _ hq hr => exact ⟨a, vs, rfl, .inl ⟨hq.sq, by rw [← hr.length]; exact k _ M1 _ _ H1 q rep1 c1 (pin1 r3) it_rlst⟩⟩
    · exact q.elim⟩⟩
/-- lo, lo + c, .. -/
def rngC (lo c : Int) : Nat → List PV
  | 0 => []
  | n + 1 => .int lo :: rngC (lo + c) c n
theorem rngC_length : ∀ (n : Nat) (lo c : Int), (rngC lo c n).length = n
  | 0, _, _ => rfl
  | n + 1, lo, c => congrArg (· + 1) (rngC_length n (lo + c) c)
theorem rngC_get : ∀ (n : Nat) (lo c : Int) (i : Nat), i < n → (rngC lo c n)[i]? = some (.int (lo + i * c))
  | n + 1, lo, c, 0, _ => by
    show some (PV.int lo) = _
    rw [show ((0 : Nat) : Int) * c = 0 by simp, Int.add_zero]
  | n + 1, lo, c, i + 1, h => by
    show (rngC (lo + c) c n)[i]? = _
    rw [rngC_get n (lo + c) c i (by omega)]
    rw [show ((i + 1 : Nat) : Int) = (i : Int) + 1 by omega, Int.add_mul, Int.one_mul]
    rw [show lo + c + (i : Int) * c = lo + ((i : Int) * c + c) by omega]
def iR3 (ta : FA) : FI := fun f M Q => ta f M fun xs M1 => match xs with
  | [.v (.int i), .v (.int j), .v (.int c)] => ∃ n, RgC i j c n ∧ Q (rngC i c n) M1
  | _ => False
theorem ri_rng3 (hg : Gl X "range") (hm : X.mg "range" = none) (ha : RA X [a, b, c] ta) (hs : starEach [a, b, c] X.env = (false, eval a X.env) :: starEach [b, c] X.env := by rfl) (hpl : (backTo pos (starEach [b, c] X.env)).any (·.1) = false := by rfl) :
    RI X tg (.Call (.Name "range" p) [a, b, c] [] pos) (iR3 ta) :=
  ⟨(pi_range3 hg hm ha.pa hs hpl).imp fun σ H S ⟨G, B, f, M, Q', rep, hm, k⟩ => ⟨G, B, f, M, _, rep, hm, fun xs M1 vs H1 q hl rep1 r1 c1 => by
    split at q
    · rename_i i j c
      obtain ⟨n, hn, q⟩ := q
      match vs, r1 with
      | [v, w, u], ⟨r, r', r'', _⟩ =>
        cases r
        cases r'
        cases r''
        refine ⟨i, j, c, n, rfl, hn, k _ _ _ [] _ q rep1 c1 (by simp) fun t B H _ _ => ?_⟩
        rw [rngC_length]
        refine ⟨fun h => h, Nat.le_refl _, fun v H' hi y => ⟨.int (i + t * c), rngC_get n i c t hi, ?_, ?_⟩⟩
        · rw [y.1]
          exact fun _ _ z => z
        · rw [y.2]
          exact .int _
    · exact q.elim⟩⟩
/-! a comprehension given to a name on its own line -/
theorem rs_lc {tg elt iter : Expr} {ifs : List Expr} {scope : Scope} {own : List (Str × Nat)} {mi : FI} {g : FG} {mt : FT} {me : FE} {ws : List Nat} {y : Str} {py spos lpos : Pos} (i : Nat) (hc : X.calm = true) (hN : X.N.Nodup) (hy : X.N[i]? = some y) (hyl : X.env.scope.names.lookup y = some .local)
    (hsw : swapsWith (.ListComp elt [⟨tg, iter, ifs, 0⟩] scope lpos) (some (.Name y py)) spos.line X.env = pure true) (hi : RI X tg iter mi) (ok : BlkOk X.N X.env.scope scope own)
    (hg : ∀ (s : Shared) (H : Hp) (C : Addr) (cl : List (Str × Addr)) (fp : List Addr), RG (X.blk s H scope (compEnvC scope cl C X.env) fp) tg ws g) (ht : ∀ (s : Shared) (H : Hp) (C : Addr) (cl : List (Str × Addr)) (fp : List Addr), RTs (X.blk s H scope (compEnvC scope cl C X.env) fp) ifs mt)
    (he : ∀ (s : Shared) (H : Hp) (C : Addr) (cl : List (Str × Addr)) (fp : List Addr), RE (X.blk s H scope (compEnvC scope cl C X.env) fp) elt me) (hw : ∀ i ∈ ws, i ∈ own.map (·.2) := by decide) (hs : ∀ x, foldedSetIterable iter X.env x = pure x := by intro _; rfl) :
    PS X (.Assign [.Name y py] (.ListComp elt [⟨tg, iter, ifs, 0⟩] scope lpos) spos) (tAsg (tF X.K (fLc mi g mt me (own.map (·.2)))) (gName i)) := by
  have h0 := ps_setLc (g := tG X.K ws g) (tt := tT X.K mt) (te := tE X.K me) hc hN hy hyl hsw hi.pi ok (fun s H C cl fp => (hg s H C cl fp).pg) (fun s H C cl fp => (ht s H C cl fp).pts) (fun s H C cl fp => (he s H C cl fp).pe) hs
  exact h0.imp fun D σ H q => lc_ok hw q
theorem st1Lc {tg elt iter : Expr} {ifs : List Expr} {scope : Scope} {own : List (Str × Nat)} {mi : FI} {g : FG} {mt : FT} {me : FE} {ws : List Nat} {y : Str} {py spos lpos : Pos} (i : Nat) (hc : X.calm = true) (hN : X.N.Nodup) (hi : RI X tg iter mi) (ok : BlkOk X.N X.env.scope scope own)
    (hg : ∀ (s : Shared) (H : Hp) (C : Addr) (cl : List (Str × Addr)) (fp : List Addr), RG (X.blk s H scope (compEnvC scope cl C X.env) fp) tg ws g) (ht : ∀ (s : Shared) (H : Hp) (C : Addr) (cl : List (Str × Addr)) (fp : List Addr), RTs (X.blk s H scope (compEnvC scope cl C X.env) fp) ifs mt)
    (he : ∀ (s : Shared) (H : Hp) (C : Addr) (cl : List (Str × Addr)) (fp : List Addr), RE (X.blk s H scope (compEnvC scope cl C X.env) fp) elt me) (hy : X.N[i]? = some y := by rfl) (hyl : X.env.scope.names.lookup y = some .local := by rfl)
    (hsw : swapsWith (.ListComp elt [⟨tg, iter, ifs, 0⟩] scope lpos) (some (.Name y py)) spos.line X.env = pure true := by exact sw_true rfl rfl rfl (by decide +kernel)) (hw : ∀ i ∈ ws, i ∈ own.map (·.2) := by decide) (hs : ∀ x, foldedSetIterable iter X.env x = pure x := by intro _; rfl) :
    RS X (.Assign [.Name y py] (.ListComp elt [⟨tg, iter, ifs, 0⟩] scope lpos) spos) (sSet i (eF (fLc mi g mt me (own.map (·.2))))) :=
  ⟨(rs_lc i hc hN hy hyl hsw hi ok hg ht he hw hs).imp fun D σ H ⟨G, B, f, M, D', rep, hm, k⟩ => ⟨G, B, f, M, _, rep, hm, fun xs M' D vs H' q rep' hD hr nb h0 ec =>
    k.nx _ _ _ _ _ q ((rep.shrink rep' fun a h => .inl h).set (.lst ⟨hD, nb⟩ (hr.weak fun a h => .inl h)))⟩⟩
theorem stBLc {tg elt iter : Expr} {ifs : List Expr} {scope : Scope} {own : List (Str × Nat)} {mi : FI} {g : FG} {mt : FT} {me : FE} {ws : List Nat} {y : Str} {py spos lpos : Pos} (i : Nat) (hc : X.calm = true) (hN : X.N.Nodup) (hi : RI X tg iter mi) (ok : BlkOk X.N X.env.scope scope own)
    (hg : ∀ (s : Shared) (H : Hp) (C : Addr) (cl : List (Str × Addr)) (fp : List Addr), RG (X.blk s H scope (compEnvC scope cl C X.env) fp) tg ws g) (ht : ∀ (s : Shared) (H : Hp) (C : Addr) (cl : List (Str × Addr)) (fp : List Addr), RTs (X.blk s H scope (compEnvC scope cl C X.env) fp) ifs mt)
    (he : ∀ (s : Shared) (H : Hp) (C : Addr) (cl : List (Str × Addr)) (fp : List Addr), RE (X.blk s H scope (compEnvC scope cl C X.env) fp) elt me) (hy : X.N[i]? = some y := by rfl) (hyl : X.env.scope.names.lookup y = some .local := by rfl)
    (hsw : swapsWith (.ListComp elt [⟨tg, iter, ifs, 0⟩] scope lpos) (some (.Name y py)) spos.line X.env = pure true := by exact sw_true rfl rfl rfl (by decide +kernel)) (hw : ∀ i ∈ ws, i ∈ own.map (·.2) := by decide) (hs : ∀ x, foldedSetIterable iter X.env x = pure x := by intro _; rfl) :
    RS X (.Assign [.Name y py] (.ListComp elt [⟨tg, iter, ifs, 0⟩] scope lpos) spos) (sBld i (fLc mi g mt me (own.map (·.2)))) :=
  ⟨(rs_lc i hc hN hy hyl hsw hi ok hg ht he hw hs).imp fun D σ H ⟨G, B, f, M, D', rep, hm, k⟩ => ⟨G, B, f, M, _, rep, hm, fun xs M1 A vs H1 q rep1 hA hr nb h0 c1 =>
    k.nx _ _ _ _ _ q (rep1.setB (.inr rfl) (fun z => nb (rep.sb A z)) h0 hA hr fun j ys hj e => by
      obtain ⟨v, e1, a, ws, e2, hb, _⟩ := rep.slot j _ hj
      rw [e] at e1
      cases e1
      cases e2
      exact nb hb)⟩⟩
end
end Fl

namespace Fl
open PySem PySem.Spec PyProof.Rows L2

/-! ### order of ints, of tuples -/
mutual
/-- x before y by c: ints, tuples of such -/
def relv (c : Int → Int → Bool) : Nat → PV → PV → Bool
  | _, .int i, .int j => c i j
  | d + 1, .tup xs, .tup ys => relvs c d xs ys
  | _, _, _ => false
def relvs (c : Int → Int → Bool) : Nat → List PV → List PV → Bool
  | _, [], ys => c 0 ys.length
  | _, x :: xs, [] => c (xs.length + 1) 0
  | d, x :: xs, y :: ys => if eqv x y then relvs c d xs ys else relv c d x y
end
mutual
def cmpb : Nat → PV → PV → Bool
  | _, .int i, .int j => true
  | d + 1, .tup xs, .tup ys => cmpbs d xs ys
  | _, _, _ => false
def cmpbs : Nat → List PV → List PV → Bool
  | _, [], _ => true
  | _, _ :: _, [] => true
  | d, x :: xs, y :: ys => cmpb d x y && cmpbs d xs ys
end
structure OrdOk (op : CmpOp) (c : Int → Int → Bool) : Prop where
  shift : ∀ a b : Int, c (a + 1) (b + 1) = c a b
  pi : ∀ (A : Around) (s : Shared) (a b : Int) (t u : Tok), Ob.RcOp op A s (.int a t) (.int b u) (c a b)
  pt : ∀ {A : Around} {s : Shared} {l b : Addr} {items items2 : Array Value} {e r : Nat → Bool}, s.heap.IsTuple l items → s.heap.IsTuple b items2 → A.units < cLine →
    (∀ j (h1 : j < items.size) (h2 : j < items2.size), SeqAt.EqAt A.in1 s items[j] items2[j] (e j)) →
    (∀ j (h1 : j < items.size) (h2 : j < items2.size), e j = false → Ob.RcOp op A.in1 s items[j] items2[j] (r j)) →
    Ob.RcOp op A s (.ref l) (.ref b) (Ob.lexAt e r (c items.size items2.size) 0 (min items.size items2.size))
  co : ∀ {A : Around} {s : Shared} {x y : Value} {b : Bool}, Ob.RcOp op A s x y b → ∀ (prog : Program) (w : World) (E : Value → Shared → Prop) (Q : Value → Shared → Prop), Q (.bool b) s → wpAny (model prog w) A (compareOp op x y) Q E s
def cLt : Int → Int → Bool := fun i j => decide (i < j)
def cLe : Int → Int → Bool := fun i j => decide (i ≤ j)
def cGt : Int → Int → Bool := fun i j => decide (j < i)
def cGe : Int → Int → Bool := fun i j => decide (j ≤ i)
theorem ord_lt : OrdOk .Lt cLt := ⟨fun a b => decide_eq_decide.mpr (by omega), fun _ _ => Ob.RcOp.lt_int, fun hl hb hu he hr => by
  have := Ob.RcOp.tuples_lt hl hb hu he hr
  rw [show ∀ a b : Nat, cLt a b = decide (a < b) from fun a b => decide_eq_decide.mpr (by omega)]
  exact this, fun h => h⟩
theorem ord_le : OrdOk .LtE cLe := ⟨fun a b => decide_eq_decide.mpr (by omega), fun _ _ => Ob.RcOp.le_int, fun hl hb hu he hr => by
  have := Ob.RcOp.tuples_le hl hb hu he hr
  rw [show ∀ a b : Nat, cLe a b = decide (a ≤ b) from fun a b => decide_eq_decide.mpr (by omega)]
  exact this, fun h => h⟩
theorem ord_gt : OrdOk .Gt cGt := ⟨fun a b => decide_eq_decide.mpr (by omega), fun _ _ => Ob.RcOp.gt_int, fun hl hb hu he hr => by
  have := Ob.RcOp.tuples_gt hl hb hu he hr
  rw [show ∀ a b : Nat, cGt a b = decide (b < a) from fun a b => decide_eq_decide.mpr (by omega)]
  exact this, fun h => h⟩
theorem ord_ge : OrdOk .GtE cGe := ⟨fun a b => decide_eq_decide.mpr (by omega), fun _ _ => Ob.RcOp.ge_int, fun hl hb hu he hr => by
  have := Ob.RcOp.tuples_ge hl hb hu he hr
  rw [show ∀ a b : Nat, cGe a b = decide (b ≤ a) from fun a b => decide_eq_decide.mpr (by omega)]
  exact this, fun h => h⟩

section
variable {X : Cx}
theorem lay_at : ∀ {xs : List PV}, PyData.canLayAll0 (toDs xs) = true → ∀ (j : Nat) (x : PV), xs[j]? = some x → (toD x).canLay0 = true
  | x :: xs, h, 0, y, e => by
    rw [toDs, PyData.canLayAll0, Bool.and_eq_true] at h
    cases e
    exact h.1
  | x :: xs, h, j + 1, y, e => by
    rw [toDs, PyData.canLayAll0, Bool.and_eq_true] at h
    exact lay_at h.2 j y (by simpa using e)
theorem depth_at : ∀ {xs : List PV} (j : Nat) (x : PV), xs[j]? = some x → (toD x).depth ≤ PyData.depthAll (toDs xs)
  | x :: xs, 0, y, e => by
    cases e
    rw [toDs, PyData.depthAll]
    exact Nat.le_max_left _ _
  | x :: xs, j + 1, y, e => by
    rw [toDs, PyData.depthAll]
    exact Nat.le_trans (depth_at j y (by simpa using e)) (Nat.le_max_right _ _)
theorem eqAt_pv {pins : List (Addr × Obj)} {σ : L2.St} {H : Hp} {s : Shared} {B C : Addr → Prop} (I : Inv X pins σ H s) {A : Around} {x y : PV} {v w : V} {u u' : Value} (hx : R X.K H B C x v) (hy : R X.K H B C y w) (rx : RelV v u) (ry : RelV w u')
    (lx : (toD x).canLay0 = true) (ly : (toD y).canLay0 = true) (hd : A.units + (toD x).depth < cLine) : SeqAt.EqAt A s u u' (eqv x y) := by
  obtain ⟨as, r1⟩ := Dp.reads I _ _ _ (R.dp hx lx) rx
  obtain ⟨bs, r2⟩ := Dp.reads I _ _ _ (R.dp hy ly) ry
  rw [← eqv_toD]
  exact SeqAt.eqAt_reads _ _ _ _ _ _ _ _ r1 r2 lx ly (by omega)
/-- what lexAt says of the lists -/
theorem lex_relvs {c : Int → Int → Bool} (hs : ∀ a b : Int, c (a + 1) (b + 1) = c a b) {d : Nat} : ∀ (xs ys : List PV) (e r : Nat → Bool) (i : Nat),
    (∀ (j : Nat) (x y : PV), xs[j]? = some x → ys[j]? = some y → e (i + j) = eqv x y ∧ r (i + j) = relv c d x y) →
    Ob.lexAt e r (c xs.length ys.length) i (min xs.length ys.length) = relvs c d xs ys
  | [], ys, e, r, i, _ => by
    rw [relvs]
    simp only [List.length_nil, Nat.zero_min, Ob.lexAt_zero]
    rfl
  | x :: xs, [], e, r, i, _ => by
    rw [relvs]
    simp only [List.length_nil, Nat.min_zero, Ob.lexAt_zero]
    rfl
  | x :: xs, y :: ys, e, r, i, k => by
    rw [relvs]
    have k0 := k 0 x y rfl rfl
    rw [Nat.add_zero] at k0
    rw [List.length_cons, List.length_cons, show min (xs.length + 1) (ys.length + 1) = min xs.length ys.length + 1 by omega, Ob.lexAt_succ, k0.1, k0.2]
    have := lex_relvs (c := c) hs (d := d) xs ys e r (i + 1) fun j x' y' h1 h2 => by
      rw [show i + 1 + j = i + (j + 1) by omega]
      exact k (j + 1) x' y' (by simpa using h1) (by simpa using h2)
    rw [← this]
    rw [show c ((xs.length + 1 : Nat) : Int) ((ys.length + 1 : Nat) : Int) = c xs.length ys.length by rw [Int.natCast_add, Int.natCast_add]; exact hs _ _]
theorem cmpbs_at {d : Nat} : ∀ {xs ys : List PV}, cmpbs d xs ys = true → ∀ (j : Nat) (x y : PV), xs[j]? = some x → ys[j]? = some y → cmpb d x y = true
  | [], _, h, j, x', y', e1, e2 => by simp at e1
  | _ :: _, [], h, j, x', y', e1, e2 => by simp at e2
  | x :: xs, y :: ys, h, 0, x', y', e1, e2 => by
    cases e1
    cases e2
    rw [cmpbs, Bool.and_eq_true] at h
    exact h.1
  | x :: xs, y :: ys, h, j + 1, x', y', e1, e2 => by
    rw [cmpbs, Bool.and_eq_true] at h
    exact cmpbs_at h.2 j x' y' (by simpa using e1) (by simpa using e2)
theorem cmpb_cases : ∀ {d : Nat} {x y : PV}, cmpb d x y = true → (∃ i j, x = .int i ∧ y = .int j) ∨ (∃ e xs ys, d = e + 1 ∧ x = .tup xs ∧ y = .tup ys ∧ cmpbs e xs ys = true) := fun {d x y} h => by
  cases d with
  | zero => cases x <;> cases y <;> simp [cmpb] at h ⊢
  | succ d => cases x <;> cases y <;> simp [cmpb] at h ⊢; exact h
theorem vals_at {vs : List V} {us : List Value} (r : Vals vs us) {j : Nat} {v : V} (h : vs[j]? = some v) (hj : j < us.toArray.size) : RelV v us.toArray[j] := by
  obtain ⟨u, h1, h2⟩ := r.get h
  have : us.toArray[j] = u := by
    have hj' : j < us.length := by simpa using hj
    rw [List.getElem?_eq_getElem hj'] at h1
    cases h1
    simp
  rw [this]
  exact h2
theorem rc_pv {op : CmpOp} {c : Int → Int → Bool} (O : OrdOk op c) {pins : List (Addr × Obj)} {σ : L2.St} {H : Hp} {s : Shared} {B C : Addr → Prop} (I : Inv X pins σ H s) : ∀ (d : Nat) (A : Around) (x y : PV) (v w : V) (u u' : Value), R X.K H B C x v → R X.K H B C y w → RelV v u → RelV w u' →
    (toD x).canLay0 = true → (toD y).canLay0 = true → cmpb d x y = true → A.units + d + 1 + (toD x).depth < cLine → Ob.RcOp op A s u u' (relv c d x y) := fun d => by
  induction d using Nat.strongRecOn with
  | ind d ih =>
    intro A x y v w u u' hx hy rx ry lx ly hc hd
    rcases cmpb_cases hc with ⟨i, j, rfl, rfl⟩ | ⟨e, xs, ys, rfl, rfl, rfl, hc⟩
    · cases hx
      cases hy
      obtain ⟨t, rfl⟩ := rx
      obtain ⟨t', rfl⟩ := ry
      have : relv c d (.int i) (.int j) = c i j := by cases d <;> simp only [relv]
      rw [this]
      exact O.pi _ _ _ _ _ _
    · cases hx with
      | @tup a vs _ hq hr =>
      cases hy with
      | @tup b ws _ hq' hr' =>
      cases rx
      cases ry
      obtain ⟨its, r1, p1, _⟩ := I.tuple hq
      obtain ⟨its2, r2, p2, _⟩ := I.tuple hq'
      rw [toD, PyData.canLay0] at lx ly
      rw [toD, PyData.depth] at hd
      have z1 : its.toArray.size = xs.length := by rw [List.size_toArray, ← r1.length, hr.length]
      have z2 : its2.toArray.size = ys.length := by rw [List.size_toArray, ← r2.length, hr'.length]
      have at1 : ∀ j (h1 : j < its.toArray.size), xs[j]? = some (xs.getD j .non) ∧ ∃ v, R X.K H B C (xs.getD j .non) v ∧ RelV v its.toArray[j] := fun j h1 => by
        have e1 : xs[j]? = some (xs.getD j .non) := by simp [show j < xs.length by omega]
        obtain ⟨v, q1, q2⟩ := hr.get e1
        exact ⟨e1, v, q2, vals_at r1 q1 h1⟩
      have at2 : ∀ j (h1 : j < its2.toArray.size), ys[j]? = some (ys.getD j .non) ∧ ∃ v, R X.K H B C (ys.getD j .non) v ∧ RelV v its2.toArray[j] := fun j h1 => by
        have e1 : ys[j]? = some (ys.getD j .non) := by simp [show j < ys.length by omega]
        obtain ⟨v, q1, q2⟩ := hr'.get e1
        exact ⟨e1, v, q2, vals_at r2 q1 h1⟩
      have P := O.pt (A := A) (s := s) (e := fun j => eqv (xs.getD j .non) (ys.getD j .non)) (r := fun j => relv c e (xs.getD j .non) (ys.getD j .non)) p1 p2 (by omega) (fun j h1 h2 => by
        obtain ⟨e1, v1, q1, q2⟩ := at1 j h1
        obtain ⟨e2, v2, q3, q4⟩ := at2 j h2
        have := depth_at _ _ e1
        exact eqAt_pv I q1 q3 q2 q4 (lay_at lx _ _ e1) (lay_at ly _ _ e2) (by rw [Around.in1_units]; omega)) (fun j h1 h2 _ => by
        obtain ⟨e1, v1, q1, q2⟩ := at1 j h1
        obtain ⟨e2, v2, q3, q4⟩ := at2 j h2
        have := depth_at _ _ e1
        exact ih e (Nat.lt_succ_self e) _ _ _ _ _ _ _ q1 q3 q2 q4 (lay_at lx _ _ e1) (lay_at ly _ _ e2) (cmpbs_at hc _ _ _ e1 e2) (by rw [Around.in1_units]; omega))
      rw [z1, z2, lex_relvs (d := e) O.shift xs ys _ _ 0 fun j x y e1 e2 => by
        rw [Nat.zero_add]
        simp [List.getD_eq_getElem?_getD, e1, e2]] at P
      rw [relv]
      exact P
/-- an order: ints, or tuples one inside the other, three deep at most -/
def rOrd (K : PySem.W.Frag) (c : Int → Int → Bool) : R2 := fun x y H Q => ∃ (B C : Addr → Prop) (p q : PV), R K H B C p x ∧ R K H B C q y ∧ okD p ∧ okD q ∧ cmpb 3 p q = true ∧ Q (.bl (relv c 3 p q)) H
theorem op_ord {op : CmpOp} {c : Int → Int → Bool} (O : OrdOk op c) (hu : X.A.units + 128 < cLine) : OpR X (compareOp op) (rOrd X.K c) := by
  intro pins s σ H x y v u Q I rx ry h
  obtain ⟨B, C, p, q, hp, hq, sp, sq, hc, hQ⟩ := h
  have := rc_pv O I 3 X.A p q _ _ _ _ hp hq rx ry (SeqAt.canLay_of_shaped sp) (SeqAt.canLay_of_shaped sq) hc (by
    have : (toD p).depth ≤ 64 := SeqAt.depth_of_shaped sp
    omega)
  exact O.co this X.prog X.w X.xe _ ⟨.bl _, H, I, rfl, hQ⟩
def ordA (c : Int → Int → Bool) : O2 := fun _ x y k => match x, y with
  | .v (.int i), .v (.int j) => k (.bl (c i j))
  | .v p, .v q => (okD p ∧ okD q ∧ cmpb 3 p q = true) ∧ k (.bl (relv c 3 p q))
  | _, _ => False
theorem okD_int (i : Int) : okD (.int i) := by
  unfold okD
  rw [toD]
  rfl
theorem ord_ok {c : Int → Int → Bool} : Op2 X.K (rOrd X.K c) (ordA c) := fun G B f M σ H x y v w k Q rep rx ry hx fin => by
  unfold ordA at hx
  split at hx
  · rename_i i j
    exact ⟨B, G.C, _, _, rx, ry, okD_int i, okD_int j, rfl, fin _ _ _ hx rep (.bl _) .refl⟩
  · exact ⟨B, G.C, _, _, rx, ry, hx.1.1, hx.1.2.1, hx.1.2.2, fin _ _ _ hx.2 rep (.bl _) .refl⟩
  · exact hx.elim
abbrev ltA : O2 := ordA cLt
abbrev leA : O2 := ordA cLe
abbrev gtA : O2 := ordA cGt
abbrev geA : O2 := ordA cGe
theorem c_ltA (hu : X.A.units + 128 < cLine) : CmpR X .Lt ltA := ⟨_, op_ord ord_lt hu, ord_ok⟩
theorem c_leA (hu : X.A.units + 128 < cLine) : CmpR X .LtE leA := ⟨_, op_ord ord_le hu, ord_ok⟩
theorem c_gtA (hu : X.A.units + 128 < cLine) : CmpR X .Gt gtA := ⟨_, op_ord ord_gt hu, ord_ok⟩
theorem c_geA (hu : X.A.units + 128 < cLine) : CmpR X .GtE geA := ⟨_, op_ord ord_ge hu, ord_ok⟩
end
end Fl

namespace HT
open PySem PySem.Spec PyProof.Rows
section
variable {prog : Program} {w : World} {A : Around} {E : Value → Shared → Prop} {s : Shared}
theorem adjust_rev (n : Nat) : Builtin.Slice.sliceAdjust none none (-1) (n : Int) = ((n : Int) - 1, -1) := by
  unfold Builtin.Slice.sliceAdjust
  simp
theorem places_rev (n : Nat) : Builtin.Slice.slicePlaces ((n : Int) - 1) (-1) (-1) = n := by
  unfold Builtin.Slice.slicePlaces
  have h1 : ¬ ((-1 : Int) > 0) := by omega
  simp only [h1, if_false]
  have : (- (-1 : Int)) = 1 := by omega
  rw [this, Int.ediv_one]
  split <;> omega
theorem pick_rev (xs : List Value) : ∀ k : Nat, k ≤ xs.length → ((List.range k).filterMap fun (m : Nat) => xs.toArray[(((xs.length : Nat) : Int) - 1 + (m : Int) * -1).toNat]?) = (xs.drop (xs.length - k)).reverse
  | 0, _ => by simp
  | k + 1, h => by
    rw [List.range_succ, List.filterMap_append, pick_rev xs k (by omega)]
    have e1 : xs.drop (xs.length - (k + 1)) = xs[xs.length - (k + 1)] :: xs.drop (xs.length - k) := by
      rw [List.drop_eq_getElem_cons (by omega)]
      congr 2
      omega
    rw [e1, List.reverse_cons]
    congr 1
    have e2 : (((xs.length : Nat) : Int) - 1 + (k : Int) * -1).toNat = xs.length - (k + 1) := by omega
    simp only [List.filterMap_cons, List.filterMap_nil, e2]
    simp [show xs.length - (k + 1) < xs.length by omega]
theorem getItem_tuple_rev {t sl : Addr} {items : List Value} {vl vu vs : Value} {Q : Value → Shared → Prop} (ht : IsTup s.heap t items.toArray) (hs : s.heap.IsSliceOf sl vl vu vs) (pl : IsPart vl none) (pu : IsPart vu none) (ps : IsPart vs (some (-1)))
    (h : Q (.ref s.heap.objs.size) { s with heap := s.heap.push { cls := .type "tuple", data := .seq items.reverse.toArray } })
    (hsz : items.length ≤ sizeLine) : wpAny (model prog w) A (getItem (.ref t) (.ref sl)) Q E s := by
  have htake : sizeOk (.seq items.reverse.toArray) := by
    show items.reverse.toArray.size ≤ sizeLine
    rw [List.size_toArray, List.length_reverse]
    exact hsz
  obtain ⟨os, hos, hcs, hds⟩ := id hs
  have hTs : s.TypeIs (.ref sl) "slice" := ⟨os, hos, hcs⟩
  unfold getItem
  try with_reducible refine wpAny_holding ?_
  first | refine wpAny_bind (wpAny_pure ?_) | skip
  refine wpAny_bind (wpAny_sequenceKey ht.typeIs (by decide) ?_)
  refine wpAny_bind (wpAny_callSpecial?_slot (name := Str.ofString "__getitem__") ht.typeIs PyProof.Rows.slot_tuple_getitem
    (wpAny_call_entry PyProof.Rows.slot_tuple_getitem ht.typeIs entry_tuple_getitem ?_ (args_tuple_getitem _ _)))
  show wpAny _ _ (Builtin.Tuple.tupleItemsOf (.ref t) >>= _) _ _ s
  refine wpAny_bind (tupleItemsOf_ ht ?_)
  refine wpAny_bind (wpAny_typeOf hTs ?_)
  rw [if_pos (by decide)]
  have apl : ∀ {Q : Int × Int × Nat → Shared → Prop}, Q ((items.toArray.size : Int) - 1, -1, items.toArray.size) s → wpAny (model prog w) A.in1 (Builtin.Slice.sliceApplied (.ref sl) (pure (items.toArray.size : Int))) Q E s := fun {Q} h => by
    unfold Builtin.Slice.sliceApplied Builtin.Slice.sliceFields
    refine wpAny_bind (wpAny_bind (wpAny_field hos hds (x := vl) rfl (wpAny_bind (wpAny_field hos hds (x := vu) rfl (wpAny_bind (wpAny_field hos hds (x := vs) rfl (wpAny_pure ?_)))))))
    refine wpAny_bind (slicePart_ ps ?_)
    show wpAny _ _ (if ((-1 : Int) == 0) = true then _ else _) _ _ s
    rw [if_neg (by decide)]
    refine wpAny_bind (slicePart_ pl (wpAny_bind (slicePart_ pu (wpAny_bind (wpAny_pure ?_)))))
    show wpAny _ _ (match Builtin.Slice.sliceAdjust none none (-1) (items.toArray.size : Int) with | (lo, hi) => pure (lo, (-1 : Int), Builtin.Slice.slicePlaces lo hi (-1))) _ _ s
    rw [adjust_rev]
    show wpAny _ _ (pure ((items.toArray.size : Int) - 1, (-1 : Int), Builtin.Slice.slicePlaces ((items.toArray.size : Int) - 1) (-1) (-1))) _ _ s
    rw [places_rev]
    exact wpAny_pure h
  refine wpAny_bind (apl ?_)
  have hno : ¬ ((((items.toArray.size : Int) - 1) == 0 && (-1 : Int) == 1 && (items.toArray.size) == items.toArray.size) = true) := by
    intro q
    rw [Bool.and_eq_true, Bool.and_eq_true] at q
    exact absurd q.1.2 (by decide)
  show wpAny _ _ (if (((items.toArray.size : Int) - 1) == 0 && (-1 : Int) == 1 && (items.toArray.size) == items.toArray.size) = true then _ else _) _ _ s
  have hp : ((List.range items.toArray.size).filterMap fun (m : Nat) => items.toArray[((items.toArray.size : Int) - 1 + (m : Int) * -1).toNat]?).toArray = items.reverse.toArray := by
    have := pick_rev items items.length (Nat.le_refl _)
    rw [Nat.sub_self, List.drop_zero] at this
    rw [List.size_toArray, this]
  rw [if_neg hno, hp]
  first
    | exact wpAny_bind (m := Builtin.Tuple.tupleExact _) (wpAny_newObj_type (wpAny_pure ⟨_, rfl, wpAny_pure h⟩) htake)
    | exact wpAny_bind (m := Builtin.Tuple.tupleExact _) (wpAny_newObj_type (wpAny_bind (wpAny_pure (wpAny_pure ⟨_, rfl, wpAny_pure h⟩))) htake)
    | exact wpAny_bind (wpAny_bind (m := Builtin.Tuple.tupleExact _) (wpAny_newObj_type (wpAny_pure (wpAny_pure ⟨_, rfl, wpAny_pure h⟩)) htake))
    | exact wpAny_bind (wpAny_bind (m := Builtin.Tuple.tupleExact _) (wpAny_newObj_type (wpAny_pure ⟨_, rfl, wpAny_pure h⟩) htake))
end
end HT
namespace Fl
open PySem PySem.Spec PyProof.Rows L2
section
variable {X : Cx}
/-- x[::-1] of a list or a tuple -/
def tRevA (K : PySem.W.Frag) (te : TE) : TE := fun σ H Q => te σ H fun x H1 => ∃ a xs, x = .ref a ∧ ((SqL K H1 a xs ∧ ∀ p, H1 p = none → Q (.ref p) (upd H1 p (.lst xs.reverse))) ∨ (SqT K H1 a xs ∧ ∀ p, H1 p = none → Q (.ref p) (upd H1 p (.tup xs.reverse))))
theorem pe_revA {e : Expr} {te : TE} {k : Nat} {p1 p2 p3 pos : Pos} (he : PE X e te) : PE X (.Subscript e (.Slice none none (some (.UnaryOp .USub (.Constant (.int 1) k p1) p2)) p3) pos) (tRevA X.K te) := by
  refine ⟨fun pins s σ H Q I h => ?_⟩
  refine Subscript_ (thn (he.run pins s σ H _ I h) fun v s1 ⟨x, H1, I1, r1, q1⟩ => ?_)
  obtain ⟨a, xs, ex, hq⟩ := q1
  subst ex
  cases r1
  have hst : PO X (some (.UnaryOp .USub (.Constant (.int 1) k p1) p2)) (tPart (tUn (rU fun i => .int (-i)) (tC (.int 1)))) := po_some (pe_un un_neg pe_int)
  refine wpAny_Slice (thn (po_none.run pins s1 σ H1 (fun o H2 => o = none ∧ H2 = H1) I1 ⟨rfl, rfl⟩) fun vl s2 ⟨l, H2, I2, pl, el, e2⟩ => ?_)
  subst el e2
  refine thn (po_none.run pins s2 σ H2 (fun o H3 => o = none ∧ H3 = H2) I2 ⟨rfl, rfl⟩) fun vu s3 ⟨u, H3, I3, pu, eu, e3⟩ => ?_
  subst eu e3
  refine thn (hst.run pins s3 σ H3 (fun o H4 => o = some (-1) ∧ H4 = H3) I3 ⟨1, rfl, -1, rfl, rfl, rfl⟩) fun vs s4 ⟨o, H4, I4, ps, eo, e4⟩ => ?_
  subst eo e4
  have I5 : Inv X pins σ H4 { s4 with heap := s4.heap.push { cls := .type "slice", data := .fields #[vl, vu, vs] } } := I4.kept (t' := s4.toks) fun b ob q => Heap.get?_push_of_some _ q
  show wpAny (model X.prog X.w) X.A (subscriptTail e (.Slice none none (some (.UnaryOp .USub (.Constant (.int 1) k p1) p2)) p3) (.ref a) (.ref s4.heap.objs.size)) (EP X pins σ Q) X.xe { s4 with heap := s4.heap.push { cls := .type "slice", data := .fields #[vl, vu, vs] } }
  rcases hq with ⟨hx, q⟩ | ⟨hx, q⟩
  · obtain ⟨its, r, ht, hz⟩ := I5.list hx
    have hlen := r.length
    refine tail_any (ops := [.ref a, .ref s4.heap.objs.size]) ht.isList.typeIs (PySem.slot_list_getitem.lookup) ?_ (by with_unfolding_all rfl)
    refine wpAny_getItem_list_slice ht.isList (Heap.IsSliceOf.new _ vl vu vs) pl pu ps (by decide) ?_ (by rw [List.size_toArray]; omega)
    rw [PySem.W.krv_pick]
    refine ⟨.ref _, _, I5.laid (t' := s4.toks) (o := .lst xs.reverse) (fun b ob q => Heap.get?_push_of_some _ q) (Nat.le_refl _) ?_, rfl, q _ (I5.hok.fresh (Nat.le_refl _))⟩
    exact ⟨by rw [List.length_reverse]; exact hz, _, 0, r.reverse, Heap.get?_push_size _ rfl⟩
  · obtain ⟨its, r, ht, hz⟩ := I5.tuple hx
    have hlen := r.length
    refine tail_any (ops := [.ref a, .ref s4.heap.objs.size]) ht.typeIs (PyProof.Rows.slot_tuple_getitem.lookup) ?_ (by with_unfolding_all rfl)
    refine HT.getItem_tuple_rev ht (Heap.IsSliceOf.new _ vl vu vs) pl pu ps ?_ (by omega)
    refine ⟨.ref _, _, I5.laid (t' := s4.toks) (o := .tup xs.reverse) (fun b ob q => Heap.get?_push_of_some _ q) (Nat.le_refl _) ?_, rfl, q _ (I5.hok.fresh (Nat.le_refl _))⟩
    exact ⟨by rw [List.length_reverse]; exact hz, _, r.reverse, IsTup.new _ _⟩
/-- x[::-1] -/
def revP : O1 := fun _ x k => match x with
  | .v (.tup xs) => k (.tup xs.reverse)
  | .v (.lst xs) => k (.lst xs.reverse)
  | .b xs => k (.lst xs.reverse)
  | _ => False
theorem RL.rev {K : PySem.W.Frag} {H : Hp} {B C : Addr → Prop} : ∀ {xs : List PV} {vs : List V}, RL K H B C xs vs → RL K H B C xs.reverse vs.reverse
  | _, _, .nil => .nil
  | _, _, .cons (x := x) (v := v) (xs := xs) (vs := vs) h t => by
    rw [List.reverse_cons, List.reverse_cons]
    exact (RL.rev t).append (.cons h .nil)
theorem re_rev {e : Expr} {m : FE} {k : Nat} {p1 p2 p3 pos : Pos} (he : RE X e m) : RE X (.Subscript e (.Slice none none (some (.UnaryOp .USub (.Constant (.int 1) k p1) p2)) p3) pos) (e1 revP m) :=
  ⟨(pe_revA he.pe).imp fun σ H Q ⟨G, B, f, M, Q', rep, hm, k⟩ => ⟨G, B, f, M, _, rep, hm, fun x M1 v H1 q rep1 r1 c1 => by
    unfold revP at q
    split at q
    · rename_i xs
      have r2 : R X.K H1 B G.C (.tup xs) v := r1
      cases r2 with
      | @tup a vs _ hq hr => exact ⟨a, vs, rfl, .inr ⟨hq, fun p hp => k _ _ _ _ q (rep1.new hp) (new_tup rep1 hr.rev hp) (c1.trans (.new hp))⟩⟩
    · rename_i xs
      have r2 : R X.K H1 B G.C (.lst xs) v := r1
      cases r2 with
      | @lst a vs _ hq hr => exact ⟨a, vs, rfl, .inl ⟨hq.sq, fun p hp => k _ _ _ _ q (rep1.new hp) (new_lst rep1 hr.rev hp) (c1.trans (.new hp))⟩⟩
    · rename_i xs
      obtain ⟨a, vs, e, ha, hr⟩ := rv_b r1
      subst e
      exact ⟨a, vs, rfl, .inl ⟨.inl (.inl ha), fun p hp => k _ _ _ _ q (rep1.new hp) (new_lst rep1 hr.rev hp) (c1.trans (.new hp))⟩⟩
    · exact q.elim⟩⟩
end
end Fl

set_option maxHeartbeats 1000000
namespace FlR
open PySem PySem.Spec PyProof.Rows
section
variable {prog : Program} {w : World} {A : Around} {E : Value → Shared → Prop} {s : Shared}
variable {I : Addr} {fp wr : List Addr} {n : Nat} {P : Nat → Value → Prop} {St : Nat → Heap → Prop} {T : String}
/-- what list(..) asks of how long it will be -/
def HintOk (prog : Program) (w : World) (I : Addr) (St : Nat → Heap → Prop) : Prop :=
  ∀ (A : Around) (E : Value → Shared → Prop) (s : Shared) (Q : Bool → Shared → Prop), St 0 s.heap → (∀ b tk, s.toks ≤ tk → Q b { s with toks := tk }) → wpAny (model prog w) A (Builtin.List.listLengthHint (.ref I)) Q E s

theorem extend_it {R : Result → Shared → Prop} (W : Walks prog w A.in1 I fp wr n P St) (hT : ∀ (s : Shared), St 0 s.heap → s.TypeIs (.ref I) T) (h2 : (Value.type T == Value.type "list") = false) (h3 : (Value.type T == Value.type "tuple") = false) (hint : HintOk prog w I St)
    (S : Addr) (res : Value) (c₀ : Nat) (hst : St 0 s.heap) (hSf : S ∉ fp) (hI : I ∈ fp) (hS : s.heap.get? S = some { cls := .type "list", data := .seq #[] c₀ })
    (hR : ∀ h' tk acc' c', (∀ b o, b ∉ S :: wr → s.heap.get? b = some o → h'.get? b = some o) → h'.get? S = some { cls := .type "list", dict := none, data := .seq acc' c', slots := #[] } → ItemsOf P acc' n → R (.ok (.ret res)) { s with heap := h', toks := tk }) (hn : n ≤ sizeLine) :
    wpAny (model prog w) A.in1 (Builtin.List.listExtendWith (.ref S) (.ref I) res)
      (fun fin s' => match fin with | .done f => R (.ok f) s' | .again c' => c'.quiet = true ∧ codeAny (model prog w) A c' R s') (fun e s' => R (.error e) s') s := by
  have hSI : S ≠ I := fun h => hSf (h ▸ hI)
  have WS := W.toS
  have key : ∀ (h : Heap) (c₁ tk : Nat), s.toks ≤ tk → St 0 h → (∀ b o, b ≠ S → s.heap.get? b = some o → h.get? b = some o) →
      h.get? S = some { cls := .type "list", data := .seq #[] c₁ } → codeAny (model prog w) A (.builtin "list.extend.loop" ⟨[.ref S, .ref I, res], []⟩) R { s with heap := h, toks := tk } := by
    intro h c₁ tk _ hst' hk hS₁
    refine codeAny_extend_loopS WS hn S hSf res n 0 _ #[] c₁ rfl (Nat.zero_le _) hst' hS₁ (ItemsOf.nil _) fun s' acc' c' hm hS' hacc => ?_
    rw [Moved.eq_with hm]
    exact hR s'.heap s'.toks acc' c' (fun b o hb e => hm.heap b o hb (hk b o (fun h => hb (h ▸ List.mem_cons_self)) e)) hS' hacc
  unfold Builtin.List.listExtendWith
  refine wpAny_bind (wpAny_typeOf (hT s hst) ?_)
  have h1 : Builtin.List.listSameRef (.ref S) (.ref I) = false := by simp [Builtin.List.listSameRef, hSI]
  simp only [h1, h2, h3, Bool.or_false, Bool.false_eq_true, if_false]
  refine wpAny_bind (W.self 0 _ _ _ hst ?_)
  refine wpAny_bind (wpAny_holding (hint _ _ _ _ hst fun b tk htk => ?_))
  refine wpAny_ite_split (fun _ => ?_) (fun _ => wpAny_pure ⟨plainId_quiet F.plain_extend_loop _, key _ c₀ _ htk hst (fun b o _ e => e) hS⟩)
  refine wpAny_bind (wpAny_rule ?_)
  refine wpAny_bind ?_
  show wpAny _ _ (updateSeq S (·.push .none) >>= fun _ => updateSeq S (·.pop)) _ _ _
  refine wpAny_bind (wpAny_updateSeq hS rfl ?_)
  have hS₂ := Heap.get?_update_self (Obj.mapSeq (·.push Value.none)) hS rfl
  refine wpAny_updateSeq (hz := by seq_fits) hS₂ rfl ?_
  have hS₃ := Heap.get?_update_self (Obj.mapSeq (·.pop)) hS₂ rfl
  have oth : ∀ b o, b ≠ S → s.heap.get? b = some o → ((s.heap.update S (Obj.mapSeq (·.push Value.none))).update S (Obj.mapSeq (·.pop))).get? b = some o :=
    fun b o hb e => (Heap.get?_update_other _ _ (Ne.symm hb)).trans ((Heap.get?_update_other _ _ (Ne.symm hb)).trans e)
  refine wpAny_pure ⟨plainId_quiet F.plain_extend_loop _, key _ _ _ htk ?_ (fun b o hb e => oth b o hb e) hS₃⟩
  exact W.frame 0 _ _ hst fun b hb o e => oth b o (fun h => hSf (h ▸ hb)) e
theorem init_it {R : Result → Shared → Prop} (W : Walks prog w A.in1 I fp wr n P St) (hT : ∀ (s : Shared), St 0 s.heap → s.TypeIs (.ref I) T) (h2 : (Value.type T == Value.type "list") = false) (h3 : (Value.type T == Value.type "tuple") = false) (hint : HintOk prog w I St)
    (S : Addr) (hst : St 0 s.heap) (hSf : S ∉ fp) (hI : I ∈ fp) (hS : s.heap.get? S = some { cls := .type "list", data := .seq #[] })
    (hR : ∀ h' tk acc' c', (∀ b o, b ∉ S :: wr → s.heap.get? b = some o → h'.get? b = some o) → h'.get? S = some { cls := .type "list", dict := none, data := .seq acc' c', slots := #[] } → ItemsOf P acc' n → R (.ok (.ret .none)) { s with heap := h', toks := tk }) (hn : n ≤ sizeLine) :
    wpAny (model prog w) A.in1 (Builtin.«list.__init__» ⟨[.ref S, .ref I], []⟩)
      (fun fin s' => match fin with | .done f => R (.ok f) s' | .again c' => c'.quiet = true ∧ codeAny (model prog w) A c' R s') (fun e s' => R (.error e) s') s := by
  show wpAny _ _ (do let old ← Builtin.List.listItems (.ref S); Builtin.List.listUpdate (.ref S) (fun _ => #[]); letGo old.toList.reverse; Builtin.List.listExtendWith (.ref S) (.ref I) .none) _ _ s
  refine wpAny_bind ?_
  unfold Builtin.List.listItems
  refine wpAny_bind (wpAny_seqItems hS rfl (wpAny_pure ?_))
  show wpAny _ _ (updateSeq S (fun _ => #[]) >>= fun _ => letGo (#[] : Array Value).toList.reverse >>= fun _ => Builtin.List.listExtendWith (.ref S) (.ref I) .none) _ _ s
  refine wpAny_bind (wpAny_updateSeq hS rfl ?_)
  have hS₂ := Heap.get?_update_self (Obj.mapSeq (fun _ => (#[] : Array Value))) hS rfl
  have oth : ∀ b o, b ≠ S → s.heap.get? b = some o → (s.heap.update S (Obj.mapSeq (fun _ => (#[] : Array Value)))).get? b = some o :=
    fun b o hb e => (Heap.get?_update_other _ _ (Ne.symm hb)).trans e
  refine wpAny_bind (wpAny_letGo ?_)
  refine extend_it W hT h2 h3 hint S .none _ (W.frame 0 _ _ hst fun b hb o e => oth b o (fun h => hSf (h ▸ hb)) e) hSf hI hS₂ (fun h' tk acc' c' hk hS' hacc => ?_) hn
  exact hR h' tk acc' c' (fun b o hb e => hk b o hb (oth b o (fun h => hb (h ▸ List.mem_cons_self)) e)) hS' hacc
theorem call_list_it {Q : Value → Shared → Prop} (W : Walks prog w A.in1.in1 I fp wr n P St) (hT : ∀ (s : Shared), St 0 s.heap → s.TypeIs (.ref I) T) (h2 : (Value.type T == Value.type "list") = false) (h3 : (Value.type T == Value.type "tuple") = false) (hint : HintOk prog w I St)
    (hst : St 0 s.heap) (hfp : ∀ b ∈ fp, b < s.heap.objs.size) (hI : I ∈ fp)
    (hQ : ∀ h' tk acc' c', (∀ b o, b ∉ wr → s.heap.get? b = some o → h'.get? b = some o) →
      h'.get? s.heap.objs.size = some { cls := .type "list", dict := none, data := .seq acc' c', slots := #[] } → ItemsOf P acc' n → Q (.ref s.heap.objs.size) { s with heap := h', toks := tk }) (hn : n ≤ sizeLine) :
    wpAny (model prog w) A (call (.type "list") [.ref I]) Q E s := by
  have hSf : s.heap.objs.size ∉ fp := fun hm => Nat.lt_irrefl _ (hfp _ hm)
  refine callType_codes (Q₁ := fun obj s₁ => obj = .ref s.heap.objs.size ∧ s₁ = { s with heap := s.heap.push { cls := .type "list", data := .seq #[] } }) F.called_list (F.typeCall_list_1 _) F.entry_list_init
    (code_list_new _ ⟨rfl, rfl⟩) fun obj s₁ h₁ => ?_
  obtain ⟨rfl, rfl⟩ := h₁
  have hS : (s.heap.push { cls := .type "list", data := .seq #[] }).get? s.heap.objs.size = some { cls := .type "list", data := .seq #[] } := Heap.get?_push_size _ rfl
  refine ⟨⟨_, hS, rfl⟩, F.args_list_init_2 _ _, init_it (A := A.in1) W hT h2 h3 hint _ (W.frame 0 _ _ hst fun b _ o e => Heap.get?_push_of_some _ e) hSf hI hS (fun h' tk acc' c' hk hS' hacc => ?_) hn⟩
  refine ⟨rfl, hQ h' tk acc' c' (fun b o hb e => hk b o (fun hm => ?_) (Heap.get?_push_of_some _ e)) hS' hacc⟩
  rcases List.mem_cons.mp hm with e' | hm
  · exact absurd (Heap.lt_size e) (by rw [e']; exact Nat.lt_irrefl _)
  · exact hb hm

/-! ### reversed(list) -/
theorem hint_rev {l : Addr} {items : Array Value} : HintOk prog w I (fun i h => i ≤ items.size ∧ h.IsRevIter I l ((items.size : Int) - 1 - (i : Int)) ∧ h.IsList l items) := fun A E s Q hst hQ => by
  have hT : s.TypeIs (.ref I) "list_reverseiterator" := Heap.IsRevIter.typeIs hst.2.1
  unfold Builtin.List.listLengthHint
  refine wpAny_bind (wpAny_specialOf hT RT.nolen_lri ?_)
  show wpAny _ A (specialOf (Value.ref I) (Str.ofString "__length_hint__") >>= _) _ _ _
  refine wpAny_bind (wpAny_specialOf hT RT.hint_lri ?_)
  generalize hid : ("list_reverseiterator.__length_hint__" : String) = id0
  wp_delta
  rw [show splitId id0 = some ("list_reverseiterator", "__length_hint__") from by subst hid; decide +kernel]
  subst hid
  refine wpAny_bind (wpAny_isInstance (b := true) hT (by rw [isSubtype_type]; kernel_rfl) ?_)
  exact wpAny_pure (hQ _ _ (Nat.le_refl _))

/-! ### reversed(tuple) -/
theorem walks_rt (hh : A.handled = none) (I t : Addr) (hne : t ≠ I) (items : Array Value) (hn : items.size ≤ sizeLine) :
    Walks prog w A I [I, t] [I] items.size (fun i v => items[items.size - 1 - i]? = some v) (fun i h => i ≤ items.size ∧ RT.IsRt h I t ((items.size : Int) - 1 - (i : Int)) ∧ IsTup h t items) where
  sub := fun b hb => by simp at hb; simp [hb]
  frame := fun _ _ _ x hk => ⟨x.1, x.2.1.at fun o e => hk I (by simp) o e, let ⟨o, ho, r⟩ := x.2.2; ⟨o, hk t (by simp) o ho, r⟩⟩
  item := fun i s Q E hi x hQ => by
    have e : (items.size : Int) - 1 - (i : Int) = ((items.size - 1 - i : Nat) : Int) := by omega
    have hit := x.2.1
    rw [e] at hit
    have hx : items[items.size - 1 - i]? = some (items[items.size - 1 - i]'(by omega)) := Array.getElem?_eq_getElem (by omega)
    refine RT.next_rt_item hit x.2.2 hx hn fun h' hit' hs' => ?_
    have e2 : ((items.size - 1 - i : Nat) : Int) - 1 = (items.size : Int) - 1 - ((i + 1 : Nat) : Int) := by omega
    rw [e2] at hit'
    exact hQ _ h' (s.toks + 1) hx ⟨hi, hit', let ⟨o, ho, r⟩ := x.2.2; ⟨o, (hs'.2 t hne).trans ho, r⟩⟩ fun b o hb eo => hs'.extBut b o (fun h => hb (by simp [h])) eo
  done := fun s Q E x hQ => by
    have e : (items.size : Int) - 1 - (items.size : Int) = -1 := by omega
    have hit := x.2.1
    rw [e] at hit
    exact RT.next_rt_end hh hit fun h' hk => hQ h' s.toks fun b o hb eo => hk b o (fun h => hb (by simp [h])) eo
  self := fun i s Q E x hQ => RT.iter_rt x.2.1 hQ
end
end FlR

set_option maxHeartbeats 1000000
namespace FlR
open PySem PySem.Spec PyProof.Rows
theorem nolen_rt : typeLookup (.type "reversed") "__len__" = pure none := by rw [typeLookup_type, builtinLookup_eq_fast]; kernel_rfl
theorem slot_rt_hint : Slot "reversed" "__length_hint__" "reversed.__length_hint__" :=
  .of (owner := "reversed") (n := "__length_hint__") (by rw [typeLookup_type, builtinLookup_eq_fast]; kernel_rfl) (by decide +kernel) (by decide +kernel) (by decide +kernel)
    (by first | exact .inl (by decide +kernel) | exact .inr (by decide +kernel)) (by rw [isSubtype_type]; kernel_rfl)
theorem entry_rt_hint : entryFor table "reversed.__length_hint__" = some Builtin.«reversed.__length_hint__» := entryFor_of_tree (by kernel_rfl)
theorem args_rt_hint (a : Value) : argsOk "reversed.__length_hint__" ⟨[a], []⟩ := by
  unfold argsOk; rw [signature?_of (id := "reversed.__length_hint__") (n := ['_', '_', 't', 'n', 'i', 'h', '_', 'h', 't', 'g', 'n', 'e', 'l', '_', '_']) (o := ['d', 'e', 's', 'r', 'e', 'v', 'e', 'r']) (by kernel_rfl) RT.owner_rt]; kernel_rfl
section
variable {prog : Program} {w : World} {A : Around} {E : Value → Shared → Prop} {s : Shared} {I : Addr}
theorem call_rt_hint {t : Addr} {items : Array Value} {i : Nat} {Q : Value → Shared → Prop} (hit : RT.IsRt s.heap I t ((items.size : Int) - 1 - (i : Int))) (ht : IsTup s.heap t items) (hi : i ≤ items.size) (hn : items.size ≤ sizeLine)
    (hQ : ∀ (m : Nat) u tk, m ≤ sizeLine → s.toks ≤ tk → Q (.int (m : Int) u) { s with toks := tk }) : wpAny (model prog w) A (call (.builtin "reversed.__length_hint__") [.ref I]) Q E s := by
  obtain ⟨o, ho, hc, hd⟩ := id hit
  refine wpAny_call_entry slot_rt_hint hit.typeIs entry_rt_hint ?_ (args_rt_hint _)
  unfold Builtin.«reversed.__length_hint__»
  refine wpAny_bind (wpAny_of_eq (a := Value.ref I) rfl ?_)
  try dsimp only
  refine wpAny_bind (wpAny_field ho hd (x := .ref t) rfl ?_)
  try dsimp only
  first
  | rw [if_neg (show ¬ ((Value.ref t == Value.none) = true) from Bool.false_ne_true)]
  | (show wpAny _ _ (if (Value.ref t == Value.none) = true then _ else _) _ _ _; rw [if_neg (show ¬ ((Value.ref t == Value.none) = true) from Bool.false_ne_true)])
  try dsimp only
  have hl : (items.size : Int) < 2 ^ 63 := by have := L2.line63; omega
  refine wpAny_bind (len_tuple ht hl ?_)
  try dsimp only
  refine wpAny_bind (wpAny_of_eq (a := some ((items.size : Nat) : Int)) rfl ?_)
  try dsimp only
  refine wpAny_bind (wpAny_field (s := { s with toks := s.toks + 1 + 1 }) ho hd (x := rawInt ((items.size : Int) - 1 - (i : Int))) rfl ?_)
  show wpAny _ _ (if (items.size : Int) < (items.size : Int) - 1 - (i : Int) + 1 then _ else _) _ _ _
  rw [if_neg (by omega)]
  rw [show (items.size : Int) - 1 - (i : Int) + 1 = ((items.size - i : Nat) : Int) by omega]
  exact wpAny_bind (wpAny_mkInt (wpAny_pure ⟨_, rfl, hQ _ _ _ (by omega) (by show s.toks ≤ s.toks + 1 + 1 + 1; omega)⟩))
theorem hint_rt {t : Addr} {items : Array Value} (hn : items.size ≤ sizeLine) : HintOk prog w I (fun i h => i ≤ items.size ∧ RT.IsRt h I t ((items.size : Int) - 1 - (i : Int)) ∧ IsTup h t items) := fun A E s Q hst hQ => by
  have hT : s.TypeIs (.ref I) "reversed" := RT.IsRt.typeIs hst.2.1
  unfold Builtin.List.listLengthHint
  refine wpAny_bind (wpAny_specialOf hT nolen_rt ?_)
  show wpAny _ A (specialOf (Value.ref I) (Str.ofString "__length_hint__") >>= _) _ _ _
  refine wpAny_bind (wpAny_specialOf hT slot_rt_hint.lookup ?_)
  generalize hid : ("reversed.__length_hint__" : String) = id0
  wp_delta
  rw [show splitId id0 = some ("reversed", "__length_hint__") from by subst hid; decide +kernel]
  subst hid
  refine wpAny_bind (wpAny_isInstance (b := true) hT (by rw [isSubtype_type]; kernel_rfl) ?_)
  refine wpAny_ite_split (fun hab => absurd hab (by decide)) (fun _ => ?_)
  refine wpAny_ite_split (fun hab => absurd hab (by decide +kernel)) (fun _ => ?_)
  refine wpAny_bind (wpAny_rule ?_)
  refine wpAny_bind (wpAny_of_eq (slot_rt_hint.bind _) ?_)
  try dsimp only
  refine wpAny_bind (wpAny_attempt (call_rt_hint hst.2.1 hst.2.2 hst.1 hn fun m u tk hm htk => ?_))
  try dsimp only
  have ea : ∀ (z : Int), asInt? (Value.int z u) = pure (some z) := fun z => rfl
  refine wpAny_bind ?_
  rw [ea]
  refine wpAny_pure ?_
  try dsimp only
  have h0 : (!Builtin.List.listFitsIndex (m : Int)) = false := by
    have := L2.line63
    have q : (m : Int) < 2 ^ 63 := by omega
    have q2 : -(2 ^ 63) ≤ (m : Int) := by omega
    unfold Builtin.List.listFitsIndex
    rw [decide_eq_true q, decide_eq_true q2]
    rfl
  have h1 : Builtin.List.listTooLong (m : Int).toNat = false := by
    unfold Builtin.List.listTooLong
    rw [Int.toNat_natCast]
    exact decide_eq_false (by omega)
  have h2 : ¬ ((m : Int) < 0) := by omega
  simp only [h0, h1, h2, Bool.false_eq_true, if_false]
  exact wpAny_pure (hQ _ _ htk)
end
end FlR

namespace Fl
open PySem PySem.Spec PyProof.Rows L2
section
variable {X : Cx}
/-- list(reversed(e)), e a list or a tuple -/
def tLstRev (K : PySem.W.Frag) (te : TE) : TE := fun σ H Q => te σ H fun v H1 => ∃ (a : Addr) (xs : List V), v = .ref a ∧ (SqL K H1 a xs ∨ SqT K H1 a xs) ∧ ∀ q, H1 q = none → Q (.ref q) (upd H1 q (.lst xs.reverse))
theorem pe_lstRev {e : Expr} {te : TE} {p p2 pos pos2 : Pos} (hc : X.calm = true) (hg : Gl X "list") (hm : X.mg "list" = none) (hg2 : Gl X "reversed") (hm2 : X.mg "reversed" = none) (he : PE X e te)
    (hs : starEach [e] X.env = (false, eval e X.env) :: starEach [] X.env := by rfl)
    (hs2 : starEach [.Call (.Name "reversed" p2) [e] [] pos2] X.env = (false, eval (.Call (.Name "reversed" p2) [e] [] pos2) X.env) :: starEach [] X.env := by rfl) :
    PE X (.Call (.Name "list" p) [.Call (.Name "reversed" p2) [e] [] pos2] [] pos) (tLstRev X.K te) := by
  refine ⟨fun pins s σ H Q I h => ?_⟩
  refine Call_ (ld_blt I hg hm boot_list (PyProof.Rows.callWith_type1 (args_cons (Call_ (ld_blt I hg2 hm2 PyProof.Rows.boot_reversed (PyProof.Rows.callWith_type1 (args_cons (thn (he.run pins s σ H _ I h) fun u s1 ⟨v, H1, I1, r1, q1⟩ => args_nil ?_) hs) hs rfl))) hs2) hs2 rfl))
  obtain ⟨a, xs, ev, hq, q⟩ := q1
  subst ev
  obtain rfl : u = Value.ref a := r1
  have hh := I1.ok.hd hc
  rcases hq with hq | hq
  · obtain ⟨its, rv, p', hz⟩ := I1.list hq
    have hl := p'.isList
    obtain ⟨ol, hol, _⟩ := id hl
    have hne : a ≠ s1.heap.objs.size := Nat.ne_of_lt (Heap.lt_size hol)
    have hn : its.toArray.size ≤ sizeLine := by rw [List.size_toArray, ← rv.length]; exact hz
    refine call_reversed_list hl (args_nil ?_)
    have st : (fun (i : Nat) (h : Heap) => i ≤ its.toArray.size ∧ h.IsRevIter s1.heap.objs.size a ((its.toArray.size : Int) - 1 - (i : Int)) ∧ h.IsList a its.toArray) 0 (s1.heap.push (revObj a ((its.toArray.size : Int) - 1))) :=
      ⟨Nat.zero_le _, ⟨_, Heap.get?_push_size _ rfl, rfl, by show Data.fields #[.ref a, rawInt ((its.toArray.size : Int) - 1)] = _; rw [show (its.toArray.size : Int) - 1 - ((0 : Nat) : Int) = (its.toArray.size : Int) - 1 by omega]⟩, hl.push _⟩
    refine FlR.call_list_it (s := { s1 with heap := s1.heap.push (revObj a ((its.toArray.size : Int) - 1)) }) (Walks.listRev (A := X.A.in1.in1) hh s1.heap.objs.size a hne its.toArray) (T := "list_reverseiterator") (fun s' hst => Heap.IsRevIter.typeIs hst.2.1) (by decide) (by decide) FlR.hint_rev st
      (fun b hb => ?_) (by simp) (fun h' tk acc c' hk e' hi => ?_) hn
    · show b < (s1.heap.push _).objs.size
      rw [Heap.size_push]
      have hb' : b = s1.heap.objs.size ∨ b = a := by simpa using hb
      rcases hb' with z | z
      · rw [z]; exact Nat.lt_succ_self _
      · rw [z]; exact Nat.lt_succ_of_lt (Heap.lt_size hol)
    have e2 : (s1.heap.push (revObj a ((its.toArray.size : Int) - 1))).objs.size = s1.heap.objs.size + 1 := Heap.size_push ..
    refine ⟨.ref (s1.heap.push (revObj a ((its.toArray.size : Int) - 1))).objs.size, upd H1 (s1.heap.push (revObj a ((its.toArray.size : Int) - 1))).objs.size (.lst xs.reverse), I1.laid (t' := tk) (fun b o eb => hk b o (fun hb => ?_) (Heap.get?_push_of_some _ eb)) (by rw [e2]; omega) (show ObjOk X.prog X.w _ _ _ (.lst xs.reverse) from ⟨by rw [List.length_reverse]; exact hz, acc.toList, c', RT.vals_rev rv hi, ?_⟩), rfl, q _ (I1.hok.fresh (by rw [e2]; omega))⟩
    · have : b = s1.heap.objs.size := by simpa using hb
      exact absurd (Heap.lt_size eb) (by rw [this]; exact Nat.lt_irrefl _)
    · rw [Array.toArray_toList]; exact e'
  · obtain ⟨its, rv, p', hz⟩ := I1.tuple hq
    obtain ⟨ol, hol, _⟩ := id p'
    have hne : a ≠ s1.heap.objs.size := Nat.ne_of_lt (Heap.lt_size hol)
    have hn : its.toArray.size ≤ sizeLine := by rw [List.size_toArray, ← rv.length]; exact hz
    have h63 := line63
    refine RT.call_reversed_tup p' (fun A E Q k => len_tuple p' (by omega) k) (args_nil ?_)
    have st : (fun (i : Nat) (h : Heap) => i ≤ its.toArray.size ∧ RT.IsRt h s1.heap.objs.size a ((its.toArray.size : Int) - 1 - (i : Int)) ∧ IsTup h a its.toArray) 0 (s1.heap.push (RT.rtObj a ((its.toArray.size : Int) - 1))) :=
      ⟨Nat.zero_le _, ⟨_, Heap.get?_push_size _ rfl, rfl, by show Data.fields #[.ref a, rawInt ((its.toArray.size : Int) - 1)] = _; rw [show (its.toArray.size : Int) - 1 - ((0 : Nat) : Int) = (its.toArray.size : Int) - 1 by omega]⟩, let ⟨o, ho, r⟩ := p'; ⟨o, Heap.get?_push_of_some _ ho, r⟩⟩
    refine FlR.call_list_it (s := { s1 with heap := s1.heap.push (RT.rtObj a ((its.toArray.size : Int) - 1)), toks := s1.toks + 1 + 1 }) (FlR.walks_rt (A := X.A.in1.in1) hh s1.heap.objs.size a hne its.toArray hn) (T := "reversed") (fun s' hst => RT.IsRt.typeIs hst.2.1) (by decide) (by decide) (FlR.hint_rt hn) st
      (fun b hb => ?_) (by simp) (fun h' tk acc c' hk e' hi => ?_) hn
    · show b < (s1.heap.push _).objs.size
      rw [Heap.size_push]
      have hb' : b = s1.heap.objs.size ∨ b = a := by simpa using hb
      rcases hb' with z | z
      · rw [z]; exact Nat.lt_succ_self _
      · rw [z]; exact Nat.lt_succ_of_lt (Heap.lt_size hol)
    have e2 : (s1.heap.push (RT.rtObj a ((its.toArray.size : Int) - 1))).objs.size = s1.heap.objs.size + 1 := Heap.size_push ..
    refine ⟨.ref (s1.heap.push (RT.rtObj a ((its.toArray.size : Int) - 1))).objs.size, upd H1 (s1.heap.push (RT.rtObj a ((its.toArray.size : Int) - 1))).objs.size (.lst xs.reverse), I1.laid (t' := tk) (fun b o eb => hk b o (fun hb => ?_) (Heap.get?_push_of_some _ eb)) (by rw [e2]; omega) (show ObjOk X.prog X.w _ _ _ (.lst xs.reverse) from ⟨by rw [List.length_reverse]; exact hz, acc.toList, c', RT.vals_rev rv hi, ?_⟩), rfl, q _ (I1.hok.fresh (by rw [e2]; omega))⟩
    · have : b = s1.heap.objs.size := by simpa using hb
      exact absurd (Heap.lt_size eb) (by rw [this]; exact Nat.lt_irrefl _)
    · rw [Array.toArray_toList]; exact e'
def fLstRev (m : FE) : FF := fun f M Q => m f M fun x M1 => match seqP x with
  | some ys => Q ys.reverse M1
  | none => False
theorem rf_listRev {e : Expr} {m : FE} {p p2 pos pos2 : Pos} (hc : X.calm = true) (hg : Gl X "list") (hm : X.mg "list" = none) (hg2 : Gl X "reversed") (hm2 : X.mg "reversed" = none) (he : RE X e m)
    (hs : starEach [e] X.env = (false, eval e X.env) :: starEach [] X.env := by rfl)
    (hs2 : starEach [.Call (.Name "reversed" p2) [e] [] pos2] X.env = (false, eval (.Call (.Name "reversed" p2) [e] [] pos2) X.env) :: starEach [] X.env := by rfl) :
    RF X (.Call (.Name "list" p) [.Call (.Name "reversed" p2) [e] [] pos2] [] pos) (fLstRev m) := ⟨(pe_lstRev hc hg hm hg2 hm2 he.pe hs hs2).imp fun σ H Q ⟨G, B, f, M, Q', rep, hm, k⟩ => ⟨G, B, f, M, _, rep, hm, fun x M1 v H1 q rep1 r1 c1 => by
  split at q
  · rename_i ys hy
    obtain ⟨a, ws, e, hs, hr⟩ := rv_seq r1 hy
    exact ⟨a, ws, e, hs, fun p hp => k _ _ _ _ _ q (rep1.newL hp) upd_same (hr.rev.evo rep1.mu (evo_new hp)) (rep1.nb hp) (rep1.fresh0 hp) (c1.trans (.new hp))⟩
  · exact q.elim⟩⟩
end
end Fl

set_option maxHeartbeats 1000000
namespace FlR
open PySem PySem.Spec PyProof.Rows
open Sem (wp)
section
variable {prog : Program} {w : World} {A : Around} {E : Value → Shared → Prop} {s : Shared} {I : Addr}
theorem nextOf_rt_item {it t : Addr} {i : Nat} {items : Array Value} {x : Value} {Q : Value → Shared → Prop} (hit : RT.IsRt s.heap it t (i : Int)) (ht : IsTup s.heap t items) (hx : items[i]? = some x) (hsz : items.size ≤ sizeLine)
    (hQ : ∀ h', RT.IsRt h' it t ((i : Int) - 1) → Heap.SameBut it s.heap h' → Q x { s with heap := h', toks := s.toks + 1 }) : wpAny (model prog w) A (Builtin.SmallTypes.nextOf (.ref it)) Q E s := by
  obtain ⟨o, ho, hc, hd⟩ := id hit
  have hi : i < items.size := (Array.getElem?_eq_some_iff.mp hx).1
  have hT : s.TypeIs (.ref t) "tuple" := RT.IsTup.typeOf' ht
  rw [sizeLine_eq] at hsz
  unfold Builtin.SmallTypes.nextOf
  refine wpAny_bind (wpAny_callSpecial?_slot (name := Str.ofString "__next__") hit.typeIs RT.slot_rt_next
    (wpAny_call_entry RT.slot_rt_next hit.typeIs RT.entry_rt_next ?_ (RT.args_rt_next _)))
  unfold Builtin.«reversed.__next__»
  refine wpAny_bind (wpAny_of_eq (a := (Value.ref it, [])) rfl ?_)
  try dsimp only
  refine wpAny_bind (wpAny_field ho hd (x := .ref t) rfl ?_)
  try dsimp only
  refine wpAny_bind (wpAny_field ho hd (x := rawInt (i : Int)) rfl ?_)
  show wpAny _ _ (if (i : Int) < 0 then _ else _) _ _ s
  rw [if_neg (by omega)]
  try dsimp only
  refine wpAny_bind (wpAny_specialOf hT RT.get_tuple ?_)
  try dsimp only
  try rw [if_neg (by decide)]
  try dsimp only
  refine wpAny_bind (wpAny_mkInt ?_)
  refine wpAny_bind (wpAny_attempt ?_)
  have fin : seqIndex? (i : Int) items.size = some i := seqIndex_of (by omega) (by omega)
  refine PyProof.Rows.getItem_tuple (s := { s with toks := s.toks + 1 }) ht (by omega) (by omega) fin hx ?_
  try dsimp only
  refine wpAny_bind (wpAny_field (s := { s with toks := s.toks + 1 }) ho hd (x := rawInt (i : Int)) rfl ?_)
  try dsimp only
  refine wpAny_bind (wpAny_setField (s := { s with toks := s.toks + 1 }) ho hd (by simp) ?_)
  first
  | refine wpAny_pure ⟨x, rfl, wpAny_pure (hQ _ ?_ (Heap.SameBut.update ..))⟩
  | refine wpAny_bind (wpAny_pure (wpAny_pure ⟨x, rfl, wpAny_pure (hQ _ ?_ (Heap.SameBut.update ..))⟩))
  exact ⟨_, Heap.get?_update_self _ ho (Obj.isFreed_of_fields (Obj.data_mapFields hd _)), (Obj.cls_mapFields ..).trans hc, by
    rw [Obj.data_mapFields hd]; simp⟩
theorem nextOf_rt_end {it t : Addr} {Q : Value → Shared → Prop} (hh : A.handled = none) (hit : RT.IsRt s.heap it t (-1))
    (hE : ∀ h' e, Heap.ExtBut it s.heap h' → (∃ o, h'.get? e = some o ∧ o.cls = .type "StopIteration") → E (.ref e) { s with heap := h' }) : wpAny (model prog w) A (Builtin.SmallTypes.nextOf (.ref it)) Q E s := by
  obtain ⟨o, ho, hc, hd⟩ := id hit
  unfold Builtin.SmallTypes.nextOf
  refine wpAny_bind (wpAny_callSpecial?_slot (name := Str.ofString "__next__") hit.typeIs RT.slot_rt_next
    (wpAny_call_entry RT.slot_rt_next hit.typeIs RT.entry_rt_next ?_ (RT.args_rt_next _)))
  unfold Builtin.«reversed.__next__»
  refine wpAny_bind (wpAny_of_eq (a := (Value.ref it, [])) rfl ?_)
  try dsimp only
  refine wpAny_bind (wpAny_field ho hd (x := .ref t) rfl ?_)
  try dsimp only
  refine wpAny_bind (wpAny_field ho hd (x := rawInt (-1)) rfl ?_)
  show wpAny _ _ (if (-1 : Int) < 0 then _ else _) _ _ s
  rw [if_pos (by decide)]
  try dsimp only
  refine wpAny_bind (wpAny_rule ?_)
  refine wpAny_bind ?_
  wp_delta
  refine wpAny_bind (wpAny_setField ho hd (by simp) ?_)
  have ho2 := Heap.get?_update_self (Obj.mapFields (·.setIfInBounds 1 (rawInt (-1)))) ho (Obj.isFreed_of_fields (Obj.data_mapFields hd _))
  refine wpAny_setField (s := { s with heap := s.heap.update it (Obj.mapFields (·.setIfInBounds 1 (rawInt (-1)))) }) ho2 (Obj.data_mapFields hd _) (by simp) ?_
  try dsimp only
  first
  | show wpAny _ _ (newExc (.type "StopIteration") [] >>= _) _ _ _
  | (refine wpAny_bind ?_; show wpAny _ _ (newExc (.type "StopIteration") [] >>= _) _ _ _)
  | (refine wpAny_bind ?_; wp_delta; show wpAny _ _ (newExc (.type "StopIteration") [] >>= _) _ _ _)
  refine wpAny_bind ?_
  simp only [newExc, newTuple]
  refine wpAny_bind (wpAny_newObj_type ?_ (by size_fits))
  refine wpAny_bind (m := firstArgMember _ _) (wpAny_of_eq (a := Value.none) (by first | rfl | (simp only [firstArgMember]; rfl)) ?_)
  refine wpAny_newObj_type ?_ (by size_fits)
  simp only [raiseNew]
  refine wpAny_bind (wpAny_handled ?_)
  first | rw [show A.in1.handled = none from hh] | rw [hh]
  refine wpAny_bind (wpAny_pure (wpAny_throw ?_))
  refine hE _ _ ?_ ⟨_, Heap.get?_push_size _ rfl, rfl⟩
  refine ((?_ : Heap.ExtBut it s.heap _).push _).push _
  exact fun b ob hb e => (Heap.get?_update_other _ _ (Ne.symm hb)).trans ((Heap.get?_update_other _ _ (Ne.symm hb)).trans e)
theorem draws_rt (hh : A.handled = none) (it t : Addr) (hne : t ≠ it) (items : Array Value) (hn : items.size ≤ sizeLine) :
    Draws prog w A it [it, t] items.size (fun i v => items[items.size - 1 - i]? = some v) (fun i h => i ≤ items.size ∧ RT.IsRt h it t ((items.size : Int) - 1 - (i : Int)) ∧ IsTup h t items) where
  live := fun _ _ st => let ⟨o, ho, _⟩ := st.2.1; ⟨o, ho⟩
  frame := fun _ _ _ st hk => ⟨st.1, st.2.1.at fun o e => hk it (by simp) o e, let ⟨o, ho, r⟩ := st.2.2; ⟨o, hk t (by simp) o ho, r⟩⟩
  item := fun i s Q E hi x hQ => by
    have e : (items.size : Int) - 1 - (i : Int) = ((items.size - 1 - i : Nat) : Int) := by omega
    have hit := x.2.1
    rw [e] at hit
    have hx : items[items.size - 1 - i]? = some (items[items.size - 1 - i]'(by omega)) := Array.getElem?_eq_getElem (by omega)
    refine nextOf_rt_item hit x.2.2 hx hn fun h' hit' hs' => ?_
    have e2 : ((items.size - 1 - i : Nat) : Int) - 1 = (items.size : Int) - 1 - ((i + 1 : Nat) : Int) := by omega
    rw [e2] at hit'
    exact hQ _ h' (s.toks + 1) hx ⟨hi, hit', let ⟨o, ho, r⟩ := x.2.2; ⟨o, (hs'.2 t hne).trans ho, r⟩⟩ hs'
  done := fun s Q E x hE => by
    have e : (items.size : Int) - 1 - (items.size : Int) = -1 := by omega
    have hit := x.2.1
    rw [e] at hit
    exact nextOf_rt_end hh hit hE
/-- zip of two iterators that stand -/
abbrev grT (h : Heap) (i1 i2 : Addr) : Heap := h.push { cls := .type "tuple", data := .seq #[.ref i1, .ref i2] }
abbrev grO (h : Heap) (i1 i2 : Addr) : Heap := (grT h i1 i2).push { cls := .type "tuple", data := .seq #[.none, .none] }
abbrev grZ (h : Heap) (i1 i2 : Addr) : Heap := (grO h i1 i2).push { cls := .type "zip", data := .fields #[.none, .bool false, .bool false, .ref h.objs.size, .ref (grT h i1 i2).objs.size] }
theorem meets_zip_its (i1 i2 : Addr) : Meets (Builtin.«zip.__new__» ⟨[.type "zip", .ref i1, .ref i2], []⟩) (fun _ R s =>
      ((∀ (prog : Program) (w : World) (A : Around) (E : Value → Shared → Prop) (Q : Value → Shared → Prop), Q (.ref i1) s → wpAny (model prog w) A (pyIter (.ref i1)) Q E s) ∧
       (∀ (prog : Program) (w : World) (A : Around) (E : Value → Shared → Prop) (Q : Value → Shared → Prop), Q (.ref i2) s → wpAny (model prog w) A (pyIter (.ref i2)) Q E s)) ∧
      R (.ok (.ret (.ref (grO s.heap i1 i2).objs.size))) { s with heap := grZ s.heap i1 i2 }) :=
  .of_wp fun prog w A R s h => by
    obtain ⟨hp, g, d, tk, os⟩ := s; obtain ⟨⟨h1, h2⟩, h⟩ := h
    have hsub := sub_zip
    have q1 := fun {A' : Around} {E : Value → Shared → Prop} {Q : Value → Shared → Prop} => h1 prog w A' E Q
    have q2 := fun {A' : Around} {E : Value → Shared → Prop} {Q : Value → Shared → Prop} => h2 prog w A' E Q
    wp_walk using q1, q2
    exact ⟨_, rfl, h⟩
theorem call_zip_its {i1 i2 : Addr} {Q : Value → Shared → Prop}
    (h1 : ∀ (prog : Program) (w : World) (A : Around) (E : Value → Shared → Prop) (Q : Value → Shared → Prop), Q (.ref i1) s → wpAny (model prog w) A (pyIter (.ref i1)) Q E s)
    (h2 : ∀ (prog : Program) (w : World) (A : Around) (E : Value → Shared → Prop) (Q : Value → Shared → Prop), Q (.ref i2) s → wpAny (model prog w) A (pyIter (.ref i2)) Q E s)
    (h : ∀ h', IsZip h' (s.heap.objs.size + 2) s.heap.objs.size (s.heap.objs.size + 1) .none → IsTupOf2 h' s.heap.objs.size (.ref i1) (.ref i2) → IsTupOf2 h' (s.heap.objs.size + 1) .none .none → h'.objs.size = s.heap.objs.size + 3 →
      (∀ c o, s.heap.get? c = some o → h'.get? c = some o) → Q (.ref (s.heap.objs.size + 2)) { s with heap := h' }) :
    wpAny (model prog w) A (call (.type "zip") [.ref i1, .ref i2]) Q E s := by
  refine callType_new F.called_zip (by decide) (F.typeCall_zip_2 _ _) (F.newCall_zip_2 _ _) (fun obj => F.args_object_init_3 obj _ _) F.entry_zip_new
    (meets_zip_its i1 i2) ⟨⟨h1, h2⟩, ?_⟩
  have zT : (grT s.heap i1 i2).objs.size = s.heap.objs.size + 1 := by rw [Heap.size_push]
  have zO : (grO s.heap i1 i2).objs.size = s.heap.objs.size + 2 := by rw [Heap.size_push, zT]
  have zZ : (grZ s.heap i1 i2).objs.size = s.heap.objs.size + 3 := by rw [Heap.size_push, zO]
  have gZ : (grZ s.heap i1 i2).get? (grO s.heap i1 i2).objs.size = some { cls := .type "zip", data := .fields #[.none, .bool false, .bool false, .ref s.heap.objs.size, .ref (grT s.heap i1 i2).objs.size] } := Heap.get?_push_size _ rfl
  have gO : (grZ s.heap i1 i2).get? (grT s.heap i1 i2).objs.size = some { cls := .type "tuple", data := .seq #[.none, .none] } := Heap.get?_push_of_some _ (Heap.get?_push_size _ rfl)
  have gT : (grZ s.heap i1 i2).get? s.heap.objs.size = some { cls := .type "tuple", data := .seq #[.ref i1, .ref i2] } := Heap.get?_push_of_some _ (Heap.get?_push_of_some _ (Heap.get?_push_size _ rfl))
  rw [zO, zT] at gZ
  rw [zT] at gO
  show _ ∧ _
  rw [zO]
  exact ⟨⟨_, gZ, rfl⟩, h _ gZ gT gO zZ fun c o e => Heap.get?_push_of_some _ (Heap.get?_push_of_some _ (Heap.get?_push_of_some _ e))⟩
end
end FlR

set_option maxHeartbeats 1000000
namespace Fl
open PySem PySem.Spec PyProof.Rows L2
/-- zip(reversed(t), reversed(u)), the tuples at a and b as they stand at each turn -/
def ItzR (K : PySem.W.Frag) (a b : Addr) (na nb : Nat) : It :=
  ⟨fun i H => i < na ∧ i < nb ∧ ∃ (xs ys : List V) (x y : V), xs.length = na ∧ ys.length = nb ∧ SqT K H a xs ∧ SqT K H b ys ∧ xs[na - 1 - i]? = some x ∧ ys[nb - 1 - i]? = some y,
    fun i H v H' => ∃ T x y, v = .ref T ∧ H T = none ∧ H' = upd H T (.tup [x, y]) ∧ (∀ xs, SqT K H a xs → xs[na - 1 - i]? = some x) ∧ ∀ ys, SqT K H b ys → ys[nb - 1 - i]? = some y,
    fun i H => (na ≤ i ∨ nb ≤ i) ∧ ∃ (xs ys : List V), xs.length = na ∧ ys.length = nb ∧ SqT K H a xs ∧ SqT K H b ys⟩
theorem turn_zipR {P : Program} {w : World} {K : PySem.W.Frag} {elts : List Expr} {kk : Nat} {tpos : Pos} {a b z TI TO i1 i2 : Addr} {na nb : Nat} (S : ZipSep2 z TI TO i1 i2 [i1, a] [i2, b]) (n1 : a ≠ i1) (n2 : b ≠ i2) :
    Turn P w K (.Tuple elts kk tpos) (ItzR K a b na nb) [z, TI, TO, i1, i2] z (fun i h => (i ≤ na ∧ i ≤ nb) ∧ IsZip h z TI TO .none ∧ IsTupOf2 h TI (.ref i1) (.ref i2) ∧ (∃ x y, IsTupOf2 h TO x y) ∧ RT.IsRt h i1 a ((na : Int) - 1 - (i : Int)) ∧ RT.IsRt h i2 b ((nb : Int) - 1 - (i : Int))) where
  mem := by simp
  obj := fun i h st c hc => by
    obtain ⟨_, hz, hTI, ⟨x, y, hTO⟩, ⟨o1, e1, _, d1⟩, ⟨o2, e2, _, d2⟩⟩ := st
    have e' : c = z ∨ c = TI ∨ c = TO ∨ c = i1 ∨ c = i2 := by simpa using hc
    rcases e' with q | q | q | q | q
    · rw [q]; exact ⟨_, hz, fun v q => nomatch q⟩
    · rw [q]; exact ⟨_, hTI, fun v q => nomatch q⟩
    · rw [q]; exact ⟨_, hTO, fun v q => nomatch q⟩
    · rw [q]; exact ⟨o1, e1, fun v q => by rw [d1] at q; cases q⟩
    · rw [q]; exact ⟨o2, e2, fun v q => by rw [d2] at q; cases q⟩
  keep := fun i h h' st k => by
    obtain ⟨hi, hz, hTI, ⟨x, y, hTO⟩, h1, h2⟩ := st
    exact ⟨hi, k z (by simp) _ hz, k TI (by simp) _ hTI, ⟨x, y, k TO (by simp) _ hTO⟩, h1.at fun o q => k i1 (by simp) o q, h2.at fun o q => k i2 (by simp) o q⟩
  item := by
    intro X hP hw hK hc i pins s σ H E I hf st hg
    subst hP hw hK
    obtain ⟨hi, hz, hTI, ⟨x0, y0, hTO⟩, h1, h2⟩ := st
    obtain ⟨hia, hib, xs, ys, x, y, lx, ly, hqx, hqy, hx, hy⟩ := hg
    obtain ⟨its, rv, p, hz1⟩ := I.tuple hqx
    obtain ⟨its2, rv2, p2, hz2⟩ := I.tuple hqy
    have s1 : its.toArray.size = na := by rw [List.size_toArray, ← rv.length, lx]
    have s2 : its2.toArray.size = nb := by rw [List.size_toArray, ← rv2.length, ly]
    have hzl : z < s.heap.objs.size := Heap.lt_size hz
    have hA : X.A.in1.handled = none := I.ok.hd hc
    have D1 := FlR.draws_rt (prog := X.prog) (w := X.w) (A := X.A.in1) hA i1 a n1 its.toArray (by omega)
    have D2 := FlR.draws_rt (prog := X.prog) (w := X.w) (A := X.A.in1) hA i2 b n2 its2.toArray (by omega)
    have st1 : i ≤ its.toArray.size ∧ RT.IsRt s.heap i1 a ((its.toArray.size : Int) - 1 - (i : Int)) ∧ IsTup s.heap a its.toArray := ⟨by omega, by rw [s1]; exact h1, p⟩
    have st2 : i ≤ its2.toArray.size ∧ RT.IsRt s.heap i2 b ((its2.toArray.size : Int) - 1 - (i : Int)) ∧ IsTup s.heap b its2.toArray := ⟨by omega, by rw [s2]; exact h2, p2⟩
    refine wpAny_pyNext_zipD2_item S D1 D2 hz hTI hTO st1 st2 (by omega) (by omega) fun u u2 h' tk hu hu2 z' TO' h1' h2' hT hsz hk => ?_
    refine ⟨_, rfl, wpAny_letOwnedTupleGo_zip (s := { s with heap := h', toks := tk }) z' fun h'' z'' sb => ?_⟩
    have hT2 : h''.get? s.heap.objs.size = some { cls := .type "tuple", data := .seq #[u, u2] } := (sb.2 _ (Nat.ne_of_gt hzl)).trans hT
    have ru : RelV x u := by
      obtain ⟨u', hu', r'⟩ := rv.get hx
      have hu := (show its.toArray[its.toArray.size - 1 - i]? = some u from hu)
      rw [s1] at hu
      have : its[na - 1 - i]? = some u := by simpa using hu
      rw [this] at hu'
      cases hu'
      exact r'
    have ru2 : RelV y u2 := by
      obtain ⟨u', hu', r'⟩ := rv2.get hy
      have hu2 := (show its2.toArray[its2.toArray.size - 1 - i]? = some u2 from hu2)
      rw [s2] at hu2
      have : its2[nb - 1 - i]? = some u2 := by simpa using hu2
      rw [this] at hu'
      cases hu'
      exact r'
    have new : ObjOk X.prog X.w (upd H s.heap.objs.size (.tup [x, y])) h'' s.heap.objs.size (.tup [x, y]) :=
      ⟨by show 2 ≤ sizeLine; decide, [u, u2], .cons ru (.cons ru2 .nil), ⟨_, hT2, rfl, _, rfl⟩⟩
    have I1 : Inv X pins σ (upd H s.heap.objs.size (.tup [x, y])) { s with heap := h'', toks := tk } :=
      I.turnedNew (t' := tk) (ch := [z, TI, TO, i1, i2]) (fun c o hb q => (sb.2 c (fun q' => hb (by simp [q']))).trans (hk c o (fun q' => hb (by simp [q'])) (fun q' => hb (by simp [q'])) (fun q' => hb (by simp [q'])) (fun q' => hb (by simp [q'])) q)) hf (Nat.le_refl _) new
    refine ⟨.ref s.heap.objs.size, _, I1, rfl, ⟨_, x, y, rfl, I.hok.fresh (Nat.le_refl _), rfl, fun l hl => by rw [I.tuple_inj hl hqx]; exact hx, fun l hl => by rw [I.tuple_inj hl hqy]; exact hy⟩, ⟨⟨hia, hib⟩, z'', ?_, ⟨u, u2, ?_⟩, ?_, ?_⟩, fun c hcm => ?_⟩
    · exact (sb.2 _ S.TIz).trans (hk _ _ S.TIz S.TITO S.TIi1 S.TIi2 hTI)
    · exact (sb.2 _ S.TOz).trans TO'
    · have := h1'.2.1
      rw [s1] at this
      exact this.at fun o q => (sb.2 _ (Ne.symm S.zi1)).trans q
    · have := h2'.2.1
      rw [s2] at this
      exact this.at fun o q => (sb.2 _ (Ne.symm S.zi2)).trans q
    · have hlt : c < s.heap.objs.size := by
        have e' : c = z ∨ c = TI ∨ c = TO ∨ c = i1 ∨ c = i2 := by simpa using hcm
        rcases e' with q | q | q | q | q
        · rw [q]; exact hzl
        · rw [q]; exact Heap.lt_size hTI
        · rw [q]; exact Heap.lt_size hTO
        · rw [q]; obtain ⟨_, e1, _⟩ := h1; exact Heap.lt_size e1
        · rw [q]; obtain ⟨_, e2, _⟩ := h2; exact Heap.lt_size e2
      rw [upd_ne (Nat.ne_of_lt hlt)]
      exact (hf c hcm).1
  done := by
    intro X hP hw hK hc i pins s σ H E I hf st hg
    subst hP hw hK
    obtain ⟨hi, hz, hTI, ⟨x0, y0, hTO⟩, h1, h2⟩ := st
    obtain ⟨hend, xs, ys, lx, ly, hqx, hqy⟩ := hg
    obtain ⟨its, rv, p, hz1⟩ := I.tuple hqx
    obtain ⟨its2, rv2, p2, hz2⟩ := I.tuple hqy
    have s1 : its.toArray.size = na := by rw [List.size_toArray, ← rv.length, lx]
    have s2 : its2.toArray.size = nb := by rw [List.size_toArray, ← rv2.length, ly]
    have hA : X.A.in1.handled = none := I.ok.hd hc
    have D1 := FlR.draws_rt (prog := X.prog) (w := X.w) (A := X.A.in1) hA i1 a n1 its.toArray (by omega)
    have D2 := FlR.draws_rt (prog := X.prog) (w := X.w) (A := X.A.in1) hA i2 b n2 its2.toArray (by omega)
    have st1 : i ≤ its.toArray.size ∧ RT.IsRt s.heap i1 a ((its.toArray.size : Int) - 1 - (i : Int)) ∧ IsTup s.heap a its.toArray := ⟨by omega, by rw [s1]; exact h1, p⟩
    have st2 : i ≤ its2.toArray.size ∧ RT.IsRt s.heap i2 b ((its2.toArray.size : Int) - 1 - (i : Int)) ∧ IsTup s.heap b its2.toArray := ⟨by omega, by rw [s2]; exact h2, p2⟩
    exact wpAny_pyNext_zipD2_end S D1 D2 hz hTI hTO st1 st2 (by omega) (by omega) (by omega) fun h' tk hk => ⟨rfl, I.turnedL (t' := tk) (ch := [z, TI, TO, i1, i2]) (fun c o hb q =>
      hk c o (fun q' => hb (by simp [q'])) (fun q' => hb (by simp [q'])) (fun q' => hb (by simp [q'])) (fun q' => hb (by simp [q'])) q) hf⟩
  self := fun A i s Q E st h => wpAny_pyIter_zip st.2.1 h
end Fl

set_option maxHeartbeats 1000000
namespace Fl
open PySem PySem.Spec PyProof.Rows L2
section
variable {X : Cx}
def tZipR (K : PySem.W.Frag) (te te2 : TE) : TI := fun σ H R => te σ H fun v H1 => ∃ (a : Addr) (xs : List V), v = .ref a ∧ SqT K H1 a xs ∧ te2 σ H1 fun v2 H2 => ∃ (b : Addr) (ys : List V), v2 = .ref b ∧ SqT K H2 a xs ∧ SqT K H2 b ys ∧ R (ItzR K a b xs.length ys.length) H2
theorem pi_zipR {e e2 : Expr} {te te2 : TE} {p p1 p2 pos pos1 pos2 tpos : Pos} {elts : List Expr} {kk : Nat} (hg : Gl X "zip") (hm : X.mg "zip" = none) (hg2 : Gl X "reversed") (hm2 : X.mg "reversed" = none) (he : PE X e te) (he2 : PE X e2 te2)
    (hs : starEach [.Call (.Name "reversed" p1) [e] [] pos1, .Call (.Name "reversed" p2) [e2] [] pos2] X.env = (false, eval (.Call (.Name "reversed" p1) [e] [] pos1) X.env) :: starEach [.Call (.Name "reversed" p2) [e2] [] pos2] X.env := by rfl)
    (hs2 : starEach [.Call (.Name "reversed" p2) [e2] [] pos2] X.env = (false, eval (.Call (.Name "reversed" p2) [e2] [] pos2) X.env) :: starEach [] X.env := by rfl)
    (hs3 : starEach [e] X.env = (false, eval e X.env) :: starEach [] X.env := by rfl)
    (hs4 : starEach [e2] X.env = (false, eval e2 X.env) :: starEach [] X.env := by rfl)
    (hpl : (backTo pos (starEach [.Call (.Name "reversed" p2) [e2] [] pos2] X.env)).any (·.1) = false := by rfl) :
    PI X (.Tuple elts kk tpos) (.Call (.Name "zip" p) [.Call (.Name "reversed" p1) [e] [] pos1, .Call (.Name "reversed" p2) [e2] [] pos2] [] pos) (tZipR X.K te te2) := by
  refine ⟨fun pins s σ H R I h => ?_⟩
  refine Call_ (ld_blt I hg hm PyProof.Rows.boot_zip (PyProof.Rows.callWith_type1 (args_cons (Call_ (ld_blt I hg2 hm2 PyProof.Rows.boot_reversed (PyProof.Rows.callWith_type1 (args_cons (thn (he.run pins s σ H _ I h) fun u s1 ⟨v, H1, I1, r1, q1⟩ => args_nil ?_) hs3) hs3 rfl))) hs) hs hpl))
  obtain ⟨a, xs, ev, hqa, q1⟩ := q1
  subst ev
  obtain rfl : u = Value.ref a := r1
  obtain ⟨its, rv, p', hz⟩ := I1.tuple hqa
  obtain ⟨ol, hol, _⟩ := id p'
  have h63 := line63
  have hn : its.toArray.size ≤ sizeLine := by rw [List.size_toArray, ← rv.length]; exact hz
  have hna : its.toArray.size = xs.length := by rw [List.size_toArray, ← rv.length]
  refine RT.call_reversed_tup p' (fun A E Q k => len_tuple p' (by omega) k) ?_
  have I2 : Inv X pins σ H1 { s1 with heap := s1.heap.push (RT.rtObj a ((its.toArray.size : Int) - 1)), toks := s1.toks + 1 + 1 } := I1.kept (t' := s1.toks + 1 + 1) fun b o e => Heap.get?_push_of_some _ e
  have g1 : (s1.heap.push (RT.rtObj a ((its.toArray.size : Int) - 1))).get? s1.heap.objs.size = some (RT.rtObj a ((its.toArray.size : Int) - 1)) := Heap.get?_push_size _ rfl
  have f1 : FpOk X pins H1 s1.heap.objs.size := I1.fpOk (Nat.le_refl _) (I1.hok.fresh (Nat.le_refl _))
  have I3 := I2.pinned (fp := [s1.heap.objs.size]) (fun b hb => by rw [List.mem_singleton.mp hb]; exact f1) (fun b hb => by rw [List.mem_singleton.mp hb]; exact ⟨_, g1, fun v z => by cases z⟩)
  refine args_cons (Call_ (ld_blt I3 hg2 hm2 PyProof.Rows.boot_reversed (PyProof.Rows.callWith_type1 (args_cons (thn (he2.run _ _ σ H1 _ I3 q1) fun u2 s2 ⟨v2, H2, I4, r2, q2⟩ => args_nil ?_) hs4) hs4 rfl))) hs2
  obtain ⟨b, ys, ev, hqa2, hqb, q2⟩ := q2
  subst ev
  obtain rfl : u2 = Value.ref b := r2
  obtain ⟨its2, rv2, pb, hz2⟩ := I4.tuple hqb
  obtain ⟨itsa, rva, pa, hza⟩ := I4.tuple hqa2
  obtain ⟨ob, hob, _⟩ := id pb
  obtain ⟨oa, hoa, _⟩ := id pa
  have hn2 : its2.toArray.size ≤ sizeLine := by rw [List.size_toArray, ← rv2.length]; exact hz2
  have hnb : its2.toArray.size = ys.length := by rw [List.size_toArray, ← rv2.length]
  have P1 : s2.heap.get? s1.heap.objs.size = some (RT.rtObj a ((its.toArray.size : Int) - 1)) ∧ H2 s1.heap.objs.size = none ∧ _ := I4.pin (s1.heap.objs.size, RT.rtObj a ((its.toArray.size : Int) - 1)) (List.mem_append_right _ (List.mem_append_right _ (by
    show _ ∈ pinsAt [s1.heap.objs.size] _
    simp only [pinsAt, List.filterMap_cons, List.filterMap_nil, g1, Option.map_some, List.mem_cons, List.not_mem_nil, or_false])))
  have I5 := I4.unpinned
  have lt1 : s1.heap.objs.size < s2.heap.objs.size := Heap.lt_size P1.1
  refine RT.call_reversed_tup pb (fun A E Q k => len_tuple pb (by omega) k) (args_nil ?_)
  have g2 : (s2.heap.push (RT.rtObj b ((its2.toArray.size : Int) - 1))).get? s2.heap.objs.size = some (RT.rtObj b ((its2.toArray.size : Int) - 1)) := Heap.get?_push_size _ rfl
  have g3 : (s2.heap.push (RT.rtObj b ((its2.toArray.size : Int) - 1))).get? s1.heap.objs.size = some (RT.rtObj a ((its.toArray.size : Int) - 1)) := Heap.get?_push_of_some _ P1.1
  have z2 : (s2.heap.push (RT.rtObj b ((its2.toArray.size : Int) - 1))).objs.size = s2.heap.objs.size + 1 := Heap.size_push ..
  refine FlR.call_zip_its (s := { s2 with heap := s2.heap.push (RT.rtObj b ((its2.toArray.size : Int) - 1)), toks := s2.toks + 1 + 1 }) (fun prog w A E Q k => RT.iter_rt (t := a) (i := (its.toArray.size : Int) - 1) ⟨_, g3, rfl, rfl⟩ k) (fun prog w A E Q k => RT.iter_rt (t := b) (i := (its2.toArray.size : Int) - 1) ⟨_, g2, rfl, rfl⟩ k)
    fun h' hZ hTI hTO hsz hk => ?_
  simp only [z2] at hZ hTI hTO hsz
  show wpAny _ _ (pyIter (.ref ((s2.heap.push (RT.rtObj b ((its2.toArray.size : Int) - 1))).objs.size + 2))) _ _ _
  rw [z2]
  refine wpAny_pyIter_zip hZ ?_
  have I6 : Inv X pins σ H2 { s2 with heap := h', toks := s2.toks + 1 + 1 } := I5.kept (t' := s2.toks + 1 + 1) fun c o e => hk c o (Heap.get?_push_of_some _ e)
  have la : a < s2.heap.objs.size := Heap.lt_size hoa
  have lb : b < s2.heap.objs.size := Heap.lt_size hob
  have na1 : a ≠ s1.heap.objs.size := Nat.ne_of_lt (Heap.lt_size hol)
  have nb1 : b ≠ s1.heap.objs.size := fun z => by
    have := P1.1
    rw [← z, hob] at this
    injection this with this
    have tb := pb
    obtain ⟨o', ho', hc', _⟩ := tb
    rw [hob] at ho'
    injection ho' with ho'
    rw [← ho', this] at hc'
    have hc2 : (Value.type "reversed" : Value) = .type "tuple" := hc'
    injection hc2 with hc2
    exact absurd hc2 (by decide)
  have fpz : ∀ c, s2.heap.objs.size ≤ c → FpOk X pins H2 c := fun c hc => I5.fpOk hc (I5.hok.fresh hc)
  have fpi : FpOk X pins H2 s1.heap.objs.size := ⟨P1.2.1, f1.2⟩
  refine ⟨s2.heap.objs.size + 1 + 2, [s2.heap.objs.size + 1 + 2, s2.heap.objs.size + 1, s2.heap.objs.size + 1 + 1, s1.heap.objs.size, s2.heap.objs.size], _, _, H2, rfl, I6, turn_zipR (na := xs.length) (nb := ys.length) (a := a) (b := b) ?_ na1 (Nat.ne_of_lt lb), ⟨⟨Nat.zero_le _, Nat.zero_le _⟩, hZ, hTI, ⟨_, _, hTO⟩, ?_, ?_⟩, fun c hc => ?_, q2⟩
  · have a1 : s1.heap.objs.size ≠ s2.heap.objs.size := Nat.ne_of_lt lt1
    have a2 : ∀ k, s1.heap.objs.size ≠ s2.heap.objs.size + 1 + k := fun k => by omega
    have a3 : ∀ k, a ≠ s2.heap.objs.size + 1 + k := fun k => Nat.ne_of_lt (Nat.lt_of_lt_of_le la (by omega))
    have a4 : ∀ k, b ≠ s2.heap.objs.size + 1 + k := fun k => Nat.ne_of_lt (Nat.lt_of_lt_of_le lb (by omega))
    have ni : ∀ {x y z : Addr}, x ≠ y → x ≠ z → x ∉ [y, z] := fun h1 h2 h => by
      rcases List.mem_cons.mp h with h | h
      · exact h1 h
      · exact h2 (List.mem_singleton.mp h)
    have neN : ∀ {x y : Nat}, x ≠ y → @Ne Addr x y := fun h => h
    exact ⟨neN (by omega), neN (by omega), neN (by omega), (a2 0).symm, List.mem_cons_self, ni (a2 2).symm (a3 2).symm, ni (a2 1).symm (a3 1).symm, neN (by omega), List.mem_cons_self, ni (neN (by omega)) (a4 2).symm, ni (neN (by omega)) (a4 1).symm, ni a1 nb1.symm, ni a1.symm (Nat.ne_of_gt la)⟩
  · exact ⟨_, hk _ _ g3, rfl, by rw [← hna, show (its.toArray.size : Int) - 1 - ((0 : Nat) : Int) = (its.toArray.size : Int) - 1 by omega]; rfl⟩
  · exact ⟨_, hk _ _ g2, rfl, by rw [← hnb, show (its2.toArray.size : Int) - 1 - ((0 : Nat) : Int) = (its2.toArray.size : Int) - 1 by omega]; rfl⟩
  · have hc' : c = s2.heap.objs.size + 1 + 2 ∨ c = s2.heap.objs.size + 1 ∨ c = s2.heap.objs.size + 1 + 1 ∨ c = s1.heap.objs.size ∨ c = s2.heap.objs.size := by simpa using hc
    rcases hc' with z | z | z | z | z
    · rw [z]; exact fpz _ (by omega)
    · rw [z]; exact fpz _ (by omega)
    · rw [z]; exact fpz _ (by omega)
    · rw [z]; exact fpi
    · rw [z]; exact fpz _ (Nat.le_refl _)
end
end Fl

namespace Fl
open PySem PySem.Spec PyProof.Rows L2
/-- the pairs of a zip -/
def zipV : List PV → List PV → List PV
  | x :: xs, y :: ys => .tup [x, y] :: zipV xs ys
  | _, _ => []
theorem zipV_length : ∀ xs ys : List PV, (zipV xs ys).length = min xs.length ys.length
  | [], ys => by simp [zipV]
  | x :: xs, [] => by simp [zipV]
  | x :: xs, y :: ys => by simp [zipV, zipV_length xs ys]
theorem zipV_get : ∀ {xs ys : List PV} {i : Nat} {x y : PV}, xs[i]? = some x → ys[i]? = some y → (zipV xs ys)[i]? = some (.tup [x, y])
  | x :: xs, y :: ys, 0, _, _, h1, h2 => by cases h1; cases h2; rfl
  | x :: xs, y :: ys, i + 1, _, _, h1, h2 => by
    show (zipV xs ys)[i]? = _
    exact zipV_get (by simpa using h1) (by simpa using h2)
section
variable {X : Cx} {e e2 : Expr} {ta : FA} {m m2 : FE} {p pos tpos : Pos} {elts : List Expr} {kk : Nat}
theorem pin2 {K : PySem.W.Frag} {H : Hp} {B C : Addr → Prop} {x y : PV} {v w : V} (r : R K H B C x v) (r' : R K H B C y w) : ∀ q ∈ [(x, v), (y, w)], R K H B C q.1 q.2 := fun q hq => by
  have e : q = (x, v) ∨ q = (y, w) := by simpa using hq
  rcases e with e | e
  · subst e; exact r
  · subst e; exact r'
theorem yld_pair {K : PySem.W.Frag} {H : Hp} {B C : Addr → Prop} {px py : PV} {x y : V} {T : Addr} (mu : ∀ a, B a → Mut (H a)) (hT : H T = none) (nB : ¬ B T) (hx : R K H B C px x) (hy : R K H B C py y) :
    (∀ a o, H a = some o → upd H T (.tup [x, y]) a = some o) ∧ R K (upd H T (.tup [x, y])) B C (.tup [px, py]) (.ref T) := by
  have ev : Evo B B H (upd H T (.tup [x, y])) := ⟨fun a u e _ => by rw [upd_ne (ne_of_none e hT)]; exact e, fun _ _ _ n => n⟩
  refine ⟨fun a o e => by rw [upd_ne (ne_of_none e hT)]; exact e, ?_⟩
  exact .tup (.inl (.inl upd_same)) (.cons (hx.evo mu ev) (.cons (hy.evo mu ev) .nil))
theorem nb_mu {H : Hp} {B : Addr → Prop} (mu : ∀ a, B a → Mut (H a)) {T : Addr} (hT : H T = none) : ¬ B T := fun z => by
  have := mu T z
  rw [hT] at this
  exact this
theorem it_zipT {K : PySem.W.Frag} {C : Addr → Prop} {a b : Addr} {xs ys : List PV} : ItP K C (RZ.ItzT K a b) [(.tup xs, .ref a), (.tup ys, .ref b)] (zipV xs ys) := fun i B' H' hp mu => by
  have h1 := hp (.tup xs, .ref a) (by simp)
  have h2 := hp (.tup ys, .ref b) (by simp)
  rw [zipV_length]
  cases h1 with
  | @tup _ vs _ hq hr =>
  cases h2 with
  | @tup _ ws _ hq2 hr2 =>
  have l1 := hr.length
  have l2 := hr2.length
  refine ⟨fun hi => ⟨vs, ws, _, _, hq, hq2, List.getElem?_eq_getElem (by omega), List.getElem?_eq_getElem (by omega)⟩, ⟨vs, ws, hq, hq2, by omega⟩, fun w H2 hi y => ?_⟩
  obtain ⟨T, x, z, e, hT, eH, g1, g2⟩ := y
  subst e eH
  obtain ⟨px, q1, r1⟩ := hr.get' (g1 _ hq)
  obtain ⟨py, q2, r2⟩ := hr2.get' (g2 _ hq2)
  exact ⟨_, zipV_get q1 q2, yld_pair mu hT (nb_mu mu hT) r1 r2⟩
theorem it_zipL {K : PySem.W.Frag} {C : Addr → Prop} {a b : Addr} {xs ys : List PV} : ItP K C (Itz K a b) [(.lst xs, .ref a), (.lst ys, .ref b)] (zipV xs ys) := fun i B' H' hp mu => by
  have h1 := hp (.lst xs, .ref a) (by simp)
  have h2 := hp (.lst ys, .ref b) (by simp)
  rw [zipV_length]
  cases h1 with
  | @lst _ vs _ hq hr =>
  cases h2 with
  | @lst _ ws _ hq2 hr2 =>
  have l1 := hr.length
  have l2 := hr2.length
  refine ⟨fun hi => ⟨vs, ws, _, _, hq.sq, hq2.sq, List.getElem?_eq_getElem (by omega), List.getElem?_eq_getElem (by omega)⟩, ⟨vs, ws, hq.sq, hq2.sq, by omega⟩, fun w H2 hi y => ?_⟩
  obtain ⟨T, x, z, e, hT, eH, g1, g2⟩ := y
  subst e eH
  obtain ⟨px, q1, r1⟩ := hr.get' (g1 _ hq.sq)
  obtain ⟨py, q2, r2⟩ := hr2.get' (g2 _ hq2.sq)
  exact ⟨_, zipV_get q1 q2, yld_pair mu hT (nb_mu mu hT) r1 r2⟩
def iZip2 (ta : FA) : FI := fun f M Q => ta f M fun xs M1 => match xs with
  | [.v (.tup xs), .v (.tup ys)] => Q (zipV xs ys) M1
  | [.v (.lst xs), .v (.lst ys)] => Q (zipV xs ys) M1
  | _ => False
theorem ri_zip2 (hg : Gl X "zip") (hm : X.mg "zip" = none) (ha : RA X [e, e2] ta) (hs : starEach [e, e2] X.env = (false, eval e X.env) :: starEach [e2] X.env := by rfl) (hpl : (backTo pos (starEach [e2] X.env)).any (·.1) = false := by rfl) :
    RI X (.Tuple elts kk tpos) (.Call (.Name "zip" p) [e, e2] [] pos) (iZip2 ta) :=
  ⟨(RZ.pi_zipA hg hm ha.pa hs hpl).imp fun σ H S ⟨G, B, f, M, Q', rep, hm, k⟩ => ⟨G, B, f, M, _, rep, hm, fun xs M1 vs H1 q hl rep1 r1 c1 => by
    split at q
    · rename_i xs ys
      match vs, r1 with
      | [v, w], ⟨r, r', _⟩ =>
        have ra : R X.K H1 B G.C (.tup xs) v := r
        have rb : R X.K H1 B G.C (.tup ys) w := r'
        have ra2 := ra
        have rb2 := rb
        cases ra with
        | tup hq hr =>
        cases rb with
        | tup hq2 hr2 => exact ⟨_, _, _, _, rfl, .inr ⟨hq, hq2, k _ M1 _ _ H1 q rep1 c1 (pin2 ra2 rb2) it_zipT⟩⟩
    · rename_i xs ys
      match vs, r1 with
      | [v, w], ⟨r, r', _⟩ =>
        have ra : R X.K H1 B G.C (.lst xs) v := r
        have rb : R X.K H1 B G.C (.lst ys) w := r'
        have ra2 := ra
        have rb2 := rb
        cases ra with
        | lst hq hr =>
        cases rb with
        | lst hq2 hr2 => exact ⟨_, _, _, _, rfl, .inl ⟨hq.sq, hq2.sq, k _ M1 _ _ H1 q rep1 c1 (pin2 ra2 rb2) it_zipL⟩⟩
    · exact q.elim⟩⟩
theorem it_zipR {K : PySem.W.Frag} {C : Addr → Prop} {a b : Addr} {xs ys : List PV} : ItP K C (ItzR K a b xs.length ys.length) [(.tup xs, .ref a), (.tup ys, .ref b)] (zipV xs.reverse ys.reverse) := fun i B' H' hp mu => by
  have h1 := hp (.tup xs, .ref a) (by simp)
  have h2 := hp (.tup ys, .ref b) (by simp)
  rw [zipV_length, List.length_reverse, List.length_reverse]
  cases h1 with
  | @tup _ vs _ hq hr =>
  cases h2 with
  | @tup _ ws _ hq2 hr2 =>
  have l1 := hr.length
  have l2 := hr2.length
  refine ⟨fun hi => ⟨by omega, by omega, vs, ws, _, _, l1.symm, l2.symm, hq, hq2, List.getElem?_eq_getElem (by omega), List.getElem?_eq_getElem (by omega)⟩, ⟨by omega, vs, ws, l1.symm, l2.symm, hq, hq2⟩, fun w H2 hi y => ?_⟩
  obtain ⟨T, x, z, e, hT, eH, g1, g2⟩ := y
  subst e eH
  obtain ⟨px, q1, r1⟩ := hr.get' (g1 _ hq)
  obtain ⟨py, q2, r2⟩ := hr2.get' (g2 _ hq2)
  exact ⟨_, zipV_get (by rw [rev_get (by omega)]; exact q1) (by rw [rev_get (by omega)]; exact q2), yld_pair mu hT (nb_mu mu hT) r1 r2⟩
def iZipRR (m m2 : FE) : FI := fun f M Q => m f M fun x M1 => match x with
  | .v (.tup xs) => m2 f M1 fun y M2 => match y with
    | .v (.tup ys) => Q (zipV xs.reverse ys.reverse) M2
    | _ => False
  | _ => False
theorem ri_zipRR {p1 p2 pos1 pos2 : Pos} (hc : X.calm = true) (hg : Gl X "zip") (hm : X.mg "zip" = none) (hg2 : Gl X "reversed") (hm2 : X.mg "reversed" = none) (he : RE X e m) (he2 : RE X e2 m2)
    (hs : starEach [.Call (.Name "reversed" p1) [e] [] pos1, .Call (.Name "reversed" p2) [e2] [] pos2] X.env = (false, eval (.Call (.Name "reversed" p1) [e] [] pos1) X.env) :: starEach [.Call (.Name "reversed" p2) [e2] [] pos2] X.env := by rfl)
    (hs2 : starEach [.Call (.Name "reversed" p2) [e2] [] pos2] X.env = (false, eval (.Call (.Name "reversed" p2) [e2] [] pos2) X.env) :: starEach [] X.env := by rfl)
    (hs3 : starEach [e] X.env = (false, eval e X.env) :: starEach [] X.env := by rfl)
    (hs4 : starEach [e2] X.env = (false, eval e2 X.env) :: starEach [] X.env := by rfl)
    (hpl : (backTo pos (starEach [.Call (.Name "reversed" p2) [e2] [] pos2] X.env)).any (·.1) = false := by rfl) :
    RI X (.Tuple elts kk tpos) (.Call (.Name "zip" p) [.Call (.Name "reversed" p1) [e] [] pos1, .Call (.Name "reversed" p2) [e2] [] pos2] [] pos) (iZipRR m m2) :=
  ⟨(pi_zipR hg hm hg2 hm2 he.pe he2.pe hs hs2 hs3 hs4 hpl).imp fun σ H S ⟨G, B, f, M, Q', rep, hm, k⟩ => ⟨G, B, f, M, _, rep, hm, fun x M1 v H1 q rep1 r1 c1 => by
    split at q
    · rename_i xs
      have ra : R X.K H1 B G.C (.tup xs) v := r1
      have ra1 := ra
      cases ra1 with
      | @tup a vs _ hq hr =>
      refine ⟨a, vs, rfl, hq, G, B, f, M1, _, rep1, q, fun y M2 w H2 q2 rep2 r2 c2 => ?_⟩
      split at q2
      · rename_i ys
        have rb : R X.K H2 B G.C (.tup ys) w := r2
        have rb1 := rb
        have ra2 : R X.K H2 B G.C (.tup xs) (.ref a) := R.evc ra rep1 c2
        have ra3 := ra2
        cases rb1 with
        | @tup b ws _ hq2 hr2 =>
        cases ra3 with
        | @tup _ vs' _ hq3 hr3 =>
        have e1 : vs.length = xs.length := hr.length.symm
        have e2 : ws.length = ys.length := hr2.length.symm
        have e3 : vs'.length = xs.length := hr3.length.symm
        refine ⟨b, ws, rfl, ?_, hq2, ?_⟩
        · exact sqT_evo rep1.mu (c2.evo rep1) hq
        · rw [e1, e2]
          exact k _ M2 _ _ H2 q2 rep2 (c1.trans c2) (pin2 ra2 rb) it_zipR
      · exact q2.elim
    · exact q.elim⟩⟩
end
end Fl

namespace FlR
open PySem PySem.Spec PyProof.Rows
open PySem.AutoSeq1 (wpAny_loadPart')
section
variable {prog : Program} {w : World} {A : Around} {E : Value → Shared → Prop} {s : Shared}
theorem count_loop (x : Value) : ∀ (ys : List Value) (bs : List Bool) (n : Nat) {Q : Nat → Shared → Prop}, PySem.Paired (fun y b => SeqAt.EqAt A s y x b) ys bs → Q (n + bs.countP id) s →
    wpAny (model prog w) A (forIn ys n fun y r => do
      let b ← eqBool y x
      if b = true then pure (ForInStep.yield (r + 1)) else pure (ForInStep.yield r)) Q E s
  | _, _, n, Q, .nil, hQ => by
    rw [List.forIn_nil]
    exact wpAny_pure (by simpa using hQ)
  | y :: ys, b :: bs, n, Q, .cons he ht, hQ => by
    rw [List.forIn_cons]
    refine wpAny_bind (wpAny_bind (he prog w _ _ ?_))
    rw [List.countP_cons] at hQ
    cases b with
    | true =>
      rw [if_pos rfl]
      refine wpAny_pure ?_
      exact count_loop x ys bs (n + 1) ht (by rw [show n + 1 + bs.countP id = n + (bs.countP id + if id true = true then 1 else 0) by simp; omega]; exact hQ)
    | false =>
      rw [if_neg Bool.false_ne_true]
      refine wpAny_pure ?_
      exact count_loop x ys bs n ht (by simpa using hQ)
theorem call_tuple_count {t : Addr} {items : List Value} {x : Value} {bs : List Bool} {Q : Value → Shared → Prop} (ht : IsTup s.heap t items.toArray) (he : PySem.Paired (fun y b => SeqAt.EqAt A.in1 s y x b) items bs)
    (hQ : ∀ u tk, Q (.int (bs.countP id : Nat) u) { s with toks := tk }) : wpAny (model prog w) A (call (.builtin "tuple.count") [.ref t, x]) Q E s := by
  refine wpAny_call_entry F.slot_tuple_count ht.typeIs F.entry_tuple_count ?_ (F.args_tuple_count_2 _ _)
  unfold Builtin.«tuple.count»
  refine wpAny_bind (wpAny_of_eq (a := (Value.ref t, x)) rfl ?_)
  try dsimp only
  refine wpAny_bind (tupleItemsOf_ ht ?_)
  simp only [← Array.forIn_toList]
  refine wpAny_bind ?_
  refine count_loop x items bs 0 he ?_
  rw [Nat.zero_add]
  exact wpAny_bind (wpAny_mkInt (wpAny_pure ⟨_, rfl, hQ _ _⟩))
end
end FlR
namespace Fl
open PySem PySem.Spec PyProof.Rows L2
section
variable {X : Cx}
/-! ### a tuple laid here: what it is, its .count -/
theorem call_tupleX : CallR X (.type "tuple") (fun xs H Q => ∃ p ys, xs = [.ref p] ∧ SqL X.K H p ys ∧ ∀ l o, H l = none → o.dict = none → Q (.ref l) (upd H l (.frz o (.tup ys)))) := by
  intro pins s σ H xs us Q I r h
  obtain ⟨p, ys, rfl, hq, q⟩ := h
  obtain ⟨u, rfl, rx⟩ := vals1 r
  cases rx
  obtain ⟨its, r', pl, hz⟩ := I.list hq
  have hlen := r'.length
  refine call_tuple_list pl.isList (fun h' kp => ?_) (by simp only [List.size_toArray] <;> omega)
  have I1 : Inv X pins σ H { s with heap := h' } := I.kept (t' := s.toks) kp
  have I2 : Inv X pins σ (upd H h'.objs.size (.frz { cls := .type "tuple", data := .seq its.toArray } (.tup ys))) { s with heap := h'.push { cls := .type "tuple", data := .seq its.toArray } } :=
    I1.laid (t' := s.toks) (fun b o e => Heap.get?_push_of_some _ e) (Nat.le_refl _) (show ObjOk X.prog X.w _ _ _ (.frz _ (.tup ys)) from ⟨Heap.get?_push_size _ rfl, hz, its, r', IsTup.new _ _⟩)
  exact ⟨.ref h'.objs.size, _, I2, rfl, q _ _ (I1.hok.fresh (Nat.le_refl _)) rfl⟩
/-- tuple(a list), as a thing whose .count may be asked -/
def tupX : ON := fun _ xs k => match xs with
  | [x] => match lstP x with
    | some ys => k (.xtp ys)
    | none => False
  | _ => False
theorem tupX_ok : OpN X.K (fun xs H Q => ∃ p ys, xs = [.ref p] ∧ SqL X.K H p ys ∧ ∀ l o, H l = none → o.dict = none → Q (.ref l) (upd H l (.frz o (.tup ys)))) tupX := fun G B f M σ H xs vs k Q rep r h fin => by
  unfold tupX at h
  split at h
  · split at h
    · rename_i ys hy
      match vs, r with
      | [v], ⟨r, _⟩ =>
        obtain ⟨a, ws, e, hs, hr⟩ := rv_lstP r hy
        subst e
        refine ⟨a, ws, rfl, .of hs, fun p o hp hd => fin _ _ _ h (rep.new hp) ?_ (.new hp)⟩
        exact .xtp ⟨o, upd_same, hd⟩ (hr.evc rep (.new hp))
    · exact h.elim
  · exact h.elim
theorem re_tupX {e : Expr} {t : FA} {p pos : Pos} (hg : Gl X "tuple") (hm : X.mg "tuple" = none) (ha : RA X [e] t) (he : starEach [e] X.env = (false, eval e X.env) :: starEach [] X.env := by rfl) : RE X (.Call (.Name "tuple" p) [e] [] pos) (eN tupX t) :=
  re_type call_tupleX tupX_ok hg hm boot_tuple ha (by decide) (by decide) he rfl
/-- such a thing read as a tuple -/
def eVr (m : FE) : FE := fun f M Q => m f M fun x M1 => match x with
  | .v (.xtp xs) => Q (.v (.tup xs)) M1
  | _ => False
theorem re_vr {e : Expr} {m : FE} (h : RE X e m) : RE X e (eVr m) := ⟨h.pe.imp fun σ H Q ⟨G, B, f, M, Q', rep, hm, k⟩ => ⟨G, B, f, M, _, rep, hm, fun x M1 v H1 q rep1 r1 c1 => by
  split at q
  · rename_i xs
    have r2 : R X.K H1 B G.C (.xtp xs) v := r1
    cases r2 with
    | xtp h1 h2 => exact k _ _ _ _ q rep1 (R.tup h1.sq h2) c1
  · exact q.elim⟩⟩
/-- x.count(y) -/
def rCntT (K : PySem.W.Frag) : V → List V → Hp → VK → Prop := fun x ys H Q => ∃ (B C : Addr → Prop) (a : Addr) (vs : List V) (xs : List PV) (q : PV) (w : V), x = .ref a ∧ SqX H a vs ∧ RL K H B C xs vs ∧ ys = [w] ∧ R K H B C q w ∧ okD (.tup xs) ∧ okD q ∧ Q (.int (xs.countP fun y => eqv y q : Nat)) H
theorem count_vals {A : Around} {pins : List (Addr × Obj)} {σ : L2.St} {H : Hp} {s : Shared} {B C : Addr → Prop} (I : Inv X pins σ H s) {q : PV} {w : V} {u : Value} (hq : R X.K H B C q w) (ru : RelV w u) (lq : (toD q).canLay0 = true) : ∀ {xs : List PV} {vs : List V} {us : List Value}, RL X.K H B C xs vs → Vals vs us → PyData.canLayAll0 (toDs xs) = true → A.units + PyData.depthAll (toDs xs) < cLine →
    Paired (fun y b => SeqAt.EqAt A s y u b) us (xs.map fun y => eqv y q)
  | _, _, _, .nil, .nil, _, _ => .nil
  | _, _, _, .cons r rr, .cons t tt, l, d => by
    rw [toDs, PyData.canLayAll0, Bool.and_eq_true] at l
    rw [toDs, PyData.depthAll] at d
    exact .cons (eqAt_pv I r hq t ru l.1 lq (by omega)) (count_vals I hq ru lq rr tt l.2 (by omega))
theorem mt_count (hu : X.A.units + 128 < cLine) {pins : List (Addr × Obj)} {s : Shared} {σ : L2.St} {H : Hp} {x : V} {xs : List V} {v : Value} {us : List Value} {Q : VK} (I : Inv X pins σ H s) (rx : RelV x v) (rs : Vals xs us) (h : rCntT X.K x xs H Q) :
    wpAny (model X.prog X.w) X.A (call (.builtin "tuple.count") (v :: us)) (EP X pins σ Q) X.xe s := by
  obtain ⟨B, C, a, vs, ps, q, w, rfl, hx, hr, rfl, hq, ok1, ok2, k⟩ := h
  cases rx
  obtain ⟨u, rfl, ru⟩ := rs.one
  obtain ⟨its, r1, p1, _⟩ := I.tuple (hx.sq (K := X.K))
  have l1 := SeqAt.canLay_of_shaped ok1
  have d1 := SeqAt.depth_of_shaped ok1
  rw [toD, PyData.canLay0] at l1
  rw [toD, PyData.depth] at d1
  refine FlR.call_tuple_count (A := X.A) p1 (count_vals (A := X.A.in1) I hq ru (SeqAt.canLay_of_shaped ok2) hr r1 l1 (by rw [Around.in1_units]; omega)) fun t tk => ?_
  refine ⟨.int _, H, I.tok tk, ⟨t, rfl⟩, ?_⟩
  rw [List.countP_map]
  exact k
def tCnt (K : PySem.W.Frag) (r : V → List V → Hp → VK → Prop) (to : TE) (t : TA) : TE := fun σ H Q => to σ H fun x H1 => (∃ a vs, x = .ref a ∧ SqX H1 a vs) ∧ t σ H1 fun xs H2 => r x xs H2 Q
theorem pe_cnt (hu : X.A.units + 128 < cLine) {o e : Expr} {to : TE} {t : TA} {apos cpos : Pos} (ho : PE X o to) (ha : PA X [e] t)
    (hbase : attributeBase o "count" X.env (eval o X.env) = eval o X.env := by rfl)
    (hfew : ((backTo cpos (starEach [e] X.env)).all (fun x => !x.1) && (backToKw cpos (keywordEach [] X.env)).all (fun x => x.1.isSome)
      && decide (([e] : List Expr).length + ([] : List Keyword).length + (if ([] : List Keyword).isEmpty then 0 else 1) < 30)) = true := by rfl)
    (hline : (apos.endLine == cpos.line) = true := by rfl) (hs : starEach [e] X.env = (false, eval e X.env) :: starEach [] X.env := by rfl) (hplain : (backTo cpos (starEach [] X.env)).any (·.1) = false := by rfl) :
    PE X (.Call (.Attribute o "count" apos) [e] [] cpos) (tCnt X.K (rCntT X.K) to t) := by
  refine ⟨fun pins s σ H Q I h => ?_⟩
  refine wpAny_Call_method_late hbase hfew hline rfl (thn (ho.run pins s σ H _ I h) fun v s1 ⟨x, H1, I1, r1, ⟨a, vs, ex, oo, hx, hd⟩, q1⟩ => ?_)
  subst ex
  cases r1
  have hh := I1.hok a _ hx
  have hT : s1.TypeIs (.ref a) "tuple" := by
    obtain ⟨its, _, p, _⟩ := I1.tuple (a := a) (xs := vs) (.inl (.inr ⟨oo, hx⟩))
    exact p.typeIs
  refine ⟨"tuple", "tuple.count", PySem.F.plainAttrs_tuple, PySem.F.slot_tuple_count, PySem.F.type_tuple_count, hT, fun b e => ?_, ?_⟩
  · cases e
    exact ⟨oo, hh.1, hd⟩
  have hA := ha.run cpos pins s1 σ H1 _ I1 q1
  rw [hs] at hA ⊢
  refine Calls.callWith_builtin (by show (false || (backTo cpos (starEach [] X.env)).any (·.1)) = false; rw [hplain] <;> rfl) (Calls.evalArgs_plain ?_)
  exact thn hA fun us s2 ⟨vs', H2, I2, r2, q2⟩ => mt_count hu I2 (show RelV (.ref a) (.ref a) from rfl) r2 q2
def cntP : O2 := fun _ x y k => match x with
  | .v (.xtp xs) => match y with
    | .v q => (okD (.tup xs) ∧ okD q) ∧ k (.int (xs.countP fun y => eqv y q : Nat))
    | _ => False
  | _ => False
def e2c (ma mb : FE) : FE := fun f M Q => ma f M fun x M1 => match x with
  | .v (.xtp xs) => mb f M1 fun y M2 => match y with
    | .v q => (okD (.tup xs) ∧ okD q) ∧ Q (.v (.int (xs.countP fun y => eqv y q : Nat))) M2
    | _ => False
  | _ => False
theorem re_cnt (hu : X.A.units + 128 < cLine) {o e : Expr} {m m2 : FE} {apos cpos : Pos} (ho : RE X o m) (he : RE X e m2)
    (hbase : attributeBase o "count" X.env (eval o X.env) = eval o X.env := by rfl)
    (hfew : ((backTo cpos (starEach [e] X.env)).all (fun x => !x.1) && (backToKw cpos (keywordEach [] X.env)).all (fun x => x.1.isSome)
      && decide (([e] : List Expr).length + ([] : List Keyword).length + (if ([] : List Keyword).isEmpty then 0 else 1) < 30)) = true := by rfl)
    (hline : (apos.endLine == cpos.line) = true := by rfl) (hs : starEach [e] X.env = (false, eval e X.env) :: starEach [] X.env := by rfl) (hplain : (backTo cpos (starEach [] X.env)).any (·.1) = false := by rfl) :
    RE X (.Call (.Attribute o "count" apos) [e] [] cpos) (e2c m m2) :=
  ⟨(pe_cnt hu ho.pe (pa_cons he.pe pa_nil hs) hbase hfew hline hs hplain).imp fun σ H Q ⟨G, B, f, M, Q', rep, hm, k⟩ => ⟨G, B, f, M, _, rep, hm, fun x M1 v H1 q rep1 r1 c1 => by
    split at q
    · rename_i xs
      have r2 : R X.K H1 B G.C (.xtp xs) v := r1
      have r3 := r2
      cases r2 with
      | @xtp a vs _ hx hr =>
      refine ⟨⟨a, vs, rfl, hx⟩, G, B, f, M1, _, rep1, q, fun y M2 w H2 q2 rep2 r2 c2 => ?_⟩
      split at q2
      · rename_i qq
        have r4 := R.evc r3 rep1 c2
        cases r4 with
        | @xtp _ vs2 _ hx2 hr2 =>
        exact ⟨B, G.C, a, vs2, xs, qq, w, rfl, hx2, hr2, rfl, r2, q2.1.1, q2.1.2, k _ _ _ _ q2.2 rep2 (R.int _) (c1.trans c2)⟩
      · exact q2.elim
    · exact q.elim⟩⟩
end
end Fl

namespace FlR
open PySem PySem.Spec PyProof.Rows
open PySem.AutoSeq1 (wpAny_loadPart')
open PySem.MeetsSeq PySem.MeetsSeq2 PySem.MeetsSeq3
set_option maxRecDepth 8000 in
theorem list_extend_tup (l : Addr) (items : Array Value) (n : Nat) (b : Addr) (items2 : Array Value) (n2 : Nat) (dd : Option Addr) (sl : Array (Option Value)) (hs0 : ¬(!items.isEmpty && Builtin.List.listTooLong (items.size + items2.size)) = true) (hs1 : items.size ≤ sizeLine) (hs2 : items.size + items2.size ≤ sizeLine + 1) :
    Meets (Builtin.«list.extend» ⟨[.ref l, .ref b], []⟩) (fun _ R s => s.heap.get? l = some { cls := .type "list", dict := none, data := .seq items n, slots := #[] } ∧ s.heap.get? b = some { cls := .type "tuple", dict := dd, data := .seq items2 n2, slots := sl } ∧ R (.ok (.ret Value.none)) { s with heap := s.heap.update l (Obj.mapSeq fun x => x ++ items2), toks := s.toks }) :=
  .of_wp fun prog w A R s h => by
    obtain ⟨hp, g, d, tk, os⟩ := s; obtain ⟨hl, hb, h⟩ := h; have f1 := PySem.AutoSeq1.idx_int; have f2 := PySem.AutoSeq1.sub_tuple_tuple; have f3 := PySem.AutoSeq1.sub_list_list; have f4 := PySem.AutoSeq1.sub_tuple_list; have f5 := PySem.AutoSeq1.sub_list_tuple
    have hz' : (items ++ items2).size ≤ sizeLine + 1 := by rw [Array.size_append]; exact hs2
    wp_walk using (wpAny_updateSeq hl rfl (hz := hs1) (_hz' := hz')), wpAny_loadPart' hl, wpAny_loadPart' hb; exact ⟨_, rfl, h⟩
end FlR
namespace Fl
open PySem PySem.Spec PyProof.Rows L2
section
variable {X : Cx}
/-! ### isinstance -/
inductive Ty5 where
  | tuple | list | bool | int | str
abbrev Ty5.nm : Ty5 → Str
  | .tuple => "tuple" | .list => "list" | .bool => "bool" | .int => "int" | .str => "str"
abbrev Ty5.tn : Ty5 → String
  | .tuple => "tuple" | .list => "list" | .bool => "bool" | .int => "int" | .str => "str"
def tyP : PV → String
  | .non => "NoneType"
  | .bl _ => "bool"
  | .int _ => "int"
  | .str _ => "str"
  | .tup _ => "tuple"
  | .lst _ => "list"
  | .fro _ => "list"
  | .cell _ => ""
  | .xtp _ => "tuple"
def isTy : Ty5 → PV → Bool
  | .tuple, .tup _ => true
  | .tuple, .xtp _ => true
  | .list, .lst _ => true
  | .list, .fro _ => true
  | .bool, .bl _ => true
  | .int, .int _ => true
  | .int, .bl _ => true
  | .str, .str _ => true
  | _, _ => false
def okI : EV → Prop
  | .v (.cell _) => False
  | _ => True
theorem isTy_kit : ∀ (T : Ty5) (p : PV), okI (.v p) → kitB (tyP p) T.tn = some (isTy T p) := by
  intro T p h
  cases T <;> cases p <;> first | exact h.elim | (simp only [tyP, isTy]; decide +kernel)
theorem tyX_tup {K : PySem.W.Frag} {H : Hp} {a : Addr} {vs : List V} (h : SqT K H a vs) : TyX K H (.ref a) (.type "tuple") := by
  rcases h with (h | ⟨o, h⟩) | ⟨o, its, n, h, hc, _⟩
  · exact .base (.tup h)
  · exact .fTuple h
  · exact .kTuple h hc
theorem tyX_of {K : PySem.W.Frag} {H : Hp} {B C : Addr → Prop} {p : PV} {v : V} (h : R K H B C p v) (ok : okI (.v p)) : TyX K H v (.type (tyP p)) := by
  cases h with
  | non => exact .base .non
  | bl b => exact .base (.bl b)
  | int i => exact .base (.int i)
  | str s => exact .base (.str s)
  | tup h _ => exact tyX_tup h
  | lst h _ => exact .base (.lst h.1)
  | fro h _ =>
    rcases h with ⟨o, h⟩ | ⟨o, its, n, h, hc, _⟩
    · exact .base (.frz h)
    · exact .kList h hc
  | cell _ => exact ok.elim
  | xtp h _ => exact tyX_tup h.sq
def eIsi (T : Ty5) (m : FE) : FE := fun f M Q => m f M fun x M1 => okI x ∧ Q (.v (.bl (isTy T (outP x)))) M1
theorem re_isi {e : Expr} {m : FE} {T : Ty5} {p p2 pos : Pos} (hg : Gl X "isinstance") (hm : X.mg "isinstance" = none) (hg2 : Gl X T.nm) (hm2 : X.mg T.nm = none) (hv : bootBuiltins T.nm = some (.type T.tn)) (he : RE X e m) (hn : T.nm ≠ "__name__" := by decide) (hd : (T.nm == ("__debug__" : Str)) = false := by decide)
    (hs : starEach [e, .Name T.nm p2] X.env = (false, eval e X.env) :: starEach [.Name T.nm p2] X.env := by rfl) (hs2 : starEach [.Name T.nm p2] X.env = (false, eval (.Name T.nm p2) X.env) :: starEach [] X.env := by rfl) (hpl : (backTo pos (starEach [.Name T.nm p2] X.env)).any (·.1) = false := by rfl) :
    RE X (.Call (.Name "isinstance" p) [e, .Name T.nm p2] [] pos) (eIsi T m) :=
  ⟨(pe_callB call_isi hg hm (by decide +kernel) (pa_cons he.pe (pa_cons (pe_bltn (v := .ty T.tn) hg2 hm2 hv rfl hn hd) pa_nil hs2) hs) (by decide) (by decide) hs hpl).imp fun σ H Q ⟨G, B, f, M, Q', rep, hm, k⟩ => ⟨G, B, f, M, _, rep, hm, fun x M1 v H1 q rep1 r1 c1 => by
    have ty : TyX X.K H1 v (.type (tyP (outP x))) ∧ okI (.v (outP x)) := by
      cases x with
      | v p => exact ⟨tyX_of (show R X.K H1 B G.C p v from r1) q.1, q.1⟩
      | b xs =>
        obtain ⟨a, vs, e, hb, hc, h0, ha, hr⟩ := r1
        subst e
        exact ⟨.base (.lst ha), trivial⟩
    exact ⟨v, .ty T.tn, _, _, _, rfl, .ty _, ty.1, kit_ty (isTy_kit T _ ty.2), k _ _ _ _ q.2 rep1 (R.bl _) c1⟩⟩⟩
/-! ### - of ints or of bools -/
def b2I (b : Bool) : Int := if b then 1 else 0
def subA : O2 := fun _ x y k => match x, y with
  | .v (.int i), .v (.int j) => k (.int (i - j))
  | .v (.bl a), .v (.bl b) => k (.int (b2I a - b2I b))
  | _, _ => False
theorem op_subB : OpR X (binaryOp .Sub) (fun x y H Q => ∃ a b, x = .bl a ∧ y = .bl b ∧ Q (.int (b2I a - b2I b)) H) := by
  intro pins s σ H x y v u Q I rx ry h
  obtain ⟨a, b, rfl, rfl, q⟩ := h
  cases rx
  cases ry
  refine PyProof.Rows.sub_bool ⟨.int _, H, I.tok _, ⟨_, rfl⟩, ?_⟩
  exact q
theorem subA_ok : ∃ r, OpR X (binaryOp .Sub) r ∧ Op2 X.K r subA := by
  refine ⟨_, op_sub.or op_subB, fun G B f M σ H x y v w k Q rep rx ry h fin => ?_⟩
  unfold subA at h
  split at h
  · cases rx
    cases ry
    exact .inl ⟨_, _, rfl, rfl, fin _ _ _ h rep (.int _) .refl⟩
  · cases rx
    cases ry
    exact .inr ⟨_, _, rfl, rfl, fin _ _ _ h rep (.int _) .refl⟩
  · exact h.elim
theorem re_subA {a b : Expr} {ma mb : FE} {pos : Pos} (ha : RE X a ma) (hb : RE X b mb) : RE X (.BinOp a .Sub b pos) (e2 subA ma mb) := let ⟨_, h, o⟩ := subA_ok (X := X); re_op h o ha hb
/-! ### in, not in -/
def flatP : PV → Bool
  | .non => true
  | .bl _ => true
  | .int _ => true
  | .str _ => true
  | _ => false
theorem flat_eq {K : PySem.W.Frag} {H H' : Hp} {B B' C C' : Addr → Prop} {p q : PV} {v w : V} (h : R K H B C p v) (h' : R K H' B' C' q w) (f : flatP p = true) (f' : flatP q = true) : eqV v w = eqv p q := by
  cases h <;> cases h' <;> first | (cases f; done) | (cases f'; done) | (simp only [eqV, eqv])
theorem flat_v {K : PySem.W.Frag} {H : Hp} {B C : Addr → Prop} {p : PV} {v : V} (h : R K H B C p v) (f : flatP p = true) : flatV v = true := by
  cases h <;> first | rfl | (cases f; done)
theorem flat_all {K : PySem.W.Frag} {H : Hp} {B C : Addr → Prop} : ∀ {xs : List PV} {vs : List V}, RL K H B C xs vs → xs.all flatP = true → vs.all flatV = true
  | _, _, .nil, _ => rfl
  | _, _, .cons h t, f => by
    rw [List.all_cons, Bool.and_eq_true] at f ⊢
    exact ⟨flat_v h f.1, flat_all t f.2⟩
theorem flat_any {K : PySem.W.Frag} {H H' : Hp} {B B' C C' : Addr → Prop} {q : PV} {w : V} (hq : R K H' B' C' q w) (fq : flatP q = true) : ∀ {xs : List PV} {vs : List V}, RL K H B C xs vs → xs.all flatP = true → (vs.any fun y => eqV y w) = xs.any fun y => eqv y q
  | _, _, .nil, _ => rfl
  | _, _, .cons h t, f => by
    rw [List.all_cons, Bool.and_eq_true] at f
    rw [List.any_cons, List.any_cons, flat_eq h hq f.1 fq, flat_any hq fq t f.2]
def inA (neg : Bool) : O2 := fun _ x y k => match x with
  | .v q => match seqP y with
    | some ys => (flatP q = true ∧ ys.all flatP = true) ∧ k (.bl (if neg then !(ys.any fun y => eqv y q) else ys.any fun y => eqv y q))
    | none => False
  | _ => False
theorem inA_ok {neg : Bool} : Op2 X.K (rIn X.K neg) (inA neg) := fun G B f M σ H x y v w k Q rep rx ry h fin => by
  unfold inA at h
  split at h
  · rename_i q
    split at h
    · rename_i ys hy
      obtain ⟨a, ws, e, hs, hr⟩ := rv_seq ry hy
      subst e
      have rx' : R X.K H B G.C q v := rx
      refine ⟨a, ws, rfl, hs, flat_v rx' h.1.1, flat_all hr h.1.2, ?_⟩
      unfold inV
      rw [flat_any rx' h.1.1 hr h.1.2]
      exact fin _ _ _ h.2 rep (R.bl _) .refl
    · exact h.elim
  · exact h.elim
theorem c_in (hu : X.A.units + 128 < cLine) : CmpR X .In (inA false) := ⟨_, op_in_seq, inA_ok⟩
theorem c_notin (hu : X.A.units + 128 < cLine) : CmpR X .NotIn (inA true) := ⟨_, op_notIn_seq, inA_ok⟩
/-! ### extend -/
def rExtA (K : PySem.W.Frag) : V → List V → Hp → VK → Prop := fun x vs H Q => ∃ l b xs zs, x = .ref l ∧ vs = [.ref b] ∧ H l = some (.lst xs) ∧ (H b = some (.lst zs) ∨ SqT K H b zs) ∧ xs.length + zs.length ≤ sizeLine ∧ Q .non (upd H l (.lst (xs ++ zs)))
theorem mt_extA : MtM X "list.extend" (rExtA X.K) := by
  intro pins s σ H x vs v us Q I rx rv h
  obtain ⟨l, b, xs, zs, rfl, rfl, hH, hB, hz, q⟩ := h
  rcases hB with hB | hB
  · exact mt_extend pins s σ H _ _ _ _ Q I rx rv ⟨l, b, xs, zs, rfl, rfl, hH, hB, hz, q⟩
  cases rx
  obtain ⟨u, rfl, ru⟩ := rv.one
  cases ru
  obtain ⟨z, its, n, r, hl, e⟩ := I.lstM hH
  obtain ⟨its2, r2, p2, z2⟩ := I.tuple hB
  obtain ⟨⟨cls, dd, data, sl⟩, ho, hc, n2, hd⟩ := id p2
  simp only at hc hd
  subst hc hd
  have hl2 := r2.length
  have hsz : its.toArray.size + its2.toArray.size ≤ sizeLine := by rw [List.size_toArray, List.size_toArray]; omega
  have hlong : ¬ (!its.toArray.isEmpty && Builtin.List.listTooLong (its.toArray.size + its2.toArray.size)) = true := by
    rw [notLongL hsz, Bool.and_false]
    exact Bool.false_ne_true
  refine call_meets F.slot_list_extend ⟨_, e, rfl⟩ F.entry_list_extend (F.args_list_extend_2 _ _)
    (FlR.list_extend_tup l its.toArray n b its2.toArray n2 dd sl hlong (by rw [List.size_toArray]; omega) (by omega)) ⟨e, ho, ?_⟩
  refine ⟨.non, _, I.lset (its' := its ++ its2) hH e (by simp) (r.append r2) ?_, rfl, q⟩
  rw [List.length_append]
  omega
def sExt (j : Nat) (m : FE) : FS := fun D f M => match gt f j with
  | some (.b xs) => m f M fun y M1 => match y with
    | .v (.tup ys) => xs.length + ys.length ≤ sizeLine ∧ D.nx (st f j (some (.b (xs ++ ys)))) M1
    | .v (.lst ys) => xs.length + ys.length ≤ sizeLine ∧ D.nx (st f j (some (.b (xs ++ ys)))) M1
    | _ => False
  | _ => False
theorem rs_ext {e : Expr} {m : FE} {pos : Pos} (j : Nat) {x : Str} {np apos cpos : Pos} (ho : PE X (.Name x np) (tVar j)) (he : RE X e m)
    (hbase : attributeBase (.Name x np) "extend" X.env (eval (.Name x np) X.env) = eval (.Name x np) X.env := by rfl)
    (hfew : ((backTo cpos (starEach (e :: []) X.env)).all (fun x => !x.1) && (backToKw cpos (keywordEach [] X.env)).all (fun x => x.1.isSome)
      && decide ((e :: []).length + ([] : List Keyword).length + (if ([] : List Keyword).isEmpty then 0 else 1) < 30)) = true := by rfl)
    (hline : (apos.endLine == cpos.line) = true := by rfl) (hst : starEach (e :: []) X.env = (false, eval e X.env) :: starEach [] X.env := by rfl) (hplain : (backTo cpos (starEach [] X.env)).any (·.1) = false := by rfl)
    (hs : swapsWith (.Call (.Attribute (.Name x np) "extend" apos) [e] [] cpos) none pos.line X.env = pure false := by rfl) : RS X (.Expr (.Call (.Attribute (.Name x np) "extend" apos) [e] [] cpos) pos) (sExt j m) := by
  refine ⟨(ps_expr (pe_bm PySem.F.plainAttrs_list PySem.F.slot_list_extend PySem.F.type_list_extend mt_extA ho (pa_cons he.pe pa_nil hst) hbase hfew hline hst hplain) hs).imp fun D σ H ⟨G, B, f, M, D', rep, hm, k⟩ => ?_⟩
  unfold sExt at hm
  split at hm
  · rename_i xs hj
    obtain ⟨a, vs, e1, ha, hr, hc⟩ := rep.lst hj
    refine ⟨_, e1, tyV_lst ha, G, B, f, M, _, rep, hm, fun y M1 w H1 q rep1 r1 c1 => ?_⟩
    obtain ⟨a', vs', e1', ha', hr', _⟩ := rep1.lst hj
    rw [e1] at e1'
    cases e1'
    split at q
    · rename_i ys
      have r2 : R X.K H1 B G.C (.tup ys) w := r1
      cases r2 with
      | @tup b ws _ hq hr2 =>
      refine ⟨a, b, vs', ws, rfl, rfl, ha', .inr hq, by rw [← hr'.length, ← hr2.length]; exact q.1, ?_⟩
      exact k.nx _ _ _ _ _ q.2 (rep1.wrB e1 hj (hr'.append hr2))
    · rename_i ys
      have r2 : R X.K H1 B G.C (.lst ys) w := r1
      cases r2 with
      | @lst b ws _ hq hr2 =>
      refine ⟨a, b, vs', ws, rfl, rfl, ha', .inl hq.1, by rw [← hr'.length, ← hr2.length]; exact q.1, ?_⟩
      exact k.nx _ _ _ _ _ q.2 (rep1.wrB e1 hj (hr'.append hr2))
    · exact q.elim
  · exact hm.elim
theorem c_eqX (hu : X.A.units + 128 < cLine) : CmpR X .Eq eqA := c_eqA (by omega)
theorem c_neX (hu : X.A.units + 128 < cLine) : CmpR X .NotEq neA := c_neA (by omega)
end
theorem _root_.L2.Room.u128 {k : Nat} {A : Around} (r : Room k A) : A.units + 128 < cLine := by have := r.un; omega
end Fl

/-! Fl: f(g(..)): g makes a new list, f changes it, and nobody else sees it -/
namespace Fl
open PySem PySem.Spec PyProof.Rows L2
mutual
theorem R.noLC {K : PySem.W.Frag} {H : Hp} {B B' C C' : Addr → Prop} (w : ∀ a, C a → C' a) : ∀ {x : PV} {v : V}, R K H B C x v → Fl.noL x = true → R K H B' C' x v
  | _, _, .non, _ => .non
  | _, _, .bl b, _ => .bl b
  | _, _, .int i, _ => .int i
  | _, _, .str s, _ => .str s
  | _, _, .tup h t, q => .tup h (RL.noLC w t ((noL_tup _).symm.trans q))
  | _, _, .lst h t, q => by rw [Fl.noL] at q; cases q
  | _, _, .fro h t, q => .fro h (RL.noLC w t ((noL_fro _).symm.trans q))
  | _, _, .cell h, _ => .cell (w _ h)
  | _, _, .xtp h t, q => by rw [Fl.noL] at q; cases q
theorem RL.noLC {K : PySem.W.Frag} {H : Hp} {B B' C C' : Addr → Prop} (w : ∀ a, C a → C' a) : ∀ {xs : List PV} {vs : List V}, RL K H B C xs vs → noLs xs = true → RL K H B' C' xs vs
  | _, _, .nil, _ => .nil
  | _, _, .cons h t, q => .cons (R.noLC w h ((Bool.and_eq_true_iff.mp ((noLs_cons _ _).symm.trans q)).1)) (RL.noLC w t ((Bool.and_eq_true_iff.mp ((noLs_cons _ _).symm.trans q)).2))
end
def oneM (a : Addr) (zs : List PV) : Sto := fun b => if b = a then some zs else none
def newL (psr : PSp) (k : Bool → Prop) (p : PV) : Prop := match p with
  | .lst zs => noLs zs = true ∧ ∀ a, psr [.cell a] (oneM a zs) fun r _ => ∃ b, r = .bl b ∧ k b
  | _ => False
def eCallN (psr pss : PSp) (ta : FA) : FE := fun f M Q => ta f M fun xs M1 => (∀ a, M1 a = none) ∧ match pvs xs with
  | some ys => noLs ys = true ∧ pss ys M1 fun p _ => newL psr (fun b => Q (.v (.bl b)) M1) p
  | none => False
section
variable {X : Cx} {CX CX2 : CXT} {k k2 : Nat} {fa fa2 : Addr} {fd fd2 : FuncData} {ps ps2 : List Str} {psp psp2 : PSp} {E E2 : XK} {x x2 : Str} {p p2 pos pos2 : Pos} {e : Expr} {es : List Expr} {t : FA}
theorem re_callN (F : FnOk X.prog X.w X.K X.mg X.base CX k fa fd ps (spOf X.K psp)) (hr : Room k X.A) (hg : Gl X x) (hm : X.mg x = some (.ref fa)) (hk : PySem.W.keepIn X.K (.ref fa) = true) (hb : Binds X.K fd ps []) (hx : Passes CX X E)
    (F2 : FnOk X.prog X.w X.K X.mg X.base CX2 k2 fa2 fd2 ps2 (spOf X.K psp2)) (hr2 : Room k2 X.A) (hg2 : Gl X x2) (hm2 : X.mg x2 = some (.ref fa2)) (hk2 : PySem.W.keepIn X.K (.ref fa2) = true) (hb2 : Binds X.K fd2 ps2 []) (hx2 : Passes CX2 X E2)
    (ha : RA X (e :: es) t) (hdb : (x == ("__debug__" : Str)) = false := by decide) (hdb2 : (x2 == ("__debug__" : Str)) = false := by decide)
    (he : starEach (e :: es) X.env = (false, eval e X.env) :: starEach es X.env := by rfl) (hpl : (backTo pos2 (starEach es X.env)).any (·.1) = false := by rfl)
    (he1 : starEach [.Call (.Name x2 p2) (e :: es) [] pos2] X.env = (false, eval (.Call (.Name x2 p2) (e :: es) [] pos2) X.env) :: starEach [] X.env := by rfl) (hpl1 : (backTo pos (starEach [] X.env)).any (·.1) = false := by rfl) :
    RE X (.Call (.Name x p) [.Call (.Name x2 p2) (e :: es) [] pos2] [] pos) (eCallN psp psp2 t) := by
  refine ⟨(pe_call F hr hg hm hk hb .nil hx (pa_cons (pe_call F2 hr2 hg2 hm2 hk2 hb2 .nil hx2 ha.pa hdb2 he hpl) pa_nil he1) hdb he1 hpl1).imp fun σ H Q ⟨G, B, f, M, Q', rep, hm, k⟩ => ?_⟩
  refine ⟨G, B, f, M, _, rep, hm, fun xs M1 vs H1 ⟨hM, q⟩ hl rep1 r1 c1 => ?_⟩
  show spOf X.K psp2 (vs ++ []) H1 (fun v H2 => spOf X.K psp ([v] ++ []) H2 Q E) E2
  rw [List.append_nil]
  split at q
  · rename_i ys hys
    have hC : ∀ a, G.C a → False := fun a h => by
      obtain ⟨us, ws, h1, _⟩ := (rep1.cells a).1 h
      rw [hM a] at h1
      cases h1
    refine ⟨fun a => Mut (H1 a), fun _ => False, M1, ys, _, fun a h => h.elim, fun a h => h, fun a => ⟨fun h => h.elim, fun _ => hM a⟩, (pvs_rl r1 hys).noLC hC q.1, q.2, fun p' M2 v H2 h2 cs r2 c2 => ?_⟩
    have keep1 : ∀ a o, H1 a = some o → H2 a = some o := fun a o h => c2 a o h fun z => z
    match p', h2, r2 with
    | .lst zs, h2, r2 => ?_
    cases r2 with
    | @lst a us zs' sq rl =>
    have fresh : H1 a = none := by
      cases z : H1 a with
      | none => rfl
      | some o =>
        refine (sq.2 ?_).elim
        show Mut (H1 a)
        have := keep1 a o z
        rw [sq.1] at this
        cases this
        rw [z]
        trivial
    refine ⟨fun b => b = a, fun b => b = a, oneM a zs, [.cell a], _, fun b h => h, fun b h => ?_, fun b => ⟨fun h => ⟨zs, us, ?_, ?_, rl.noLC (fun _ z => z.elim) h2.1⟩, fun h => if_neg h⟩, .cons (.cell rfl) .nil, h2.2 a, fun r M3 w H3 h3 cs3 r3 c3 => ?_⟩
    · subst h
      show Mut (H2 b)
      rw [sq.1]
      trivial
    · exact if_pos h
    · rw [h]; exact sq.1
    · obtain ⟨b, e1, hq⟩ := h3
      subst e1
      have gr : ∀ c o, H1 c = some o → H3 c = some o := fun c o h => c3 c o (keep1 c o h) fun z => by
        subst z
        rw [fresh] at h
        cases h
      cases r3
      exact k _ _ _ _ hq (rep1.grow gr) (R.bl b) (c1.trans fun c o h _ => gr c o h)
  · exact q.elim
end
section
variable {X : Cx} {k k2 j : Nat} {x x2 : Str} {ps ps2 : List Str} {psp psp2 : PSp} {p p2 pos pos2 : Pos} {e : Expr} {es : List Expr} {t : FA}
theorem rclN (c : Cal X.prog X.w X.K X.mg X.base k x ps psp) (c2 : Cal X.prog X.w X.K X.mg X.base k2 x2 ps2 psp2) (hr : Room j X.A) (ha : RA X (e :: es) t) (hkj : k ≤ j := by decide) (hkj2 : k2 ≤ j := by decide) (hg : Gl X x := by rfl) (hg2 : Gl X x2 := by rfl)
    (hdb : (x == ("__debug__" : Str)) = false := by decide) (hdb2 : (x2 == ("__debug__" : Str)) = false := by decide)
    (he : starEach (e :: es) X.env = (false, eval e X.env) :: starEach es X.env := by rfl) (hpl : (backTo pos2 (starEach es X.env)).any (·.1) = false := by rfl)
    (he1 : starEach [.Call (.Name x2 p2) (e :: es) [] pos2] X.env = (false, eval (.Call (.Name x2 p2) (e :: es) [] pos2) X.env) :: starEach [] X.env := by rfl) (hpl1 : (backTo pos (starEach [] X.env)).any (·.1) = false := by rfl) :
    RE X (.Call (.Name x p) [.Call (.Name x2 p2) (e :: es) [] pos2] [] pos) (eCallN psp psp2 t) := let ⟨_, _, F, m, kp, b⟩ := c.ex; let ⟨_, _, F2, m2, kp2, b2⟩ := c2.ex
  re_callN F (hr.mono hkj) hg m kp b pass0 F2 (hr.mono hkj2) hg2 m2 kp2 b2 pass0 ha hdb hdb2 he hpl he1 hpl1
end
end Fl

/-! floor division by a number above 0 or by a small one below 0 -/
namespace Fl
open PySem PySem.Spec PyProof.Rows L2
def divX : O2 := i2 fun i j k => ((0 < j ∧ j.natAbs.log2 < 9000) ∧ k (.int (i / j))) ∨ ((j ≠ 0 ∧ j.natAbs < 1073741824) ∧ k (.int (i.fdiv j)))
section
variable {X : Cx} {a b : Expr} {ma mb : FE} {pos : Pos}
theorem re_divX (ha : RE X a ma) (hb : RE X b mb) : RE X (.BinOp a .FloorDiv b pos) (e2 divX ma mb) :=
  re_op (op_fdivW.or op_fdivN) (i2_ok fun i j H Q k h q _ => h.elim (fun h => .inl ⟨_, _, rfl, rfl, h.1, q _ h.2⟩) fun h => .inr ⟨_, _, rfl, rfl, h.1, q _ h.2⟩) ha hb
end
end Fl

/-! names = fresh lists and values, side by side -/
namespace Fl
open PySem PySem.Spec PyProof.Rows L2
/-- xs, evaluated one behind the other: values, and new lists that are nobody else's (apart from B0 and from each other) -/
def MV (K : PySem.W.Frag) (G : Gh) (B : Addr → Prop) (H : Hp) : (Addr → Prop) → List EV → List V → Prop
  | _, [], [] => True
  | B0, .v p :: xs, v :: vs => R K H B G.C p v ∧ MV K G B H B0 xs vs
  | B0, .b ys :: xs, v :: vs => (∃ a us, v = .ref a ∧ B a ∧ ¬ B0 a ∧ ¬ G.C a ∧ G.H0 a = none ∧ H a = some (.lst us) ∧ RL K H B G.C ys us ∧ MV K G B H (orp B0 a) xs vs)
  | _, _, _ => False
def tM (K : PySem.W.Frag) (n : Nat) (m : FA) : TA := fun σ H Q => ∃ G B f M Q', Rep K G B f M σ H ∧ m f M Q' ∧ ∀ xs M' B' vs H', Q' xs M' → xs.length = n → Rep K G B' f M' σ H' → MV K G B' H' B xs vs → (∀ a, B a → B' a) → EvC G.C H H' → Q vs H'
structure RM (X : Cx) (es : List Expr) (m : FA) : Prop where
  pa : PA X es (tM X.K es.length m)
def mV (me : FE) (mr : FA) : FA := fun f M Q => me f M fun x M1 => match x with
  | .v p => noL p = true ∧ mr f M1 fun xs M2 => Q (.v p :: xs) M2
  | .b _ => False
def mF (mf : FF) (mr : FA) : FA := fun f M Q => mf f M fun ys M1 => noLs ys = true ∧ mr f M1 fun xs M2 => Q (.b ys :: xs) M2
section
variable {X : Cx} {e : Expr} {es : List Expr} {m : FE} {mf : FF} {mr : FA}
theorem rm_nil : RM X [] aNil := ⟨pa_nil.imp fun σ H Q ⟨G, B, f, M, Q', rep, hm, k⟩ => k _ _ _ _ _ hm rfl rep trivial (fun _ h => h) .refl⟩
theorem rm_v (he : RE X e m) (hr : RM X es mr) (hs : starEach (e :: es) X.env = (false, eval e X.env) :: starEach es X.env := by rfl) : RM X (e :: es) (mV m mr) :=
  ⟨(pa_cons he.pe hr.pa hs).imp fun σ H Q ⟨G, B, f, M, Q', rep, hm, k⟩ => ⟨G, B, f, M, _, rep, hm, fun x M1 v H1 h1 rep1 r1 c1 => by
    cases x with
    | b _ => exact h1.elim
    | v p =>
      refine ⟨G, B, f, M1, _, rep1, h1.2, fun xs M2 B' vs H2 h2 hl rep2 r2 w c2 => ?_⟩
      have q : R X.K H2 B G.C p v := R.evc (f := f) (M := M1) (σ := σ) r1 rep1 c2
      exact k _ _ _ _ _ h2 (congrArg (· + 1) hl) rep2 ⟨R.noL q h1.1, r2⟩ w (c1.trans c2)⟩⟩
theorem rm_f (he : RF X e mf) (hr : RM X es mr) (hs : starEach (e :: es) X.env = (false, eval e X.env) :: starEach es X.env := by rfl) : RM X (e :: es) (mF mf mr) :=
  ⟨(pa_cons he.pe hr.pa hs).imp fun σ H Q ⟨G, B, f, M, Q', rep, hm, k⟩ => ⟨G, B, f, M, _, rep, hm, fun ys M1 D us H1 h1 rep1 hD hr nb h0 c1 => by
    refine ⟨G, orp B D, f, M1, _, rep1, h1.2, fun xs M2 B' vs H2 h2 hl rep2 r2 w c2 => ?_⟩
    have nc : ¬ G.C D := fun z => nb (rep.sb D z)
    have q : RL X.K H2 (orp B D) G.C ys us := hr.evc rep1 c2
    exact k _ _ _ _ _ h2 (congrArg (· + 1) hl) rep2 ⟨D, us, rfl, w D (.inr rfl), nb, nc, h0, c2 _ _ hD nc, q.noL h1.1, r2⟩ (fun a h => w a (.inl h)) (c1.trans c2)⟩⟩
end
def stL : List Nat → List EV → Fm → Fm
  | i :: is, x :: xs, f => stL is xs (st f i (some x))
  | _, _, f => f
def setL : List Nat → List V → L2.St → L2.St
  | i :: is, v :: vs, σ => setL is vs (σ.set i (some v))
  | _, _, σ => σ
/-- the lists of the frame's own are among B0 -/
def InB (B0 : Addr → Prop) (f : Fm) (σ : L2.St) : Prop := ∀ j ys a, gt f j = some (.b ys) → σ[j]? = some (some (.ref a)) → B0 a
theorem Rep.inB {K : PySem.W.Frag} {G : Gh} {B : Addr → Prop} {f : Fm} {M : Sto} {σ : L2.St} {H : Hp} (r : Rep K G B f M σ H) : InB B f σ := fun j ys a h e => by
  obtain ⟨v, e1, a', us, e2, hb, _⟩ := r.slot j _ h
  rw [e] at e1
  cases e1
  cases e2
  exact hb
theorem InB.st {B0 B1 : Addr → Prop} {f : Fm} {σ : L2.St} {i : Nat} {x : EV} {v : V} (h : InB B0 f σ) (w : ∀ a, B0 a → B1 a) (hx : ∀ ys a, x = .b ys → v = .ref a → B1 a) (hl : f.length = σ.length) : InB B1 (Fl.st f i (some x)) (σ.set i (some v)) := fun j ys a hj e => by
  have hlt := gt_lt hj
  rw [st_length, hl] at hlt
  rcases gt_st hj with ⟨e1, q⟩ | ⟨e1, q⟩
  · subst e1
    rw [List.getElem?_set_self hlt] at e
    cases q
    cases e
    exact hx _ _ rfl rfl
  · rw [List.getElem?_set_ne (Ne.symm e1)] at e
    exact w _ (h j ys a q e)
theorem Rep.setM {K : PySem.W.Frag} {G : Gh} {B : Addr → Prop} {M : Sto} {H : Hp} : ∀ {is : List Nat} {xs : List EV} {vs : List V} {B0 : Addr → Prop} {f : Fm} {σ : L2.St}, Rep K G B f M σ H → InB B0 f σ → MV K G B H B0 xs vs → Rep K G B (stL is xs f) M (setL is vs σ) H
  | [], [], [], _, _, _, r, _, _ => r
  | [], .v _ :: _, _ :: _, _, _, _, r, _, _ => r
  | [], .b _ :: _, _ :: _, _, _, _, r, _, _ => r
  | [], .v _ :: _, [], _, _, _, _, _, h => nomatch h
  | [], .b _ :: _, [], _, _, _, _, _, h => nomatch h
  | [], [], _ :: _, _, _, _, _, _, h => nomatch h
  | _ :: _, [], [], _, _, _, r, _, _ => r
  | _ :: _, [], _ :: _, _, _, _, _, _, h => nomatch h
  | _ :: _, .v _ :: _, [], _, _, _, _, _, h => nomatch h
  | _ :: _, .b _ :: _, [], _, _, _, _, _, h => nomatch h
  | i :: is, .v p :: xs, v :: vs, B0, f, σ, r, hi, h => Rep.setM (is := is) (r.set h.1) (hi.st (fun _ h => h) (fun _ _ e => nomatch e) r.len) h.2
  | i :: is, .b ys :: xs, v :: vs, B0, f, σ, r, hi, ⟨a, us, e, hb, nb, nc, h0, ha, hr, h⟩ => by
    subst e
    exact Rep.setM (is := is) (r.setB hb nc h0 ha hr fun j ys hj z => nb (hi j ys a hj z)) (hi.st (B1 := orp B0 a) (fun _ h => .inl h) (fun _ _ _ e => by cases e; exact .inr rfl) r.len) h
theorem MV.length {K : PySem.W.Frag} {G : Gh} {B : Addr → Prop} {H : Hp} : ∀ {xs : List EV} {vs : List V} {B0 : Addr → Prop}, MV K G B H B0 xs vs → xs.length = vs.length
  | [], [], _, _ => rfl
  | .v _ :: _, _ :: _, _, h => congrArg (· + 1) (MV.length h.2)
  | .b _ :: _, _ :: _, _, ⟨_, _, _, _, _, _, _, _, _, h⟩ => congrArg (· + 1) (MV.length h)
  | [], _ :: _, _, h => nomatch h
  | .v _ :: _, [], _, h => nomatch h
  | .b _ :: _, [], _, h => nomatch h
/-- names = values and fresh lists -/
def sMx (is : List Nat) (m : FA) : FS := fun D f M => m f M fun xs M1 => xs.length = is.length ∧ D.nx (stL is xs f) M1
section
variable {X : Cx} {i j l k4 : Nat} {x y z u : Str} {px py pz pu pt : Pos} {pos : Pos} {e a b c d : Expr} {ta : FA}
theorem st2M (i j : Nat) {kt k2 pt2} (hc : X.calm = true) (hN : X.N.Nodup) (ha : RM X [a, b] ta) (hi : X.N[i]? = some x := by rfl) (hj : X.N[j]? = some y := by rfl) (hij : i ≠ j := by decide)
    (hx : X.env.scope.names.lookup x = some .local := by rfl) (hy : X.env.scope.names.lookup y = some .local := by rfl)
    (hw : swappedStores [.Tuple [.Name x px, .Name y py] kt pt] (.Tuple [a, b] k2 pt2) X.env = pure (some [x, y]) := by rfl)
    (hs : swapsWithSole [.Tuple [.Name x px, .Name y py] kt pt] (.Tuple [a, b] k2 pt2) pos.line X.env = pure false := by rfl) : RS X (.Assign [.Tuple [.Name x px, .Name y py] kt pt] (.Tuple [a, b] k2 pt2) pos) (sMx [i, j] ta) :=
  ⟨(ps_par hc hN hi hj hij hx hy ha.pa hw hs).imp fun D σ H ⟨G, B, f, M, D', rep, hm, k⟩ => ⟨G, B, f, M, _, rep, hm, fun xs M1 B' vs H1 q hl rep1 r1 w c1 => by
    have hv := r1.length
    match vs, hv, r1 with
    | [v, w], _, r1 => exact ⟨v, w, rfl, k.nx _ _ _ _ _ q.2 (rep1.setM rep.inB r1)⟩
    | [], h, _ => exact absurd (hl.symm.trans h) (by simp)
    | [_], h, _ => exact absurd (hl.symm.trans h) (by simp)
    | _ :: _ :: _ :: _, h, _ => exact absurd (hl.symm.trans h) (by simp)⟩⟩
theorem st3M (i j l : Nat) {kt k2 pt2} (hc : X.calm = true) (hN : X.N.Nodup) (ha : RM X [a, b, c] ta) (hi : X.N[i]? = some x := by rfl) (hj : X.N[j]? = some y := by rfl) (hl : X.N[l]? = some z := by rfl) (hij : i ≠ j := by decide) (hil : i ≠ l := by decide) (hjl : j ≠ l := by decide)
    (hx : X.env.scope.names.lookup x = some .local := by rfl) (hy : X.env.scope.names.lookup y = some .local := by rfl) (hz : X.env.scope.names.lookup z = some .local := by rfl)
    (hw : swappedStores [.Tuple [.Name x px, .Name y py, .Name z pz] kt pt] (.Tuple [a, b, c] k2 pt2) X.env = pure (some [x, y, z]) := by rfl)
    (hs : swapsWithSole [.Tuple [.Name x px, .Name y py, .Name z pz] kt pt] (.Tuple [a, b, c] k2 pt2) pos.line X.env = pure false := by rfl) : RS X (.Assign [.Tuple [.Name x px, .Name y py, .Name z pz] kt pt] (.Tuple [a, b, c] k2 pt2) pos) (sMx [i, j, l] ta) :=
  ⟨(ps_par3 hc hN hi hj hl hij hil hjl hx hy hz ha.pa hw hs).imp fun D σ H ⟨G, B, f, M, D', rep, hm, k⟩ => ⟨G, B, f, M, _, rep, hm, fun xs M1 B' vs H1 q hl' rep1 r1 w c1 => by
    have hv := r1.length
    match vs, hv, r1 with
    | [v, w, u], _, r1 => exact ⟨v, w, u, rfl, k.nx _ _ _ _ _ q.2 (rep1.setM rep.inB r1)⟩
    | [], h, _ => exact absurd (hl'.symm.trans h) (by simp)
    | [_], h, _ => exact absurd (hl'.symm.trans h) (by simp)
    | [_, _], h, _ => exact absurd (hl'.symm.trans h) (by simp)
    | _ :: _ :: _ :: _ :: _, h, _ => exact absurd (hl'.symm.trans h) (by simp)⟩⟩
theorem MV.grow {K : PySem.W.Frag} {G : Gh} {B : Addr → Prop} {f : Fm} {M : Sto} {σ : L2.St} {H H' : Hp} (r : Rep K G B f M σ H) (e : ∀ a o, H a = some o → H' a = some o) : ∀ {xs : List EV} {vs : List V} {B0 : Addr → Prop}, MV K G B H B0 xs vs → MV K G B H' B0 xs vs
  | [], [], _, _ => trivial
  | .v _ :: _, _ :: _, _, h => ⟨h.1.evo r.mu ⟨fun a o q _ => e a o q, fun _ _ _ n => n⟩, MV.grow r e h.2⟩
  | .b _ :: _, _ :: _, _, ⟨a, us, e1, h1, h2, h3, h4, h5, h6, h⟩ => ⟨a, us, e1, h1, h2, h3, h4, e _ _ h5, h6.evo r.mu ⟨fun a o q _ => e a o q, fun _ _ _ n => n⟩, MV.grow r e h⟩
  | [], _ :: _, _, h => nomatch h
  | .v _ :: _, [], _, h => nomatch h
  | .b _ :: _, [], _, h => nomatch h
theorem st4M (i j l k4 : Nat) {kt k2 pt2} (hc : X.calm = true) (hN : X.N.Nodup) (ha : RM X [a, b, c, d] ta) (hi : X.N[i]? = some x := by rfl) (hj : X.N[j]? = some y := by rfl) (hl : X.N[l]? = some z := by rfl) (h4 : X.N[k4]? = some u := by rfl)
    (hx : Loc X.env.scope x := by first | exact Or.inl rfl | exact Or.inr rfl) (hy : Loc X.env.scope y := by first | exact Or.inl rfl | exact Or.inr rfl) (hz : Loc X.env.scope z := by first | exact Or.inl rfl | exact Or.inr rfl) (hu : Loc X.env.scope u := by first | exact Or.inl rfl | exact Or.inr rfl)
    (fx : X.fn x = true ∨ X.env.scope.names.lookup x = some .local := by first | exact .inl rfl | exact .inr rfl) (fy : X.fn y = true ∨ X.env.scope.names.lookup y = some .local := by first | exact .inl rfl | exact .inr rfl) (fz : X.fn z = true ∨ X.env.scope.names.lookup z = some .local := by first | exact .inl rfl | exact .inr rfl) (fu : X.fn u = true ∨ X.env.scope.names.lookup u = some .local := by first | exact .inl rfl | exact .inr rfl)
    (q1 : (assignEach [.Name x px, .Name y py, .Name z pz, .Name u pu] X.env).map (·.2) = assign (.Name x px) X.env :: (assignEach [.Name y py, .Name z pz, .Name u pu] X.env).map (·.2) := by rfl)
    (q2 : (assignEach [.Name y py, .Name z pz, .Name u pu] X.env).map (·.2) = assign (.Name y py) X.env :: (assignEach [.Name z pz, .Name u pu] X.env).map (·.2) := by rfl)
    (q3 : (assignEach [.Name z pz, .Name u pu] X.env).map (·.2) = assign (.Name z pz) X.env :: (assignEach [.Name u pu] X.env).map (·.2) := by rfl)
    (q4 : (assignEach [.Name u pu] X.env).map (·.2) = assign (.Name u pu) X.env :: (assignEach [] X.env).map (·.2) := by rfl)
    (hn : (assignEach [.Name x px, .Name y py, .Name z pz, .Name u pu] X.env).length = 4 := by rfl) (hst : (assignEach [.Name x px, .Name y py, .Name z pz, .Name u pu] X.env).findIdx? (·.1) = none := by rfl)
    (hs : swapsWithSole [.Tuple [.Name x px, .Name y py, .Name z pz, .Name u pu] kt pt] (.Tuple [a, b, c, d] k2 pt2) pos.line X.env = pure false := by rfl) (hw : swappedStores [.Tuple [.Name x px, .Name y py, .Name z pz, .Name u pu] kt pt] (.Tuple [a, b, c, d] k2 pt2) X.env = pure none := by rfl)
    (h1 : (assignEach [.Tuple [.Name x px, .Name y py, .Name z pz, .Name u pu] kt pt] X.env).map (·.2) = [assign (.Tuple [.Name x px, .Name y py, .Name z pz, .Name u pu] kt pt) X.env] := by rfl) :
    RS X (.Assign [.Tuple [.Name x px, .Name y py, .Name z pz, .Name u pu] kt pt] (.Tuple [a, b, c, d] k2 pt2) pos) (sMx [i, j, l, k4] ta) :=
  ⟨(ps_asg (pe_tup ha.pa) (pg_tup hc (pgs_cons (pg_name hN hi hx fx) (pgs_cons (pg_name hN hj hy fy) (pgs_cons (pg_name hN hl hz fz) (pgs_cons (pg_name hN h4 hu fu) pgs_nil q4) q3) q2) q1) hn hst) hs hw h1).imp fun D σ H ⟨G, B, f, M, D', rep, hm, k⟩ => ⟨G, B, f, M, _, rep, hm, fun xs M1 B' vs H1 q hl' rep1 r1 w c1 => by
    have hv := r1.length
    refine ⟨by rw [← hv, hl']; show 4 ≤ sizeLine; rw [sizeLine_eq]; decide, fun p hp => ?_⟩
    match vs, hv, r1 with
    | [v, w, u, t], _, r1 => exact ⟨p, [v, w, u, t], rfl, .inl (.inl upd_same), rfl, v, _, rfl, w, _, rfl, u, _, rfl, t, _, rfl, rfl, k.nx _ _ _ _ _ q.2 ((rep1.new hp).setM rep.inB (r1.grow rep1 (grow_new hp)))⟩
    | [], h, _ => exact absurd (hl'.symm.trans h) (by simp)
    | [_], h, _ => exact absurd (hl'.symm.trans h) (by simp)
    | [_, _], h, _ => exact absurd (hl'.symm.trans h) (by simp)
    | [_, _, _], h, _ => exact absurd (hl'.symm.trans h) (by simp)
    | _ :: _ :: _ :: _ :: _ :: _, h, _ => exact absurd (hl'.symm.trans h) (by simp)⟩⟩
end
end Fl

section
set_option exponentiation.threshold 2000
namespace Fl
open PySem PySem.Spec PyProof.Rows L2
/-! what all laws share: small lemmas, promises of the law's first defs -/
theorem line1 : 16777216 ≤ sizeLine := by rw [sizeLine_eq]; omega
def pInts (l : List Int) : PV := .tup (l.map .int)
def lInts (l : List Int) : PV := .lst (l.map .int)
def okS (M : Sto) (a : Addr) : Prop := ∃ s0 s1 : Int, M a = some [.int s0, .int s1] ∧ 0 ≤ s1 ∧ s1 < 2 ^ 60 ∧ flatM M
theorem okS.flat {M : Sto} {a : Addr} (h : okS M a) : flatM M := by
  obtain ⟨_, _, _, _, _, h⟩ := h
  exact h
theorem flat_up {M : Sto} {a : Addr} {s t : Int} (h : flatM M) : flatM (upM M a [.int s, .int t]) := fun b xs e => by
  unfold upM at e
  split at e
  · cases e; rfl
  · exact h b xs e
theorem flat_one (a : Addr) (s t : Int) : flatM (oneM a [.int s, .int t]) := fun b xs e => by
  unfold oneM at e
  split at e
  · cases e; rfl
  · cases e
theorem nT {b : Bool} (h : (!b) = true) : b = false := by simpa using h
theorem nF {b : Bool} (h : (!b) = false) : b = true := by simpa using h
theorem lcP_run {α : Type} {g : FG} {mt : FT} {me : FE} {fw : Fm} {ι : α → PV} (F : α → Option PV) {M : Sto} {Q : List PV → Sto → Prop} : ∀ (l : List α) (acc : List PV),
    (∀ d ∈ l, ∀ (K1 : PV → Sto → Prop) (K0 : Sto → Prop), (∀ p, F d = some p → K1 p M) → (F d = none → K0 M) → g (ι d) fw fun f2 => mt f2 M fun b M2 => (b = true → me f2 M2 fun y M3 => match y with
      | .v p => K1 p M3
      | .b _ => False) ∧ (b = false → K0 M2)) →
    Q (acc ++ l.filterMap F) M → lcP g mt me fw (l.map ι) acc M Q
  | [], acc, h, q => by
    rw [List.filterMap_nil, List.append_nil] at q
    exact q
  | d :: l, acc, h, q => by
    have h1 := h d (by simp) (fun p M3 => lcP g mt me fw (l.map ι) (acc ++ [p]) M3 Q) (fun M2 => lcP g mt me fw (l.map ι) acc M2 Q)
    refine h1 (fun p e => ?_) fun e => ?_
    · refine lcP_run F l (acc ++ [p]) (fun d' hd' => h d' (by simp [hd'])) ?_
      rw [List.filterMap_cons, e] at q
      rw [List.append_assoc]
      exact q
    · refine lcP_run F l acc (fun d' hd' => h d' (by simp [hd'])) ?_
      rw [List.filterMap_cons, e] at q
      exact q
/-- the same, an item for each -/
theorem lcP_all {α : Type} {g : FG} {mt : FT} {me : FE} {fw : Fm} {ι : α → PV} (F : α → PV) {M : Sto} {Q : List PV → Sto → Prop} {l : List α}
    (h : ∀ d ∈ l, ∀ (K1 : PV → Sto → Prop) (K0 : Sto → Prop), K1 (F d) M → g (ι d) fw fun f2 => mt f2 M fun b M2 => (b = true → me f2 M2 fun y M3 => match y with
      | .v p => K1 p M3
      | .b _ => False) ∧ (b = false → K0 M2))
    (q : Q (l.map F) M) : lcP g mt me fw (l.map ι) [] M Q := by
  refine lcP_run (fun d => some (F d)) l [] (fun d hd K1 K0 h1 _ => h d hd K1 K0 (h1 _ rfl)) ?_
  rw [show l.filterMap (fun d => some (F d)) = l.map F by rw [← List.filterMap_eq_map]; rfl]
  exact q
theorem mul_l {a b : Int} (h1 : -(2 ^ 64) < a) (h2 : a < 2 ^ 64) : IntMulOk a b := .of_left (intBits_le_64 h1 h2)
theorem mul_r {a b : Int} (h1 : -(2 ^ 64) < b) (h2 : b < 2 ^ 64) : IntMulOk a b := .of_right (intBits_le_64 h1 h2)
theorem dv {j : Int} (h1 : 0 < j) (h2 : j < 2 ^ 100) : 0 < j ∧ j.natAbs.log2 < 9000 := ⟨h1, by
  have h3 : j.natAbs ≠ 0 := by omega
  have := (Nat.log2_lt (k := 100) h3).mpr (by omega)
  omega⟩
theorem mapI (l : List Int) (d : Int) : (l ++ [d]).map PV.int = l.map PV.int ++ [.int d] := by rw [List.map_append]; rfl
theorem gtD {a b : Int} (h : cGt a b = true) : b < a := of_decide_eq_true h
theorem gtN {a b : Int} (h : cGt a b = false) : a ≤ b := by have := of_decide_eq_false h; omega
theorem foP_eq {g : FG} {mb : FS} {D : FEnds} {xs ys : List PV} {f : Fm} {M : Sto} (e : xs = ys) (h : foP g mb D ys f M) : foP g mb D xs f M := e ▸ h
theorem flatR (k : Nat) (d : Int) : (List.replicate k [PV.int d]).flatten = (List.replicate k d).map PV.int := by
  induction k with
  | zero => rfl
  | succ k ih =>
    rw [List.replicate_succ, List.flatten_cons, ih, List.replicate_succ]
    rfl
theorem iteN (a b : Nat) : (if (b : Int) > (a : Int) then (b : Int) else (a : Int)) = ((max a b : Nat) : Int) := by split <;> omega
theorem iteM (a b : Nat) : (if (b : Int) < (a : Int) then (b : Int) else (a : Int)) = ((min a b : Nat) : Int) := by split <;> omega
theorem atL (l : List Int) (c : Int) : atI ((l ++ [c]).map PV.int) (-1) = some (.int c) := by rw [mapI]; exact atI_last _ _
theorem eqD {a b : Int} (h : decide (a = b) = true) : a = b := of_decide_eq_true h
theorem eqN {a b : Int} (h : decide (a = b) = false) : a ≠ b := of_decide_eq_false h
theorem ipow_right {b : Int} (hb : 1 ≤ b) {i j : Nat} (h : i ≤ j) : b ^ i ≤ b ^ j := by
  obtain ⟨k, rfl⟩ := Nat.exists_eq_add_of_le h
  induction k with
  | zero => exact Int.le_refl _
  | succ k ih =>
    have h1 : 0 ≤ b ^ (i + k) := Int.pow_nonneg (by omega)
    have h2 : b ^ (i + (k + 1)) = b ^ (i + k) * b := by rw [← Int.pow_succ]; rfl
    have h3 : b ^ (i + k) * 1 ≤ b ^ (i + k) * b := Int.mul_le_mul_of_nonneg_left hb h1
    have := ih (by omega)
    omega
theorem ipow_left {a b : Int} (ha : 0 ≤ a) (h : a ≤ b) : ∀ n : Nat, a ^ n ≤ b ^ n
  | 0 => by rw [Int.pow_zero, Int.pow_zero]; omega
  | n + 1 => by
    rw [Int.pow_succ, Int.pow_succ]
    exact Int.mul_le_mul (ipow_left ha h n) h ha (Int.pow_nonneg (by omega))
theorem bits_le {x : Int} {K : Nat} (h : x.natAbs < 2 ^ K) : Builtin.Int.intBits x ≤ K := by
  unfold Builtin.Int.intBits
  split
  · exact Nat.zero_le _
  · rename_i hx
    have hx : x ≠ 0 := fun e => hx (by rw [e]; rfl)
    have := (Nat.log2_lt (k := K) (n := x.natAbs) (by omega)).mpr h
    omega
theorem mul_b {x y : Int} {K : Nat} (hK : K ≤ 1048576) (hx : x.natAbs < 2 ^ K) (hy : y.natAbs < 2 ^ K) : IntMulOk x y :=
  .of_bits (Nat.le_trans (bits_le hx) (by omega)) (Nat.le_trans (bits_le hy) (by omega))
theorem atM {l : List Int} {j : Nat} {d : Int} (h : l[j]? = some d) : atI (l.map PV.int) (j : Int) = some (.int d) := atI_nat (by rw [List.getElem?_map, h]; rfl)
theorem atMid (i t : List Int) (d : Int) : atI ((i ++ d :: t).map PV.int) (i.length : Int) = some (.int d) := atM (by simp)
theorem setMid (i t : List Int) (d v : Int) : ((i ++ d :: t).map PV.int).set i.length (.int v) = (i ++ v :: t).map PV.int := by
  rw [List.map_append, List.map_append, List.map_cons, List.map_cons, show i.length = (i.map PV.int).length + 0 by rw [List.length_map]; rfl, List.set_append_right _ _ (by omega), Nat.add_zero, Nat.sub_self, List.set_cons_zero]
theorem drop_getD (xs : List Int) (k : Nat) (h : k < xs.length) : xs.drop k = xs.getD k 0 :: xs.drop (k + 1) := by
  rw [List.drop_eq_getElem_cons h]
  simp [h]
theorem atEnd (l : List Int) (c : Int) : atI ((l ++ [c]).map PV.int) ((((l ++ [c]).map PV.int).length : Int) - 1) = some (.int c) := by
  rw [show ((((l ++ [c]).map PV.int).length : Int) - 1) = (l.length : Int) by rw [List.length_map, List.length_append, List.length_singleton]; omega]
  exact atMid l [] c
theorem atD {l : List Int} {k : Nat} (h : k < l.length) : atI (l.map PV.int) (k : Int) = some (.int (l.getD k 0)) := atM (by simp [h])
theorem rng_range : ∀ (n : Nat) (lo : Nat), rng (lo : Int) n = (List.range n).map fun i => PV.int (((lo + i : Nat) : Int))
  | 0, _ => rfl
  | n + 1, lo => by
    rw [rng, List.range_succ_eq_map, List.map_cons, List.map_map, show (lo : Int) + 1 = ((lo + 1 : Nat) : Int) by omega, rng_range n (lo + 1)]
    congr 1
    refine List.map_congr_left fun i _ => ?_
    show PV.int (((lo + 1 + i : Nat) : Int)) = PV.int (((lo + (i + 1) : Nat) : Int))
    rw [show lo + 1 + i = lo + (i + 1) by omega]
theorem rng0 (n : Nat) : rng 0 n = (List.range n).map fun (i : Nat) => PV.int (i : Int) := by
  have := rng_range n 0
  simpa using this
theorem eqEmpty (k : PV → Prop) (M : Sto) (h : k (.bl true)) : eqA M (.v (.lst [])) (.v (.lst [])) k := ⟨⟨rfl, rfl⟩, h⟩
/-- none of the numbers below n is kept -/
theorem lcP_none {g : FG} {mt : FT} {me : FE} {fw : Fm} {M : Sto} {Q : List PV → Sto → Prop} {n : Nat}
    (h : ∀ i : Nat, i < n → ∀ (K1 : PV → Sto → Prop) (K0 : Sto → Prop), K0 M → g (.int (i : Int)) fw fun f2 => mt f2 M fun b M2 => (b = true → me f2 M2 fun y M3 => match y with
      | .v p => K1 p M3
      | .b _ => False) ∧ (b = false → K0 M2))
    (q : Q [] M) : lcP g mt me fw (rng 0 n) [] M Q := by
  rw [rng0]
  refine lcP_run (fun _ => none) (List.range n) [] (fun d hd K1 K0 _ h0 => h d (List.mem_range.mp hd) K1 K0 (h0 rfl)) ?_
  rw [show (List.range n).filterMap (fun _ => (none : Option PV)) = [] by induction List.range n with
    | nil => rfl
    | cons a l ih => rw [List.filterMap_cons]; exact ih]
  exact q
theorem atP {xs : List PV} {k : Nat} (h : k < xs.length) : atI xs (k : Int) = some xs[k] := atI_nat (List.getElem?_eq_getElem h)
theorem okD_str (s : Str) (h : PyData.strOk s = true) : okE (.v (.str s)) := by
  show okD (.str s)
  unfold okD SeqAt.shaped
  rw [toD, PyData.canLay0, PyData.depth, h]
  rfl
def sp__law_pick : PSp := fun args M Q => match args with
  | [.cell a, .int m] => okS M a ∧ (0 < m ∧ m < 2 ^ 60) ∧ ∀ (r : Int) (M' : Sto), 0 ≤ r → r < m → okS M' a → Q (.int r) M'
  | _ => False
/-- what _law_same may be asked of: told and due one and the same -/
def sameOk : Nat → PV → Prop
  | 0, _ => False
  | n + 1, x => match x with
    | .non => True
    | .bl _ => True
    | .int _ => True
    | .str s => PyData.strOk s = true
    | .tup xs => xs.length ≤ 100000 ∧ ∀ x ∈ xs, sameOk n x
    | .lst xs => xs.length ≤ 100000 ∧ ∀ x ∈ xs, sameOk n x
    | _ => False
def spr__law_same (n : Nat) : PSp := fun args M Q => match args with
  | [x, y] => x = y ∧ sameOk n x ∧ Q (.bl true) M
  | _ => False
def sp__law_same : PSp := spr__law_same 6
def sp__law_all_same : PSp := fun args M Q => match args with
  | [.lst rows] => ∃ ps : List (PV × PV), rows = ps.map (fun p => .tup [p.1, p.2]) ∧ ps.length ≤ 100000 ∧ (∀ p ∈ ps, p.1 = p.2 ∧ sameOk 6 p.1) ∧ Q (.bl true) M
  | _ => False
def isScript (w : PV) (ns : List Int) : Prop := w = .lst (ns.map .int) ∨ w = .fro (ns.map .int)
def sp__law_cell : PSp := fun args M Q => match args with
  | [w, .int k] => ∃ ns : List Int, isScript w ns ∧ 0 ≤ k ∧ ∀ c : Int, Q (.int c) M
  | _ => False
def sp__law_source : PSp := fun args M Q => match args with
  | [.int c, .int k] => (0 ≤ k ∧ k < 2 ^ 50) ∧ ∀ s0 s1 : Int, 0 ≤ s1 → s1 < 2 ^ 60 → Q (.lst [.int s0, .int s1]) M
  | _ => False
def sp_law : PSp := fun args M Q => match args with
  | [w] => ∃ ns : List Int, isScript w ns ∧ ns.length ≤ 63 ∧ (∀ a, M a = none) ∧ Q (.bl true) M
  | _ => False
theorem same_ints (l : List Int) (h : l.length ≤ 100000) : sameOk 6 (lInts l) ∧ sameOk 6 (pInts l) := by
  have : ∀ x ∈ l.map PV.int, sameOk 5 x := fun x hx => by
    obtain ⟨d, _, e⟩ := List.mem_map.mp hx
    rw [← e]
    exact trivial
  exact ⟨⟨by rw [List.length_map]; exact h, this⟩, ⟨by rw [List.length_map]; exact h, this⟩⟩
/-- rows whose two sides are one and the same -/
def Good (R : List PV) : Prop := ∃ ps : List (PV × PV), R = ps.map (fun p => .tup [p.1, p.2]) ∧ ∀ p ∈ ps, p.1 = p.2 ∧ sameOk 6 p.1
theorem Good.nil : Good [] := ⟨[], rfl, fun p h => (nomatch h)⟩
theorem Good.app {R S : List PV} (h : Good R) (h' : Good S) : Good (R ++ S) := by
  obtain ⟨ps, e, q⟩ := h
  obtain ⟨ps', e', q'⟩ := h'
  refine ⟨ps ++ ps', by rw [e, e', List.map_append], fun p hp => ?_⟩
  rcases List.mem_append.mp hp with z | z
  · exact q p z
  · exact q' p z
theorem Good.row {x y : PV} {S : List PV} (e : x = y) (ok : sameOk 6 x) (h : Good S) : Good (.tup [x, y] :: S) := by
  obtain ⟨ps, e', q⟩ := h
  refine ⟨(x, y) :: ps, by rw [e']; rfl, fun p hp => ?_⟩
  rcases List.mem_cons.mp hp with z | z
  · rw [z]; exact ⟨e, ok⟩
  · exact q p z
theorem Good.call {R : List PV} {Q : PV → Sto → Prop} {M : Sto} (h : Good R) (hl : R.length ≤ 1000) (hq : Q (.bl true) M) : sp__law_all_same [.lst R] M Q := by
  obtain ⟨ps, e, q⟩ := h
  refine ⟨ps, e, ?_, q, hq⟩
  rw [e, List.length_map] at hl
  omega
theorem ok_pInts {l : List Int} (h : l.length ≤ 100000) : sameOk 5 (pInts l) := ⟨by rw [List.length_map]; exact h, fun x hx => by
  obtain ⟨d, _, e⟩ := List.mem_map.mp hx
  rw [← e]
  exact trivial⟩
theorem ok_pInts6 {l : List Int} (h : l.length ≤ 100000) : sameOk 6 (pInts l) := (same_ints l h).2
theorem str_ok : PyData.strOk "sum" = true := by decide +kernel
theorem lcP_eq {g : FG} {mt : FT} {me : FE} {fw : Fm} {xs ys acc : List PV} {M : Sto} {Q : List PV → Sto → Prop} (e : xs = ys) (h : lcP g mt me fw ys acc M Q) : lcP g mt me fw xs acc M Q := e ▸ h
theorem cut_to {α : Type} (l : List α) (k : Nat) : cut l none (some (k : Int)) = l.take k := by
  unfold cut
  rw [HT.sIx_nat, HT.sIx_none, List.drop_zero, Nat.sub_zero, ← List.take_take, List.take_length]
theorem cut_from {α : Type} (l : List α) (k : Nat) : cut l (some (k : Int)) none = l.drop k := by
  unfold cut
  rw [HT.sIx_nat, HT.sIx_none]
  by_cases h : k ≤ l.length
  · rw [Nat.min_eq_left h]
    exact List.take_of_length_le (by rw [List.length_drop]; omega)
  · rw [Nat.min_eq_right (by omega), List.drop_of_length_le (by omega), List.drop_of_length_le (by omega), List.take_nil]
theorem cut_one {α : Type} (l : List α) : cut l (some 1) none = l.tail := by
  have := cut_from l 1
  rw [List.drop_one] at this
  exact this
/-- a turn of the law over one source -/
def spRight : PSp := fun args M Q => match args with
  | [.cell a] => okS M a ∧ ∀ (M' : Sto), okS M' a → Q (.bl true) M'
  | _ => False
end Fl

end

namespace Fl
open PySem PySem.Spec PyProof.Rows L2
/-- _law_cell: slots 0 script, 1 k -/
def t__law_cell_1 : FS := (sRet (eC (.int 0)))
def b__law_cell : FS := (sSeq (sIf (cB ltA (eV 1) (eN lenP (aCons (eV 0) aNil))) (sRet (e2 ixP (eV 0) (eV 1))) sNil) t__law_cell_1)
/-- _law_source: slots 0 cell, 1 k -/
def t__law_source_1 : FS := (sRet (eF (fLst (aCons (eC (.int 0)) (aCons (e2 modP (eN intP (aCons (e2 addP (e2 addP (e2 mulA (eV 0) (eC (.int 7919))) (e2 mulA (eV 1) (eC (.int 104729)))) (eC (.int 1))) aNil)) (eC (.int 2147483647))) aNil)))))
def b__law_source : FS := (sSeq (sIf (cB geA (eV 0) (e2 powP (eC (.int 10)) (eC (.int 18)))) (sRet (eF (fLst (aCons (e2 subA (eV 0) (e2 powP (eC (.int 10)) (eC (.int 18)))) (aCons (e2 addP (eV 1) (eC (.int 1))) aNil))))) sNil) t__law_source_1)
/-- _law_pick: slots 0 source, 1 many, 2 picked, 3 mixed -/
def t__law_pick_3 : FS := (sRet (e2 modP (eN intP (aCons (e2 divP (eV 3) (eC (.int 16))) aNil)) (eV 1)))
def t__law_pick_2 : FS := (sSeq (sSet 3 (e2 modP (eN intP (aCons (e2 addP (e2 addP (e2 mulA (e2 ixP (eV 0) (eC (.int 1))) (eC (.int 69621))) (e2 divP (e2 ixP (eV 0) (eC (.int 1))) (eC (.int 127)))) (eC (.int 7))) aNil)) (eC (.int 2147483629)))) t__law_pick_3)
def t__law_pick_1 : FS := (sSeq (sPut 0 (eC (.int 1)) (e2 modP (eN intP (aCons (e2 addP (e2 mulA (e2 ixP (eV 0) (eC (.int 1))) (eC (.int 48271))) (eC (.int 12345))) aNil)) (eC (.int 2147483647)))) t__law_pick_2)
def b__law_pick : FS := (sSeq (sIf (cB gtA (e2 ixP (eV 0) (eC (.int 0))) (eC (.int 1))) (sSeq (sSet 2 (e2 modP (eN intP (aCons (e2 ixP (eV 0) (eC (.int 0))) aNil)) (eV 1))) (sSeq (sPut 0 (eC (.int 0)) (e2 divP (e2 ixP (eV 0) (eC (.int 0))) (eV 1))) (sRet (eV 2)))) sNil) t__law_pick_1)
/-- _law_same: slots 0 told, 1 due, 2 k -/
def t__law_same_5 : FS := (sRet (eAnd (eIsi .str (eV 0)) (e2 eqA (eV 0) (eV 1))))
def t__law_same_4 : FS := (sSeq (sIf (tTru (eIsi .int (eV 1))) (sRet (eAnd (eIsi .int (eV 0)) (eAnd (eNot (eIsi .bool (eV 0))) (e2 eqA (eV 0) (eV 1))))) sNil) t__law_same_5)
def t__law_same_3 : FS := (sSeq (sIf (tTru (eIsi .bool (eV 1))) (sRet (eAnd (eIsi .bool (eV 0)) (e2 eqA (eV 0) (eV 1)))) sNil) t__law_same_4)
def t__law_same_2 : FS := (sSeq (sIf (cB isN (eV 1) (eC .non)) (sRet (e2 isN (eV 0) (eC .non))) sNil) t__law_same_3)
def t__law_same_1 (rc : PSp) : FS := (sSeq (sIf (tTru (eIsi .list (eV 1))) (sSeq (sIf (tOr2 (tNot1 (tTru (eIsi .list (eV 0)))) (cB neA (eN lenP (aCons (eV 0) aNil)) (eN lenP (aCons (eV 1) aNil)))) (sRet (eC (.bl false))) sNil) (sRet (e2 eqA (eF (fLc (iR1 (aCons (eN lenP (aCons (eV 1) aNil)) aNil)) (gN 2) (tNot1 (tTru (eCall rc (aCons (e2 ixP (eV 0) (eV 2)) (aCons (e2 ixP (eV 1) (eV 2)) aNil))))) (eV 2) [2])) (eF (fLst aNil))))) sNil) t__law_same_2)
def b__law_same (rc : PSp) : FS := (sSeq (sIf (tTru (eIsi .tuple (eV 1))) (sSeq (sIf (tOr2 (tNot1 (tTru (eIsi .tuple (eV 0)))) (cB neA (eN lenP (aCons (eV 0) aNil)) (eN lenP (aCons (eV 1) aNil)))) (sRet (eC (.bl false))) sNil) (sRet (e2 eqA (eF (fLc (iR1 (aCons (eN lenP (aCons (eV 1) aNil)) aNil)) (gN 2) (tNot1 (tTru (eCall rc (aCons (e2 ixP (eV 0) (eV 2)) (aCons (e2 ixP (eV 1) (eV 2)) aNil))))) (eV 2) [2])) (eF (fLst aNil))))) sNil) (t__law_same_1 rc))
/-- _law_all_same: slots 0 rows, 1 k -/
def b__law_all_same : FS := (sRet (e2 eqA (eF (fLc (iR1 (aCons (eN lenP (aCons (eV 0) aNil)) aNil)) (gN 1) (tNot1 (tTru (eCall sp__law_same (aCons (e2 ixP (e2 ixP (eV 0) (eV 1)) (eC (.int 0))) (aCons (e2 ixP (e2 ixP (eV 0) (eV 1)) (eC (.int 1))) aNil))))) (eV 1) [1])) (eF (fLst aNil))))

end Fl

section
set_option exponentiation.threshold 2000
namespace Fl
open PySem PySem.Spec PyProof.Rows L2
theorem l__law_pick : ∀ args M Q, sp__law_pick args M Q → args.length = 2 ∧ b__law_pick (fE Q) (fr0 2 args) M := fun args M Q h => by
  match args, h with
  | [.cell a, .int m], ⟨⟨s0, s1, hM, h0, h1, hf⟩, ⟨m1, m2⟩, hq⟩ =>
    refine ⟨rfl, [.int s0, .int s1], hM, .int s0, rfl, fun h => ?_, fun _ => ?_⟩
    · refine ⟨[.int s0, .int s1], hM, .int s0, rfl, m1, [.int s0, .int s1], hM, .int s0, rfl, dv m1 (by omega), ?_⟩
      have e : (match (M a : Option (List PV)) with
        | some xs => ((0 : Int) ≤ 0 ∧ (0 : Int) < xs.length) ∧ Q (.int (s0 % m)) (upM M a (xs.set (0 : Int).toNat (.int (s0 / m))))
        | none => False) := by
        rw [hM]
        refine ⟨⟨Int.le_refl _, by simp⟩, hq _ _ (Int.emod_nonneg _ (by omega)) (Int.emod_lt_of_pos _ m1) ⟨s0 / m, s1, upM_same, h0, h1, flat_up hf⟩⟩
      exact e
    · have hs1 : (0 : Int) ≤ (s1 * 48271 + 12345) % 2147483647 := Int.emod_nonneg _ (by omega)
      have hs2 : (s1 * 48271 + 12345) % 2147483647 < 2147483647 := Int.emod_lt_of_pos _ (by omega)
      generalize ht : (s1 * 48271 + 12345) % 2147483647 = t at *
      have rest : t__law_pick_2 (fE Q) [some (.v (.cell a)), some (.v (.int m)), none, none] (upM M a [.int s0, .int t]) := by
        refine ⟨_, upM_same, .int t, rfl, mul_r (by omega) (by omega), _, upM_same, .int t, rfl, dv (by omega) (by omega), by omega, dv (by omega) (by omega), m1, ?_⟩
        exact hq _ _ (Int.emod_nonneg _ (by omega)) (Int.emod_lt_of_pos _ m1) ⟨s0, t, upM_same, by omega, by omega, flat_up hf⟩
      refine ⟨[.int s0, .int s1], hM, .int s1, rfl, mul_r (by omega) (by omega), by omega, ?_⟩
      have e : (match (M a : Option (List PV)) with
        | some xs => ((0 : Int) ≤ 1 ∧ (1 : Int) < xs.length) ∧ t__law_pick_2 (fE Q) [some (.v (.cell a)), some (.v (.int m)), none, none] (upM M a (xs.set (1 : Int).toNat (.int ((s1 * 48271 + 12345) % 2147483647))))
        | none => False) := by
        rw [hM, ht]
        exact ⟨⟨by omega, by simp⟩, rest⟩
      exact e
theorem l__law_same (n : Nat) : ∀ args M Q, spr__law_same (n + 1) args M Q → args.length = 2 ∧ b__law_same (spr__law_same n) (fE Q) (fr0 1 args) M := fun args M Q h => by
  match args, h with
  | [x, y], ⟨e, hs, hq⟩ =>
    subst e
    have hz := line1
    refine ⟨rfl, ?_⟩
    cases x with
    | non => 
      refine ⟨trivial, trivial, fun h => ?_, fun _ => ⟨trivial, trivial, fun h => ?_, fun _ => ⟨fun _ => hq, fun h => ?_⟩⟩⟩
      · cases h
      · cases h
      · cases h
    | bl b =>
      refine ⟨trivial, trivial, fun h => ?_, fun _ => ⟨trivial, trivial, fun h => ?_, fun _ => ⟨fun h => ?_, fun _ => ⟨trivial, trivial, fun _ => ⟨trivial, trivial, fun _ => ⟨⟨rfl, rfl⟩, ?_⟩, fun h => ?_⟩, fun h => ?_⟩⟩⟩⟩
      · cases h
      · cases h
      · cases h
      · show Q (.bl (eqv (.bl b) (.bl b))) M
        cases b <;> exact hq
      · cases h
      · cases h
    | int i =>
      refine ⟨trivial, trivial, fun h => ?_, fun _ => ⟨trivial, trivial, fun h => ?_, fun _ => ⟨fun h => ?_, fun _ => ⟨trivial, trivial, fun h => ?_, fun _ => ⟨trivial, trivial, fun _ => ⟨trivial, trivial, fun _ => ⟨trivial, trivial, trivial, fun _ => ?_, fun h => ?_⟩, fun h => ?_⟩, fun h => ?_⟩⟩⟩⟩⟩
      · cases h
      · cases h
      · cases h
      · cases h
      · show Q (.bl (decide (i = i))) M
        rw [decide_eq_true rfl]
        exact hq
      · cases h
      · cases h
      · cases h
    | str s =>
      refine ⟨trivial, trivial, fun h => ?_, fun _ => ⟨trivial, trivial, fun h => ?_, fun _ => ⟨fun h => ?_, fun _ => ⟨trivial, trivial, fun h => ?_, fun _ => ⟨trivial, trivial, fun h => ?_, fun _ => ⟨trivial, trivial, fun _ => ⟨⟨okD_str s hs, okD_str s hs⟩, ?_⟩, fun h => ?_⟩⟩⟩⟩⟩⟩
      · cases h
      · cases h
      · cases h
      · cases h
      · cases h
      · show Q (.bl (eqv (.str s) (.str s))) M
        rw [show eqv (.str s) (.str s) = true by rw [eqv]; exact beq_self_eq_true s]
        exact hq
      · cases h
    | tup xs =>
      obtain ⟨hl, hx⟩ := hs
      have hlen : -(2 ^ 62) ≤ (xs.length : Int) ∧ (xs.length : Int) < 2 ^ 62 := by omega
      refine ⟨trivial, trivial, fun _ => ⟨trivial, trivial, fun h => ?_, fun _ => ⟨fun h => ?_, fun _ => ⟨hlen, by rw [rng_length]; omega, lcP_none (fun i hi K1 K0 k0 => ?_) ⟨⟨rfl, rfl⟩, hq⟩⟩⟩⟩, fun h => ?_⟩
      · cases h
      · have h := eqN (nT h)
        exact absurd rfl h
      · have hi : i < xs.length := by omega
        exact ⟨xs[i], atP hi, xs[i], atP hi, rfl, hx _ (List.getElem_mem hi), trivial, fun h => (nomatch h), fun _ => k0⟩
      · cases h
    | lst xs =>
      obtain ⟨hl, hx⟩ := hs
      have hlen : -(2 ^ 62) ≤ (xs.length : Int) ∧ (xs.length : Int) < 2 ^ 62 := by omega
      refine ⟨trivial, trivial, fun h => ?_, fun _ => ⟨trivial, trivial, fun _ => ⟨trivial, trivial, fun h => ?_, fun _ => ⟨fun h => ?_, fun _ => ⟨hlen, by rw [rng_length]; omega, lcP_none (fun i hi K1 K0 k0 => ?_) ⟨⟨rfl, rfl⟩, hq⟩⟩⟩⟩, fun h => ?_⟩⟩
      · cases h
      · cases h
      · have h := eqN (nT h)
        exact absurd rfl h
      · have hi : i < xs.length := by omega
        exact ⟨xs[i], atP hi, xs[i], atP hi, rfl, hx _ (List.getElem_mem hi), trivial, fun h => (nomatch h), fun _ => k0⟩
      · cases h
    | fro xs => exact hs.elim
    | cell b => exact hs.elim
    | xtp xs => exact hs.elim
theorem l__law_all_same : ∀ args M Q, sp__law_all_same args M Q → args.length = 1 ∧ b__law_all_same (fE Q) (fr0 1 args) M := fun args M Q h => by
  match args, h with
  | [.lst rows], ⟨ps, hr, hl, hp, hq⟩ =>
    subst hr
    have hz := line1
    refine ⟨rfl, ⟨by rw [List.length_map]; omega, by rw [List.length_map]; omega⟩, by rw [rng_length, List.length_map]; omega, lcP_none (fun i hi K1 K0 k0 => ?_) ⟨⟨rfl, rfl⟩, hq⟩⟩
    rw [List.length_map] at hi
    have hi : i < ps.length := by omega
    have e := hp ps[i] (List.getElem_mem hi)
    have a1 : atI (ps.map fun p => PV.tup [p.1, p.2]) (i : Int) = some (.tup [ps[i].1, ps[i].2]) := atI_nat (by simp [hi])
    exact ⟨_, a1, _, rfl, _, a1, _, rfl, e.1, e.2, trivial, fun h => (nomatch h), fun _ => k0⟩
theorem l__law_cell : ∀ args M Q, sp__law_cell args M Q → args.length = 2 ∧ b__law_cell (fE Q) (fr0 0 args) M := fun args M Q h => by
  match args, h with
  | [w, .int k], ⟨ns, hw, hk, hq⟩ =>
    refine ⟨rfl, ?_⟩
    rcases hw with rfl | rfl
    all_goals
      refine ⟨fun h => ?_, fun _ => hq 0⟩
      have h : k < (((ns.map PV.int).length : Nat) : Int) := of_decide_eq_true h
      rw [List.length_map] at h
      have hj : k.toNat < ns.length := by omega
      have e : ((k.toNat : Nat) : Int) = k := by omega
      have q : atI (ns.map PV.int) ((k.toNat : Nat) : Int) = some (.int ns[k.toNat]) := atI_nat (by rw [List.getElem?_map, List.getElem?_eq_getElem hj]; rfl)
      rw [e] at q
      exact ⟨_, q, hq _⟩
theorem l__law_source : ∀ args M Q, sp__law_source args M Q → args.length = 2 ∧ b__law_source (fE Q) (fr0 0 args) M := fun args M Q h => by
  match args, h with
  | [.int c, .int k], ⟨⟨k0, k1⟩, hq⟩ =>
    refine ⟨rfl, ⟨⟨by omega, by omega, by decide⟩, fun _ => ⟨⟨by omega, by omega, by decide⟩, hq _ _ (by omega) (by omega)⟩, fun _ => ?_⟩⟩
    have h1 : ∀ x : Int, 0 ≤ x % 2147483647 ∧ x % 2147483647 < 2147483647 := fun x => ⟨Int.emod_nonneg _ (by decide), Int.emod_lt_of_pos _ (by decide)⟩
    exact ⟨mul_r (by decide) (by decide), mul_r (by decide) (by decide), by decide, hq _ _ (h1 _).1 (by have := (h1 (c * 7919 + k * 104729 + 1)).2; omega)⟩
theorem no__law_same : ∀ args M Q, ¬ spr__law_same 0 args M Q := fun args M Q h => by
  match args, h with
  | [x, y], ⟨_, h, _⟩ =>
    unfold sameOk at h
    exact h
end Fl

end

/-! k43: fractions by quotients, ways, bits. Plain maths. -/
namespace Fl
open PySem PySem.Spec PyProof.Rows L2
abbrev P2 := Int × Int
/-- the value of quotients -/
def cf : List Int → P2
  | [] => (1, 0)
  | q :: r => (q * (cf r).1 + (cf r).2, (cf r).1)
def okQ : List Int → Prop
  | [] => False
  | [x] => 2 ≤ x
  | q :: e :: r => 1 ≤ q ∧ okQ (e :: r)
def okQ0 : List Int → Prop
  | [] => False
  | [x] => 2 ≤ x
  | q :: e :: r => 0 ≤ q ∧ okQ (e :: r)
theorem okQ.zero : ∀ {l}, okQ l → okQ0 l
  | [], h => h.elim
  | [x], h => h
  | q :: e :: r, h => ⟨by have := h.1; omega, h.2⟩
theorem cf_one (x : Int) : cf [x] = (x, 1) := by simp [cf]
theorem cf_cons (q : Int) (r : List Int) : cf (q :: r) = (q * (cf r).1 + (cf r).2, (cf r).1) := rfl
theorem okQ.cf : ∀ {l}, okQ l → 0 < (cf l).2 ∧ (cf l).2 < (cf l).1
  | [], h => h.elim
  | [x], h => by
    rw [cf_one]
    have h : 2 ≤ x := h
    exact ⟨by omega, by show (1 : Int) < x; omega⟩
  | q :: e :: r, h => by
    have ih := okQ.cf h.2
    rw [cf_cons]
    generalize Fl.cf (e :: r) = p at *
    have h1 := h.1
    have h2 : 1 * p.1 ≤ q * p.1 := Int.mul_le_mul_of_nonneg_right h1 (by omega)
    exact ⟨by show 0 < p.1; omega, by show p.1 < q * p.1 + p.2; omega⟩
theorem okQ0.cf : ∀ {l}, okQ0 l → 0 < (Fl.cf l).2 ∧ 0 < (Fl.cf l).1
  | [], h => h.elim
  | [x], h => by
    rw [cf_one]
    have h : 2 ≤ x := h
    exact ⟨by omega, by show (0 : Int) < x; omega⟩
  | q :: e :: r, h => by
    have ih := okQ.cf h.2
    rw [cf_cons]
    generalize Fl.cf (e :: r) = p at *
    have h1 := h.1
    have h2 : 0 ≤ q * p.1 := Int.mul_nonneg h1 (by omega)
    exact ⟨by show 0 < p.1; omega, by show 0 < q * p.1 + p.2; omega⟩
theorem eu {q t l : Int} (h0 : 0 ≤ l) (h1 : l < t) : (q * t + l) / t = q ∧ (q * t + l) % t = l := by
  constructor
  · rw [Int.add_comm, Int.add_mul_ediv_right _ _ (by omega), Int.ediv_eq_zero_of_lt h0 h1, Int.zero_add]
  · rw [Int.add_comm, Int.add_mul_emod_self_right, Int.emod_eq_of_lt h0 h1]
theorem gcd_one {a b x y : Int} (h : a * x - b * y = 1) : Int.gcd a b = 1 := by
  have h1 : (Int.gcd a b : Int) ∣ a := Int.gcd_dvd_left ..
  have h2 : (Int.gcd a b : Int) ∣ b := Int.gcd_dvd_right ..
  have h3 : (Int.gcd a b : Int) ∣ 1 := by
    rw [← h]
    exact Int.dvd_sub (Int.dvd_trans h1 (Int.dvd_mul_right ..)) (Int.dvd_trans h2 (Int.dvd_mul_right ..))
  have := Int.eq_one_of_dvd_one (Int.natCast_nonneg _) h3
  omega
/-- the way to a fraction of quotients -/
def wayQ : Bool → List Int → List (Bool × Int)
  | _, [] => []
  | s, [x] => [(s, x - 1)]
  | s, q :: e :: r => if 0 < q then (s, q) :: wayQ (!s) (e :: r) else wayQ (!s) (e :: r)
def alt : List (Bool × Int) → Prop
  | a :: b :: r => a.1 ≠ b.1 ∧ alt (b :: r)
  | _ => True
theorem wayQ_head : ∀ {l : List Int} (s : Bool), okQ l → ∃ k r, wayQ s l = (s, k) :: r
  | [], _, h => h.elim
  | [x], s, _ => ⟨_, _, rfl⟩
  | q :: e :: r, s, h => ⟨q, wayQ (!s) (e :: r), if_pos (by have := h.1; omega)⟩
theorem wayQ_alt1 : ∀ {l : List Int} (s : Bool), okQ l → alt (wayQ s l)
  | [], _, h => h.elim
  | [x], s, _ => trivial
  | q :: e :: r, s, h => by
    rw [wayQ, if_pos (by have := h.1; omega)]
    obtain ⟨k, r', h2⟩ := wayQ_head (!s) h.2
    have := wayQ_alt1 (!s) h.2
    rw [h2] at this ⊢
    exact ⟨by cases s <;> simp, this⟩
theorem wayQ_alt : ∀ {l : List Int} (s : Bool), okQ0 l → alt (wayQ s l)
  | [], _, h => h.elim
  | [x], s, _ => trivial
  | q :: e :: r, s, h => by
    have := wayQ_alt1 (!s) h.2
    rw [wayQ]
    split
    · obtain ⟨k, r', h2⟩ := wayQ_head (!s) h.2
      rw [h2] at this ⊢
      exact ⟨by cases s <;> simp, this⟩
    · exact this
theorem wayQ_mem : ∀ {l : List Int} (s : Bool), okQ0 l → ∀ w ∈ wayQ s l, 1 ≤ w.2 ∧ (w.2 ∈ l ∨ w.2 + 1 ∈ l)
  | [], _, h, w, hw => h.elim
  | [x], s, h, w, hw => by
    have e := List.mem_singleton.mp hw
    have h : 2 ≤ x := h
    rw [e]
    exact ⟨by show 1 ≤ x - 1; omega, .inr (by show x - 1 + 1 ∈ [x]; rw [show x - 1 + 1 = x by omega]; exact List.mem_singleton.mpr rfl)⟩
  | q :: e :: r, s, h, w, hw => by
    have ih := wayQ_mem (!s) h.2.zero w
    have up : w ∈ wayQ (!s) (e :: r) → 1 ≤ w.2 ∧ (w.2 ∈ q :: e :: r ∨ w.2 + 1 ∈ q :: e :: r) := fun hw => ⟨(ih hw).1, (ih hw).2.elim (fun z => .inl (List.mem_cons_of_mem _ z)) fun z => .inr (List.mem_cons_of_mem _ z)⟩
    rw [wayQ] at hw
    split at hw
    · rcases List.mem_cons.mp hw with z | z
      · rw [z]
        exact ⟨by show 1 ≤ q; omega, .inl (List.mem_cons_self ..)⟩
      · exact up z
    · exact up hw
theorem wayQ_len : ∀ (l : List Int) (s : Bool), (wayQ s l).length ≤ l.length
  | [], _ => Nat.le_refl _
  | [x], s => Nat.le_refl _
  | q :: e :: r, s => by
    have := wayQ_len (e :: r) (!s)
    rw [wayQ]
    split <;> simp only [List.length_cons] at * <;> omega
theorem wayQ_sum : ∀ {l : List Int} (s : Bool), okQ0 l → ((wayQ s l).map (·.2)).sum = l.sum - 1
  | [], _, h => h.elim
  | [x], s, _ => by simp [wayQ]
  | q :: e :: r, s, h => by
    have ih := wayQ_sum (!s) h.2.zero
    rw [wayQ]
    split
    · rw [List.map_cons, List.sum_cons, ih]
      simp only [List.sum_cons]
      omega
    · rw [ih]
      simp only [List.sum_cons]
      have := h.1
      omega
/-- the other way round: the fraction turned -/
theorem wayQ_not : ∀ (l : List Int) (s : Bool), wayQ (!s) l = (wayQ s l).map fun w => (!w.1, w.2)
  | [], _ => rfl
  | [x], s => rfl
  | q :: e :: r, s => by
    have ih := wayQ_not (e :: r) (!s)
    rw [wayQ, wayQ]
    split
    · rw [List.map_cons, ih]
    · exact ih
def flipQ : List Int → List Int
  | q :: e :: r => if q = 0 then e :: r else 0 :: q :: e :: r
  | l => 0 :: l
theorem flipQ_ok : ∀ {l : List Int}, okQ0 l → okQ0 (flipQ l) ∧ cf (flipQ l) = ((cf l).2, (cf l).1)
  | [], h => h.elim
  | [x], h => ⟨⟨Int.le_refl _, h⟩, by rw [flipQ, cf_cons, cf_one]; simp; intro q e r h; simp at h⟩
  | q :: e :: r, h => by
    rw [flipQ]
    split
    · rename_i hq
      refine ⟨h.2.zero, ?_⟩
      simp [cf_cons, hq]
    · rename_i hq
      refine ⟨⟨Int.le_refl _, ⟨by have := h.1; omega, h.2⟩⟩, ?_⟩
      rw [cf_cons 0, cf_cons q]
      simp
theorem flipQ_way : ∀ {l : List Int} (s : Bool), okQ0 l → wayQ s (flipQ l) = wayQ (!s) l
  | [], _, h => h.elim
  | [x], s, h => by simp [flipQ, wayQ]
  | q :: e :: r, s, h => by
    rw [flipQ]
    split
    · rename_i hq
      rw [wayQ, hq]
      simp
    · rename_i hq
      rw [wayQ, if_neg (by omega)]
theorem flipQ_sum : ∀ (l : List Int), (flipQ l).sum = l.sum
  | [] => by simp [flipQ]
  | [x] => by simp [flipQ]
  | q :: e :: r => by
    rw [flipQ]
    split <;> simp_all
theorem flipQ_len : ∀ (l : List Int), (flipQ l).length ≤ l.length + 1
  | [] => by simp [flipQ]
  | [x] => by simp [flipQ]
  | q :: e :: r => by
    rw [flipQ]
    split <;> simp
theorem flipQ_mem : ∀ (l : List Int), ∀ q ∈ flipQ l, q = 0 ∨ q ∈ l
  | [] => by simp [flipQ]
  | [x] => by simp [flipQ]
  | q :: e :: r => by
    rw [flipQ]
    split <;> simp <;> grind
/-! steps: left and right -/
def stW (st : P2 × P2) (w : Bool × Int) : P2 × P2 := if w.1 then ((st.1.1 + w.2 * st.2.1, st.1.2 + w.2 * st.2.2), st.2) else (st.1, (st.2.1 + w.2 * st.1.1, st.2.2 + w.2 * st.1.2))
def sdW (ws : List (Bool × Int)) : P2 × P2 := ws.foldl stW ((0, 1), (1, 0))
theorem wayQ_end : ∀ {l : List Int} (s : Bool) (lo hi : P2), okQ0 l →
    ((wayQ s l).foldl stW (lo, hi)).1.1 + ((wayQ s l).foldl stW (lo, hi)).2.1 = (cf l).1 * (if s then hi.1 else lo.1) + (cf l).2 * (if s then lo.1 else hi.1) ∧
    ((wayQ s l).foldl stW (lo, hi)).1.2 + ((wayQ s l).foldl stW (lo, hi)).2.2 = (cf l).1 * (if s then hi.2 else lo.2) + (cf l).2 * (if s then lo.2 else hi.2)
  | [], _, _, _, h => h.elim
  | [x], s, lo, hi, h => by
    rw [wayQ, cf_one, List.foldl_cons, List.foldl_nil]
    cases s <;> simp [stW] <;> grind
  | q :: e :: r, s, lo, hi, h => by
    have ih := fun lo hi => wayQ_end (!s) lo hi h.2.zero
    rw [wayQ, cf_cons]
    generalize cf (e :: r) = p at *
    split
    · rw [List.foldl_cons]
      have ih := ih (stW (lo, hi) (s, q)).1 (stW (lo, hi) (s, q)).2
      rw [show ((stW (lo, hi) (s, q)).1, (stW (lo, hi) (s, q)).2) = stW (lo, hi) (s, q) from rfl] at ih
      rw [ih.1, ih.2]
      cases s <;> simp [stW] <;> grind
    · have hq : q = 0 := by have := h.1; omega
      have ih := ih lo hi
      rw [ih.1, ih.2, hq]
      cases s <;> simp <;> grind
def detW (st : P2 × P2) : Int := st.2.1 * st.1.2 - st.1.1 * st.2.2
theorem detW_st (st : P2 × P2) (w : Bool × Int) : detW (stW st w) = detW st := by
  obtain ⟨⟨a, b⟩, c, d⟩ := st
  obtain ⟨s, k⟩ := w
  unfold detW stW
  cases s <;> simp <;> grind
theorem detW_fold : ∀ (ws : List (Bool × Int)) (st : P2 × P2), detW (ws.foldl stW st) = detW st
  | [], _ => rfl
  | w :: ws, st => by rw [List.foldl_cons, detW_fold ws, detW_st]
theorem detW_sd (ws : List (Bool × Int)) : detW (sdW ws) = 1 := by rw [sdW, detW_fold]; rfl
theorem sdW_end {l : List Int} (h : okQ0 l) : (sdW (wayQ true l)).1.1 + (sdW (wayQ true l)).2.1 = (cf l).1 ∧ (sdW (wayQ true l)).1.2 + (sdW (wayQ true l)).2.2 = (cf l).2 := by
  have := wayQ_end true (0, 1) (1, 0) h
  simpa [sdW] using this
def nnW (st : P2 × P2) : Prop := 0 ≤ st.1.1 ∧ 0 ≤ st.1.2 ∧ 0 ≤ st.2.1 ∧ 0 ≤ st.2.2
theorem nnW_st {st : P2 × P2} {w : Bool × Int} (h : nnW st) (hw : 1 ≤ w.2) : nnW (stW st w) := by
  obtain ⟨⟨a, b⟩, c, d⟩ := st
  obtain ⟨s, k⟩ := w
  obtain ⟨h1, h2, h3, h4⟩ := h
  have p1 : 0 ≤ k * a := Int.mul_nonneg (by have : 1 ≤ k := hw; omega) h1
  have p2 : 0 ≤ k * b := Int.mul_nonneg (by have : 1 ≤ k := hw; omega) h2
  have p3 : 0 ≤ k * c := Int.mul_nonneg (by have : 1 ≤ k := hw; omega) h3
  have p4 : 0 ≤ k * d := Int.mul_nonneg (by have : 1 ≤ k := hw; omega) h4
  unfold stW nnW
  cases s <;> simp at * <;> omega
theorem nnW_fold : ∀ (ws : List (Bool × Int)) (st : P2 × P2), nnW st → (∀ w ∈ ws, 1 ≤ w.2) → nnW (ws.foldl stW st)
  | [], _, h, _ => h
  | w :: ws, st, h, hw => by
    rw [List.foldl_cons]
    exact nnW_fold ws _ (nnW_st h (hw w (by simp))) fun x hx => hw x (by simp [hx])
theorem nnW_sd {ws : List (Bool × Int)} (h : ∀ w ∈ ws, 1 ≤ w.2) : nnW (sdW ws) := nnW_fold ws _ ⟨by decide, by decide, by decide, by decide⟩ h
theorem cf_gcd {l : List Int} (h : okQ0 l) : Int.gcd (cf l).1 (cf l).2 = 1 := by
  have e := sdW_end h
  have d := detW_sd (wayQ true l)
  unfold detW at d
  exact gcd_one (x := (sdW (wayQ true l)).1.2) (y := (sdW (wayQ true l)).1.1) (by rw [← e.1, ← e.2]; grind)
/-- a bound -/
theorem cf_lt {B : Int} (hB : 1 ≤ B) : ∀ {l : List Int}, (∀ q ∈ l, 0 ≤ q ∧ q < B) → 0 ≤ (cf l).1 ∧ 0 ≤ (cf l).2 ∧ (cf l).1 + (cf l).2 ≤ (B + 1) ^ l.length ∧ (cf l).1 ≤ (B + 1) ^ l.length
  | [], _ => by simp [cf]
  | q :: r, h => by
    obtain ⟨i1, i2, i3, i4⟩ := cf_lt hB (l := r) fun x hx => h x (by simp [hx])
    have hq := h q (by simp)
    rw [cf_cons, List.length_cons, Int.pow_succ]
    generalize (B + 1) ^ r.length = T at *
    generalize cf r = p at *
    have p1 : 0 ≤ q * p.1 := Int.mul_nonneg hq.1 i1
    have p2 : q * p.1 ≤ (B - 1) * p.1 := Int.mul_le_mul_of_nonneg_right (by omega) i1
    have p3 : B * (p.1 + p.2) ≤ B * T := Int.mul_le_mul_of_nonneg_left i3 (by omega)
    have p4 : 1 * p.2 ≤ B * p.2 := Int.mul_le_mul_of_nonneg_right hB i2
    have e1 : (B - 1) * p.1 = B * p.1 - p.1 := by grind
    have e2 : B * (p.1 + p.2) = B * p.1 + B * p.2 := by grind
    have e3 : T * (B + 1) = B * T + T := by grind
    refine ⟨?_, i1, ?_, ?_⟩
    · show 0 ≤ q * p.1 + p.2; omega
    · show q * p.1 + p.2 + p.1 ≤ T * (B + 1); omega
    · show q * p.1 + p.2 ≤ T * (B + 1); omega
end Fl

/-! k43: bits and numbers, the plainest fraction between two. Plain maths. -/
namespace Fl
open PySem PySem.Spec PyProof.Rows L2
def bitsW : List (Bool × Int) → List Bool
  | [] => []
  | w :: ws => List.replicate w.2.toNat w.1 ++ bitsW ws
def bI (b : Bool) : Int := if b then 1 else 0
/-- the number of bits, the first the lowest, a 1 on top -/
def numB : List Bool → Int
  | [] => 1
  | b :: r => 2 * numB r + bI b
def FB : List Bool → P2
  | [] => (1, 1)
  | b :: r => if b then ((FB r).1 + (FB r).2, (FB r).2) else ((FB r).1, (FB r).1 + (FB r).2)
theorem numB_pos : ∀ bs, 1 ≤ numB bs ∧ numB bs < 2 ^ (bs.length + 1)
  | [] => by simp [numB]
  | b :: r => by
    have := numB_pos r
    rw [numB, List.length_cons, Int.pow_succ]
    cases b <;> simp [bI] <;> omega
theorem FB_pos : ∀ bs, 0 < (FB bs).1 ∧ 0 < (FB bs).2
  | [] => by simp [FB]
  | b :: r => by
    have := FB_pos r
    rw [FB]
    cases b <;> simp <;> omega
theorem FB_repT (bs : List Bool) : ∀ k : Nat, FB (List.replicate k true ++ bs) = ((FB bs).1 + k * (FB bs).2, (FB bs).2)
  | 0 => by simp
  | k + 1 => by
    rw [List.replicate_succ, List.cons_append, FB, FB_repT bs k, if_pos rfl]
    simp
    grind
theorem FB_repF (bs : List Bool) : ∀ k : Nat, FB (List.replicate k false ++ bs) = ((FB bs).1, k * (FB bs).1 + (FB bs).2)
  | 0 => by simp
  | k + 1 => by
    rw [List.replicate_succ, List.cons_append, FB, FB_repF bs k, if_neg (by simp)]
    simp
    grind
theorem FB_way : ∀ {l : List Int} (s : Bool), okQ0 l → FB (bitsW (wayQ s l)) = if s then cf l else ((cf l).2, (cf l).1)
  | [], _, h => h.elim
  | [x], s, h => by
    have h : 2 ≤ x := h
    rw [wayQ, bitsW, bitsW, cf_one]
    have e : (((x - 1).toNat : Nat) : Int) = x - 1 := by omega
    cases s
    · rw [FB_repF, e]; simp [FB]; try omega
    · rw [FB_repT, e]; simp [FB]; try omega
  | q :: e :: r, s, h => by
    have ih := FB_way (!s) h.2.zero
    have eq : ((q.toNat : Nat) : Int) = q := by have := h.1; omega
    rw [wayQ, cf_cons]
    generalize cf (e :: r) = p at *
    split
    · rw [bitsW]
      cases s
      · rw [FB_repF, ih, eq]; simp
      · rw [FB_repT, ih, eq]; simp; try omega
    · have hq : q = 0 := by have := h.1; omega
      rw [ih, hq]
      cases s <;> simp
def incB : List Bool → List Bool
  | [] => [false]
  | false :: r => true :: r
  | true :: r => false :: incB r
theorem numB_inc : ∀ bs, numB (incB bs) = numB bs + 1
  | [] => rfl
  | false :: r => by simp [incB, numB, bI]
  | true :: r => by simp [incB, numB, bI, numB_inc r]; omega
def nextF (p q : Int) : P2 := (q, 2 * (p / q) * q + q - p)
theorem FB_inc : ∀ bs, FB (incB bs) = nextF (FB bs).1 (FB bs).2
  | [] => rfl
  | false :: r => by
    have h := FB_pos r
    have e : (FB r).1 / ((FB r).1 + (FB r).2) = 0 := Int.ediv_eq_zero_of_lt (by omega) (by omega)
    simp [incB, FB, nextF, e]
    omega
  | true :: r => by
    have h := FB_pos r
    have ih := FB_inc r
    have e : ((FB r).1 + (FB r).2) / (FB r).2 = (FB r).1 / (FB r).2 + 1 := by
      have := Int.add_mul_ediv_right (FB r).1 1 (show (FB r).2 ≠ 0 by omega)
      rw [Int.one_mul] at this
      exact this
    simp [incB, FB, nextF, e, ih]
    grind
theorem gcd_one_of {a b : Int} (h : ∀ d : Int, d ∣ a → d ∣ b → d ∣ 1) : Int.gcd a b = 1 := by
  have := Int.eq_one_of_dvd_one (Int.natCast_nonneg _) (h (Int.gcd a b : Int) (Int.gcd_dvd_left ..) (Int.gcd_dvd_right ..))
  omega
theorem gcd_one_dvd {a b d : Int} (h : Int.gcd a b = 1) (h1 : d ∣ a) (h2 : d ∣ b) : d ∣ 1 := by
  have := Int.dvd_coe_gcd h1 h2
  rw [h] at this
  exact this
theorem nextF_gcd {p q : Int} (h : Int.gcd p q = 1) : Int.gcd (nextF p q).1 (nextF p q).2 = 1 := gcd_one_of fun d h1 h2 => by
  have h1 : d ∣ q := h1
  have h2 : d ∣ 2 * (p / q) * q + q - p := h2
  refine gcd_one_dvd h ?_ h1
  have h3 : d ∣ (2 * (p / q) * q + q) := Int.dvd_add (Int.dvd_trans h1 (Int.dvd_mul_left ..)) h1
  have := Int.dvd_sub h3 h2
  rw [show 2 * (p / q) * q + q - (2 * (p / q) * q + q - p) = p by omega] at this
  exact this
/-! the plainest between a/b and c/d -/
structure Plain (a b c d x y : Int) : Prop where
  y0 : 0 < y
  lo : a * y < x * b
  hi : x * d < c * y
  min : ∀ u v, 0 < v → a * v < u * b → u * d < c * v → x ≤ u ∧ y ≤ v
theorem Plain.uniq {a b c d x y x' y' : Int} (h : Plain a b c d x y) (h' : Plain a b c d x' y') : x = x' ∧ y = y' := by
  have h1 := h.min x' y' h'.y0 h'.lo h'.hi
  have h2 := h'.min x y h.y0 h.lo h.hi
  omega
/-- where the search stands -/
structure SB (a b c d l0 l1 r0 r1 : Int) : Prop where
  det : r0 * l1 - l0 * r1 = 1
  pl0 : 0 ≤ l0
  pl1 : 1 ≤ l1
  pr0 : 1 ≤ r0
  pr1 : 0 ≤ r1
  lo : l0 * b ≤ a * l1
  hi : c * r1 ≤ r0 * d
theorem pos_of_mul {a b : Int} (h : 0 < a * b) (ha : 0 < a) : 0 < b := by
  rcases Int.lt_or_le 0 b with z | z
  · exact z
  · have : a * b ≤ a * 0 := Int.mul_le_mul_of_nonneg_left z (by omega)
    omega
theorem nn_of_mul {a b : Int} (h : 0 ≤ a * b) (ha : 0 < a) : 0 ≤ b := by
  rcases Int.lt_or_le b 0 with z | z
  · have : a * b < a * 0 := Int.mul_lt_mul_of_pos_left z ha
    omega
  · exact z
theorem SB.least {a b c d l0 l1 r0 r1 : Int} (h : SB a b c d l0 l1 r0 r1) (hb : 0 < b) (hd : 0 < d) : ∀ u v, 0 < v → a * v < u * b → u * d < c * v → l0 + r0 ≤ u ∧ l1 + r1 ≤ v := by
  intro u v hv h1 h2
  have p1 : v * (l0 * b) ≤ v * (a * l1) := Int.mul_le_mul_of_nonneg_left h.lo (by omega)
  have p2 : l1 * (a * v) < l1 * (u * b) := Int.mul_lt_mul_of_pos_left h1 (by have := h.pl1; omega)
  have i0 : 0 < u * l1 - l0 * v := pos_of_mul (a := b) (by grind) hb
  have p3 : v * (c * r1) ≤ v * (r0 * d) := Int.mul_le_mul_of_nonneg_left h.hi (by omega)
  have j0 : 0 < r0 * v - u * r1 := by
    by_cases z : r1 = 0
    · rw [z, Int.mul_zero, Int.sub_zero]
      exact Int.mul_pos (by have := h.pr0; omega) hv
    · have p4 : r1 * (u * d) < r1 * (c * v) := Int.mul_lt_mul_of_pos_left h2 (by have := h.pr1; omega)
      exact pos_of_mul (a := d) (by grind) hd
  generalize hi : u * l1 - l0 * v = i at *
  generalize hj : r0 * v - u * r1 = j at *
  have e1 : u = i * r0 + j * l0 := by have := h.det; grind
  have e2 : v = i * r1 + j * l1 := by have := h.det; grind
  have q1 : 1 * r0 ≤ i * r0 := Int.mul_le_mul_of_nonneg_right i0 (by have := h.pr0; omega)
  have q2 : 1 * l0 ≤ j * l0 := Int.mul_le_mul_of_nonneg_right j0 h.pl0
  have q3 : 1 * r1 ≤ i * r1 := Int.mul_le_mul_of_nonneg_right i0 h.pr1
  have q4 : 1 * l1 ≤ j * l1 := Int.mul_le_mul_of_nonneg_right j0 (by have := h.pl1; omega)
  omega
theorem SB.plain {a b c d l0 l1 r0 r1 : Int} (h : SB a b c d l0 l1 r0 r1) (hb : 0 < b) (hd : 0 < d) (h1 : a * (l1 + r1) < (l0 + r0) * b) (h2 : (l0 + r0) * d < c * (l1 + r1)) : Plain a b c d (l0 + r0) (l1 + r1) :=
  ⟨by have := h.pl1; have := h.pr1; omega, h1, h2, h.least hb hd⟩
/-- how far the sides may grow -/
theorem SB.bound {a b c d l0 l1 r0 r1 : Int} (h : SB a b c d l0 l1 r0 r1) (hb : 0 < b) (hd : 0 < d) (h1 : a * d < c * b) : l0 + r0 ≤ a + c ∧ l1 + r1 ≤ b + d :=
  h.least hb hd (a + c) (b + d) (by omega) (by grind) (by grind)
/-- left goes on -/
theorem SB.left {a b c d l0 l1 r0 r1 : Int} (h : SB a b c d l0 l1 r0 r1) (hb : 0 < b) (hd : 0 < d) (h1 : a * d < c * b) (hn : (l0 + r0) * b ≤ a * (l1 + r1)) :
    0 < r0 * b - a * r1 ∧ 1 ≤ (a * l1 - l0 * b) / (r0 * b - a * r1) ∧ SB a b c d (l0 + (a * l1 - l0 * b) / (r0 * b - a * r1) * r0) (l1 + (a * l1 - l0 * b) / (r0 * b - a * r1) * r1) r0 r1 := by
  have hD : 0 < r0 * b - a * r1 := by
    -- one < other <= right
    by_cases z : r1 = 0
    · rw [z, Int.mul_zero, Int.sub_zero]
      exact Int.mul_pos (by have := h.pr0; omega) hb
    · have p1 : b * (c * r1) ≤ b * (r0 * d) := Int.mul_le_mul_of_nonneg_left h.hi (by omega)
      have p2 : r1 * (a * d) < r1 * (c * b) := Int.mul_lt_mul_of_pos_left h1 (by have := h.pr1; omega)
      exact pos_of_mul (a := d) (by grind) hd
  have hg : r0 * b - a * r1 ≤ a * l1 - l0 * b := by grind
  have e1 : 1 ≤ (a * l1 - l0 * b) / (r0 * b - a * r1) := by
    rw [Int.le_ediv_iff_mul_le hD]
    omega
  have e2 : (a * l1 - l0 * b) / (r0 * b - a * r1) * (r0 * b - a * r1) ≤ a * l1 - l0 * b := Int.ediv_mul_le _ (by omega)
  generalize (a * l1 - l0 * b) / (r0 * b - a * r1) = k at *
  have n1 : 0 ≤ k * r0 := Int.mul_nonneg (by omega) (by have := h.pr0; omega)
  have n2 : 0 ≤ k * r1 := Int.mul_nonneg (by omega) h.pr1
  refine ⟨hD, e1, ?_, ?_, ?_, h.pr0, h.pr1, ?_, h.hi⟩
  · have := h.det; grind
  · have := h.pl0; omega
  · have := h.pl1; omega
  · grind
/-- right goes on -/
theorem SB.right {a b c d l0 l1 r0 r1 : Int} (h : SB a b c d l0 l1 r0 r1) (hb : 0 < b) (hd : 0 < d) (h1 : a * d < c * b) (hn : c * (l1 + r1) ≤ (l0 + r0) * d) :
    0 < c * l1 - l0 * d ∧ 1 ≤ (r0 * d - c * r1) / (c * l1 - l0 * d) ∧ SB a b c d l0 l1 (r0 + (r0 * d - c * r1) / (c * l1 - l0 * d) * l0) (r1 + (r0 * d - c * r1) / (c * l1 - l0 * d) * l1) := by
  have hD : 0 < c * l1 - l0 * d := by
    have p1 : d * (l0 * b) ≤ d * (a * l1) := Int.mul_le_mul_of_nonneg_left h.lo (by omega)
    have p2 : l1 * (a * d) < l1 * (c * b) := Int.mul_lt_mul_of_pos_left h1 (by have := h.pl1; omega)
    exact pos_of_mul (a := b) (by grind) hb
  have hg : c * l1 - l0 * d ≤ r0 * d - c * r1 := by grind
  have e1 : 1 ≤ (r0 * d - c * r1) / (c * l1 - l0 * d) := by
    rw [Int.le_ediv_iff_mul_le hD]
    omega
  have e2 : (r0 * d - c * r1) / (c * l1 - l0 * d) * (c * l1 - l0 * d) ≤ r0 * d - c * r1 := Int.ediv_mul_le _ (by omega)
  generalize (r0 * d - c * r1) / (c * l1 - l0 * d) = k at *
  have n1 : 0 ≤ k * l0 := Int.mul_nonneg (by omega) h.pl0
  have n2 : 0 ≤ k * l1 := Int.mul_nonneg (by omega) (by have := h.pl1; omega)
  refine ⟨hD, e1, ?_, h.pl0, h.pl1, ?_, ?_, h.lo, ?_⟩
  · have := h.det; grind
  · have := h.pr0; omega
  · have := h.pr1; omega
  · grind
theorem SB.start {a b c d : Int} (ha : 0 ≤ a) (hd : 0 ≤ d) : SB a b c d 0 1 1 0 := ⟨by omega, by omega, by omega, by omega, by omega, by omega, by omega⟩
/-! by the whole part and what is left, turned over -/
theorem Plain.whole {a b c d : Int} (ha : 0 ≤ a) (hb : 0 < b) (hd : 0 ≤ d) (h : (a / b + 1) * d < c) : Plain a b c d (a / b + 1) 1 := by
  have e := Int.emod_add_mul_ediv a b
  have e1 := Int.emod_lt_of_pos a hb
  have e2 := Int.emod_nonneg a (show b ≠ 0 by omega)
  refine ⟨by omega, ?_, by omega, fun u v hv h1 h2 => ⟨?_, hv⟩⟩
  · grind
  · -- u b > a v >= a, so u > a / b
    have p : a * 1 ≤ a * v := Int.mul_le_mul_of_nonneg_left hv ha
    have : a / b < u := Int.ediv_lt_of_lt_mul hb (by omega)
    omega
theorem Plain.inner {a b c d x y : Int} (ha : 0 ≤ a) (hb : 0 < b) (hd : 0 < d) (hw : c ≤ (a / b + 1) * d) (h1 : a * d < c * b) (h : Plain d (c - a / b * d) b (a % b) x y) : Plain a b c d (a / b * x + y) x := by
  have e := Int.emod_add_mul_ediv a b
  have e1 := Int.emod_lt_of_pos a hb
  have e2 := Int.emod_nonneg a (show b ≠ 0 by omega)
  have k0 : 0 ≤ a / b := Int.ediv_nonneg ha (by omega)
  generalize a / b = k at *
  generalize a % b = m at *
  obtain rfl : a = m + b * k := by omega
  clear e
  have md : 0 ≤ m * d := Int.mul_nonneg e2 (by omega)
  have hlo := h.lo
  have hhi := h.hi
  have hy := h.y0
  have hc : 0 < c - k * d := pos_of_mul (a := b) (by grind) hb
  have hx : 0 < x := by
    have p1 : 0 < d * y := Int.mul_pos hd hy
    exact pos_of_mul (a := c - k * d) (by grind) hc
  refine ⟨hx, by grind, by grind, fun u v hv g1 g2 => ?_⟩
  have q : 0 < u - k * v := by
    have p1 : 0 ≤ m * v := Int.mul_nonneg e2 (by omega)
    exact pos_of_mul (a := b) (by grind) hb
  have := h.min v (u - k * v) q (by grind) (by grind)
  have p : k * x ≤ k * v := Int.mul_le_mul_of_nonneg_left this.1 k0
  omega
end Fl

/-! k43: the nearest fraction with a bottom of at most so much; depth of the law's own search. Plain maths. -/
namespace Fl
open PySem PySem.Spec PyProof.Rows L2
theorem le_cancel {a b c : Int} (h : c * a ≤ c * b) (hc : 0 < c) : a ≤ b := Int.le_of_mul_le_mul_left h hc
theorem lt_cancel {a b c : Int} (h : c * a < c * b) (hc : 0 < c) : a < b := Int.lt_of_mul_lt_mul_left h (by omega)
theorem eq_cancel {a b c : Int} (h : c * a = c * b) (hc : 0 < c) : a = b := Int.eq_of_mul_eq_mul_left (by omega) h
def ab (x : Int) : Int := if x < 0 then -x else x
theorem ab_nn (x : Int) : 0 ≤ ab x := by unfold ab; split <;> omega
theorem ab_pos {x : Int} (h : 0 ≤ x) : ab x = x := if_neg (by omega)
theorem ab_neg {x : Int} (h : x ≤ 0) : ab x = -x := by unfold ab; split <;> omega
/-- x/y is nearer to p/q than u/v, or as near and not greater -/
def BE (p q x y u v : Int) : Prop := ab (p * y - x * q) * v ≤ ab (p * v - u * q) * y ∧ (ab (p * y - x * q) * v = ab (p * v - u * q) * y → x * v ≤ u * y)
theorem BE.refl (p q x y : Int) : BE p q x y x y := ⟨Int.le_refl _, fun _ => Int.le_refl _⟩
theorem BE.trans {p q x y u v s t : Int} (hy : 0 < y) (hv : 0 < v) (ht : 0 < t) (h : BE p q x y u v) (h' : BE p q u v s t) : BE p q x y s t := by
  obtain ⟨a1, a2⟩ := h
  obtain ⟨b1, b2⟩ := h'
  unfold BE
  generalize ab (p * y - x * q) = D1 at *
  generalize ab (p * v - u * q) = D2 at *
  generalize ab (p * t - s * q) = D3 at *
  have c1 : t * (D1 * v) ≤ t * (D2 * y) := Int.mul_le_mul_of_nonneg_left a1 (by omega)
  have c2 : y * (D2 * t) ≤ y * (D3 * v) := Int.mul_le_mul_of_nonneg_left b1 (by omega)
  refine ⟨le_cancel (c := v) (by grind) hv, fun e => ?_⟩
  have e1 : v * (D1 * t) = v * (D3 * y) := by rw [e]
  have e3 : t * (D1 * v) = v * (D1 * t) := by grind
  have e4 : y * (D3 * v) = v * (D3 * y) := by grind
  have e5 : y * (D2 * t) = t * (D2 * y) := by grind
  have f1 : D1 * v = D2 * y := eq_cancel (c := t) (by omega) ht
  have f2 : D2 * t = D3 * v := eq_cancel (c := y) (by omega) hy
  have g1 : t * (x * v) ≤ t * (u * y) := Int.mul_le_mul_of_nonneg_left (a2 f1) (by omega)
  have g2 : y * (u * t) ≤ y * (s * v) := Int.mul_le_mul_of_nonneg_left (b2 f2) (by omega)
  exact le_cancel (c := v) (by grind) hv
/-- of the fractions with the bottom v those beside p/q are the nearest -/
theorem BE.low {p q v u : Int} (hq : 0 < q) (hv : 0 < v) (hu : u ≤ p * v / q) : BE p q (p * v / q) v u v := by
  have e := Int.emod_add_mul_ediv (p * v) q
  have e1 := Int.emod_nonneg (p * v) (show q ≠ 0 by omega)
  generalize p * v / q = k at *
  have h1 : 0 ≤ p * v - k * q := by grind
  have h2 : u * q ≤ k * q := Int.mul_le_mul_of_nonneg_right hu (by omega)
  unfold BE
  rw [ab_pos h1, ab_pos (show 0 ≤ p * v - u * q by omega)]
  refine ⟨Int.mul_le_mul_of_nonneg_right (by omega) (by omega), fun z => ?_⟩
  have z1 := Int.eq_of_mul_eq_mul_right (by omega) z
  have z2 : k * q = u * q := by omega
  rw [Int.eq_of_mul_eq_mul_right (by omega) z2]
  exact Int.le_refl _
theorem BE.high {p q v u : Int} (hq : 0 < q) (hv : 0 < v) (hu : p * v / q + 1 ≤ u) : BE p q (p * v / q + 1) v u v := by
  have e := Int.emod_add_mul_ediv (p * v) q
  have e1 := Int.emod_lt_of_pos (p * v) hq
  generalize p * v / q = k at *
  have h1 : p * v - (k + 1) * q ≤ 0 := by grind
  have h2 : (k + 1) * q ≤ u * q := Int.mul_le_mul_of_nonneg_right hu (by omega)
  unfold BE
  rw [ab_neg h1, ab_neg (show p * v - u * q ≤ 0 by omega)]
  refine ⟨Int.mul_le_mul_of_nonneg_right (by omega) (by omega), fun z => ?_⟩
  have z1 := Int.eq_of_mul_eq_mul_right (by omega) z
  have z2 : (k + 1) * q = u * q := by omega
  rw [Int.eq_of_mul_eq_mul_right (by omega) z2]
  exact Int.le_refl _
/-- the nearest with bottoms up to most -/
structure Near (p q most x y : Int) : Prop where
  y0 : 0 < y
  ym : y ≤ most
  best : ∀ u v, 0 < v → v ≤ most → BE p q x y u v
theorem Near.same {p q most x y x' y' : Int} (h : Near p q most x y) (h' : Near p q most x' y') : x * y' = x' * y := by
  obtain ⟨a1, a2⟩ := h.best x' y' h'.y0 h'.ym
  obtain ⟨b1, b2⟩ := h'.best x y h.y0 h.ym
  have e : ab (p * y - x * q) * y' = ab (p * y' - x' * q) * y := by omega
  have := a2 e
  have := b2 e.symm
  omega
theorem BE.scale {p q x y u v g : Int} (hg : 0 < g) : BE (g * p) (g * q) x y u v ↔ BE p q x y u v := by
  have e : ∀ s t : Int, ab (g * p * t - s * (g * q)) = g * ab (p * t - s * q) := fun s t => by
    rw [show g * p * t - s * (g * q) = g * (p * t - s * q) by grind]
    generalize p * t - s * q = z
    by_cases hz : 0 ≤ z
    · rw [ab_pos hz, ab_pos (Int.mul_nonneg (by omega) hz)]
    · have : g * z ≤ g * 0 := Int.mul_le_mul_of_nonneg_left (by omega) (by omega)
      rw [ab_neg (by omega), ab_neg (by omega)]
      grind
  unfold BE
  rw [e, e, Int.mul_assoc, Int.mul_assoc]
  constructor
  · rintro ⟨h1, h2⟩
    exact ⟨le_cancel h1 hg, fun z => h2 (by rw [z])⟩
  · rintro ⟨h1, h2⟩
    exact ⟨Int.mul_le_mul_of_nonneg_left h1 (by omega), fun z => h2 (eq_cancel z hg)⟩
/-- two beside each other, p/q between, no bottom up to most between them -/
structure NS (p q most l0 l1 h0 h1 : Int) : Prop where
  det : h0 * l1 - l0 * h1 = 1
  pl1 : 1 ≤ l1
  ph1 : 1 ≤ h1
  ml : l1 ≤ most
  mh : h1 ≤ most
  lo : l0 * q ≤ p * l1
  hi : p * h1 < h0 * q
theorem NS.start {p q most : Int} (hq : 0 < q) (hm : 1 ≤ most) : NS p q most (p / q) 1 (p / q + 1) 1 := by
  have e := Int.emod_add_mul_ediv p q
  have e1 := Int.emod_lt_of_pos p hq
  have e2 := Int.emod_nonneg p (show q ≠ 0 by omega)
  exact ⟨by omega, by omega, by omega, hm, hm, by grind, by grind⟩
theorem NS.left {p q most l0 l1 h0 h1 : Int} (h : NS p q most l0 l1 h0 h1) (hm : l1 + h1 ≤ most) (hc : (l0 + h0) * q ≤ p * (l1 + h1)) : NS p q most (l0 + h0) (l1 + h1) h0 h1 :=
  ⟨by have := h.det; grind, by have := h.pl1; have := h.ph1; omega, h.ph1, hm, h.mh, hc, h.hi⟩
theorem NS.right {p q most l0 l1 h0 h1 : Int} (h : NS p q most l0 l1 h0 h1) (hm : l1 + h1 ≤ most) (hc : p * (l1 + h1) < (l0 + h0) * q) : NS p q most l0 l1 (l0 + h0) (l1 + h1) :=
  ⟨by have := h.det; grind, h.pl1, by have := h.pl1; have := h.ph1; omega, h.ml, hm, h.lo, hc⟩
theorem NS.side {p q most l0 l1 h0 h1 : Int} (h : NS p q most l0 l1 h0 h1) (he : most < l1 + h1) {u v : Int} (hv : 0 < v) (hm : v ≤ most) : u * l1 ≤ l0 * v ∨ h0 * v ≤ u * h1 := by
  rcases Int.lt_or_le (l0 * v) (u * l1) with z1 | z1
  · rcases Int.lt_or_le (u * h1) (h0 * v) with z2 | z2
    · exfalso
      have i0 : 1 ≤ u * l1 - l0 * v := by omega
      have j0 : 1 ≤ h0 * v - u * h1 := by omega
      generalize hi : u * l1 - l0 * v = i at *
      generalize hj : h0 * v - u * h1 = j at *
      have e2 : v = i * h1 + j * l1 := by have := h.det; grind
      have q3 : 1 * h1 ≤ i * h1 := Int.mul_le_mul_of_nonneg_right i0 (by have := h.ph1; omega)
      have q4 : 1 * l1 ≤ j * l1 := Int.mul_le_mul_of_nonneg_right j0 (by have := h.pl1; omega)
      omega
    · exact .inr z2
  · exact .inl z1
theorem NS.low {p q most l0 l1 h0 h1 : Int} (h : NS p q most l0 l1 h0 h1) (hq : 0 < q) (he : most < l1 + h1) (hn : (p * l1 - l0 * q) * h1 ≤ (h0 * q - p * h1) * l1) : Near p q most l0 l1 := by
  refine ⟨by have := h.pl1; omega, h.ml, fun u v hv hm => ?_⟩
  have hlo := h.lo
  have hhi := h.hi
  have p1 := h.pl1
  have p2 := h.ph1
  rcases h.side he hv hm (u := u) with z | z
  · have c1 : q * (u * l1) ≤ q * (l0 * v) := Int.mul_le_mul_of_nonneg_left z (by omega)
    have c2 : v * (l0 * q) ≤ v * (p * l1) := Int.mul_le_mul_of_nonneg_left hlo (by omega)
    have c3 : 0 ≤ p * v - u * q := nn_of_mul (a := l1) (by grind) (by omega)
    unfold BE
    rw [ab_pos (by omega), ab_pos c3]
    refine ⟨by grind, fun e => ?_⟩
    exact le_cancel (c := q) (by grind) hq
  · have c1 : q * (h0 * v) ≤ q * (u * h1) := Int.mul_le_mul_of_nonneg_left z (by omega)
    have c2 : v * (p * h1) < v * (h0 * q) := Int.mul_lt_mul_of_pos_left hhi hv
    have c3 : 0 < u * q - p * v := pos_of_mul (a := h1) (by grind) (by omega)
    have c4 : v * ((p * l1 - l0 * q) * h1) ≤ v * ((h0 * q - p * h1) * l1) := Int.mul_le_mul_of_nonneg_left hn (by omega)
    have c5 : l1 * (q * (h0 * v)) ≤ l1 * (q * (u * h1)) := Int.mul_le_mul_of_nonneg_left c1 (by omega)
    unfold BE
    rw [ab_pos (by omega), ab_neg (show p * v - u * q ≤ 0 by omega)]
    refine ⟨le_cancel (c := h1) (by grind) (by omega), fun e => ?_⟩
    have d1 : l1 * (h0 * v) ≤ l1 * (u * h1) := Int.mul_le_mul_of_nonneg_left z (by omega)
    have d2 : h0 * l1 * v = v + l0 * h1 * v := by have := h.det; grind
    exact le_cancel (c := h1) (by grind) (by omega)
theorem NS.high {p q most l0 l1 h0 h1 : Int} (h : NS p q most l0 l1 h0 h1) (hq : 0 < q) (he : most < l1 + h1) (hn : (h0 * q - p * h1) * l1 < (p * l1 - l0 * q) * h1) : Near p q most h0 h1 := by
  refine ⟨by have := h.ph1; omega, h.mh, fun u v hv hm => ?_⟩
  have hlo := h.lo
  have hhi := h.hi
  have p1 := h.pl1
  have p2 := h.ph1
  rcases h.side he hv hm (u := u) with z | z
  · have c1 : q * (u * l1) ≤ q * (l0 * v) := Int.mul_le_mul_of_nonneg_left z (by omega)
    have c2 : v * (l0 * q) ≤ v * (p * l1) := Int.mul_le_mul_of_nonneg_left hlo (by omega)
    have c3 : 0 ≤ p * v - u * q := nn_of_mul (a := l1) (by grind) (by omega)
    have c4 : v * ((h0 * q - p * h1) * l1) < v * ((p * l1 - l0 * q) * h1) := Int.mul_lt_mul_of_pos_left hn hv
    have c5 : h1 * (q * (u * l1)) ≤ h1 * (q * (l0 * v)) := Int.mul_le_mul_of_nonneg_left c1 (by omega)
    unfold BE
    rw [ab_neg (show p * h1 - h0 * q ≤ 0 by omega), ab_pos c3]
    have d : -(p * h1 - h0 * q) * v < (p * v - u * q) * h1 := lt_cancel (c := l1) (by grind) (by omega)
    exact ⟨by omega, fun e => by omega⟩
  · have c1 : q * (h0 * v) ≤ q * (u * h1) := Int.mul_le_mul_of_nonneg_left z (by omega)
    have c2 : v * (p * h1) < v * (h0 * q) := Int.mul_lt_mul_of_pos_left hhi hv
    have c3 : 0 < u * q - p * v := pos_of_mul (a := h1) (by grind) (by omega)
    unfold BE
    rw [ab_neg (show p * h1 - h0 * q ≤ 0 by omega), ab_neg (show p * v - u * q ≤ 0 by omega)]
    exact ⟨by grind, fun e => z⟩
/-! low terms -/
theorem dvd_gcd1 {y x y' : Int} (h : y ∣ x * y') (hg : Int.gcd y x = 1) : y ∣ y' := by
  have h1 := Int.gcd_mul_right_right_of_gcd_eq_one (k := y') hg
  have h2 : y ∣ (Int.gcd y (x * y') : Int) := Int.dvd_coe_gcd (Int.dvd_refl y) h
  rw [h1] at h2
  exact Int.dvd_trans h2 (Int.gcd_dvd_right ..)
theorem low_of {x y x' y' : Int} (hg : Int.gcd x y = 1) (hy : 0 < y) (hy' : 0 < y') (h : x * y' = x' * y) : x' / (Int.gcd x' y' : Int) = x ∧ y' / (Int.gcd x' y' : Int) = y := by
  have d : y ∣ y' := by
    have h1 : y ∣ x * y' := ⟨x', by grind⟩
    exact dvd_gcd1 h1 (by rw [Int.gcd_comm]; exact hg)
  obtain ⟨k, rfl⟩ := d
  have hk : 0 < k := pos_of_mul hy' hy
  obtain rfl : x' = x * k := eq_cancel (c := y) (by grind) hy
  have e : (Int.gcd (x * k) (y * k) : Int) = k := by
    rw [Int.gcd_mul_right, hg]
    omega
  rw [e]
  exact ⟨Int.mul_ediv_cancel _ (by omega), Int.mul_ediv_cancel _ (by omega)⟩
theorem gcd_pos {a b : Int} (h : b ≠ 0) : 0 < (Int.gcd a b : Int) := by
  have := Int.gcd_pos_of_ne_zero_right a h
  omega
theorem low_gcd {a b : Int} (h : b ≠ 0) : Int.gcd (a / (Int.gcd a b : Int)) (b / (Int.gcd a b : Int)) = 1 := by
  have hp := gcd_pos (a := a) h
  have := Int.gcd_ediv (a := a) (b := b) (c := (Int.gcd a b : Int)) (Int.gcd_dvd_left ..) (Int.gcd_dvd_right ..)
  rw [this, Int.natAbs_natCast]
  exact Nat.div_self (by omega)
theorem low_back (a b : Int) : (Int.gcd a b : Int) * (a / (Int.gcd a b : Int)) = a ∧ (Int.gcd a b : Int) * (b / (Int.gcd a b : Int)) = b :=
  ⟨Int.mul_ediv_cancel' (Int.gcd_dvd_left ..), Int.mul_ediv_cancel' (Int.gcd_dvd_right ..)⟩
theorem Near.scale {p q most x y g : Int} (hg : 0 < g) (h : Near (g * p) (g * q) most x y) : Near p q most x y := ⟨h.y0, h.ym, fun u v hv hm => (BE.scale hg).mp (h.best u v hv hm)⟩
/-! how deep the law's own search goes -/
def EL : Nat → Int → Int → Prop
  | 0, p, q => q = 0 ∧ 0 < p
  | n + 1, p, q => 0 < q ∧ EL n q (p % q)
theorem EL_cf : ∀ {l : List Int}, okQ0 l → EL l.length (cf l).1 (cf l).2
  | [], h => h.elim
  | [x], h => by
    rw [cf_one]
    exact ⟨by show (0 : Int) < 1; omega, by show x % 1 = 0; omega, by show (0 : Int) < 1; omega⟩
  | q :: e :: r, h => by
    have ih := EL_cf h.2.zero
    have h2 := okQ.cf h.2
    rw [cf_cons]
    generalize Fl.cf (e :: r) = p at *
    have e := eu (q := q) (by omega : 0 ≤ p.2) h2.2
    exact ⟨by show 0 < p.1; omega, by show EL _ p.1 ((q * p.1 + p.2) % p.1); rw [e.2]; exact ih⟩
def tl (k : Nat) : Nat := k + 1 + (if k % 2 = 0 then 1 else 0)
def th (k : Nat) : Nat := k + 1 + (if k % 2 = 1 then 1 else 0)
/-- what the law's search may be asked of at most n deep -/
structure PD (n : Nat) (a b c d : Int) : Prop where
  a0 : 0 ≤ a
  b0 : 0 < b
  c0 : 0 < c
  d0 : 0 ≤ d
  lt : a * d < c * b
  deep : (∃ k, EL k a b ∧ tl k ≤ n) ∨ (∃ k, EL k c d ∧ th k ≤ n)
theorem PD.zero {a b c d : Int} : ¬ PD 0 a b c d := fun h => by
  rcases h.deep with ⟨k, _, h⟩ | ⟨k, _, h⟩
  · unfold tl at h; omega
  · unfold th at h; omega
theorem PD.next {n : Nat} {a b c d : Int} (h : PD (n + 1) a b c d) (hw : ¬ (a / b + 1) * d < c) : 0 < d ∧ PD n d (c - a / b * d) b (a % b) := by
  have e := Int.emod_add_mul_ediv a b
  have e1 := Int.emod_lt_of_pos a h.b0
  have e2 := Int.emod_nonneg a (show b ≠ 0 by have := h.b0; omega)
  have hb := h.b0
  have hc := h.c0
  have hlt := h.lt
  have hd : 0 < d := by
    rcases Int.lt_or_le 0 d with z | z
    · exact z
    · have : d = 0 := by have := h.d0; omega
      rw [this, Int.mul_zero] at hw
      omega
  have key : 0 < c - a / b * d := by
    have p : 0 ≤ a % b * d := Int.mul_nonneg e2 (by omega)
    have q : b * (c - a / b * d) = c * b - a * d + a % b * d := by grind
    exact pos_of_mul (a := b) (by omega) hb
  refine ⟨hd, by omega, key, hb, e2, ?_, ?_⟩
  · have : b * (c - a / b * d) = c * b - a * d + d * (a % b) := by grind
    omega
  · rcases h.deep with ⟨k, hk, ht⟩ | ⟨k, hk, ht⟩
    · match k, hk with
      | 0, hk => exact absurd hk.1 (by omega)
      | k + 1, hk =>
        refine .inr ⟨k, hk.2, ?_⟩
        unfold tl at ht
        unfold th
        split <;> split at ht <;> omega
    · match k, hk with
      | 0, hk => exact absurd hk.1 (by omega)
      | k + 1, hk =>
        left
        by_cases z : c = (a / b + 1) * d
        · refine ⟨1, ⟨key, ?_, by omega⟩, ?_⟩
          · rw [show c - a / b * d = d by grind, Int.emod_self]
          · have : k = 0 := by
              cases k with
              | zero => rfl
              | succ k =>
                have := hk.2.1
                rw [z, Int.mul_emod_left] at this
                omega
            subst this
            unfold th at ht
            unfold tl
            simp at *
            omega
        · have ec : c % d = c - a / b * d := by
            have p : 0 ≤ c - a / b * d ∧ c - a / b * d < d := ⟨by omega, by
              have : (a / b + 1) * d = a / b * d + d := by grind
              omega⟩
            have := eu (q := a / b) p.1 p.2
            rw [show a / b * d + (c - a / b * d) = c by omega] at this
            exact this.2
          refine ⟨k, by rw [← ec]; exact hk.2, ?_⟩
          unfold th at ht
          unfold tl
          split <;> split at ht <;> omega
theorem Plain.bound {a b c d x y : Int} (h : Plain a b c d x y) (hb : 0 < b) (hd : 0 ≤ d) (hlt : a * d < c * b) : x ≤ a + c ∧ y ≤ b + d :=
  h.min (a + c) (b + d) (by omega) (by grind) (by grind)
end Fl

section
set_option exponentiation.threshold 2000
/-! k43: what each def promises -/
namespace Fl
open PySem PySem.Spec PyProof.Rows L2
def g_LIMIT : Int := 10 ^ 400
def g_MOST_STEPS : Int := 5000
def pP (p : P2) : PV := .tup [.int p.1, .int p.2]
def sS (s : Bool) : PV := .str (if s then "R" else "L")
def pW (w : Bool × Int) : PV := .tup [sS w.1, .int w.2]
def pWs (ws : List (Bool × Int)) : PV := .tup (ws.map pW)
def Sm (x : Int) : Prop := x.natAbs < 2 ^ 4000
def LM (x : Int) : Prop := -g_LIMIT < x ∧ x < g_LIMIT
def okW (ws : List (Bool × Int)) : Prop := (∀ w ∈ ws, 1 ≤ w.2 ∧ w.2 < 2 ^ 40) ∧ alt ws ∧ ws.length ≤ 1000
def lowF (n u : Int) : P2 := if u < 0 then (-(n / (Int.gcd n u : Int)), -(u / (Int.gcd n u : Int))) else (n / (Int.gcd n u : Int), u / (Int.gcd n u : Int))
def sgn (a b : Int) : Int := if b < a then 1 else if a < b then -1 else 0
def rowL (m : Nat) : Nat → Nat → Nat → Nat → Nat → List (Nat × Nat)
  | 0, _, _, _, _ => []
  | n + 1, a1, a2, h1, h2 => bif Nat.beq h1 1 && Nat.beq h2 1 then [] else (h1, h2) :: rowL m n h1 h2 ((m + a2) / h2 * h1 - a1) ((m + a2) / h2 * h2 - a2)
def rowF (m : Nat) : List (Nat × Nat) := (0, 1) :: (rowL m 1200 0 1 1 m ++ [(1, 1)])
def pN (p : Nat × Nat) : PV := .tup [.int p.1, .int p.2]
/-- quotients of the law, few and small -/
def fewQ (l : List Int) : Prop := l.length ≤ 70 ∧ ∀ q ∈ l, 0 ≤ q ∧ q < 131000
def sp_power : PSp := fun args M Q => match args with
  | [.int b, .int e] => (0 ≤ b ∧ b < 2 ^ 300 ∧ 0 ≤ e ∧ e ≤ 31) ∧ Q (.int (b ^ e.toNat)) M
  | _ => False
def sp_checked : PSp := fun args M Q => match args with
  | [.int n] => LM n ∧ Q (.int n) M
  | _ => False
def sp_shared : PSp := fun args M Q => match args with
  | [.int a, .int b] => Q (.int (Int.gcd a b : Int)) M
  | _ => False
def sp_log_of : PSp := fun args M Q => match args with
  | [.int b, .int n] => (2 ≤ b ∧ b < 2 ^ 60 ∧ 1 ≤ n ∧ n < 2 ^ 1000) ∧ ∀ e : Nat, b ^ e ≤ n → n < b ^ (e + 1) → Q (.int e) M
  | _ => False
def sp_root_of : PSp := fun args M Q => match args with
  | [.int n, .int k] => (0 ≤ n ∧ n < 2 ^ 200 ∧ 1 ≤ k ∧ k ≤ 30) ∧ ∀ r : Int, 0 ≤ r → r ^ k.toNat ≤ n → n < (r + 1) ^ k.toNat → Q (.int r) M
  | _ => False
def sp_fraction : PSp := fun args M Q => match args with
  | [.int n, .int u] => (u ≠ 0 ∧ LM n ∧ LM u ∧ (u < 0 → Int.gcd n u < 1000)) ∧ Q (pP (lowF n u)) M
  | _ => False
def sp_is_fraction : PSp := fun args M Q => match args with
  | [.tup [.int p, .int q]] => (0 < q ∧ Int.gcd p q = 1) ∧ Q (.bl true) M
  | _ => False
def sp_known : PSp := fun args M Q => match args with
  | [.tup [.int p, .int q]] => (0 < q ∧ Int.gcd p q = 1) ∧ Q (pP (p, q)) M
  | _ => False
def smP (p q : Int) : Prop := p.natAbs < 2 ^ 600 ∧ 0 < q ∧ q < 2 ^ 600
def sp_plus : PSp := fun args M Q => match args with
  | [.tup [.int a, .int b], .tup [.int c, .int d]] => (smP a b ∧ smP c d) ∧ Q (pP (lowF (a * d + c * b) (b * d))) M
  | _ => False
def sp_minus : PSp := fun args M Q => match args with
  | [.tup [.int a, .int b], .tup [.int c, .int d]] => (smP a b ∧ smP c d) ∧ Q (pP (lowF (a * d - c * b) (b * d))) M
  | _ => False
def sp_times : PSp := fun args M Q => match args with
  | [.tup [.int a, .int b], .tup [.int c, .int d]] => (smP a b ∧ smP c d) ∧ Q (pP (lowF (a * c) (b * d))) M
  | _ => False
def sp_over : PSp := fun args M Q => match args with
  | [.tup [.int a, .int b], .tup [.int c, .int d]] => (smP a b ∧ smP c d ∧ 0 < c) ∧ Q (pP (lowF (a * d) (b * c))) M
  | _ => False
def sp_compared : PSp := fun args M Q => match args with
  | [.tup [.int a, .int b], .tup [.int c, .int d]] => (Sm a ∧ Sm b ∧ Sm c ∧ Sm d) ∧ Q (.int (sgn (a * d) (c * b))) M
  | _ => False
def sp_above_zero : PSp := fun args M Q => match args with
  | [.tup [.int p, .int q]] => (0 < p ∧ 0 < q ∧ Int.gcd p q = 1) ∧ Q (pP (p, q)) M
  | _ => False
def sp_way_to : PSp := fun args M Q => match args with
  | [.tup [.int p, .int q]] => ∃ l, (okQ0 l ∧ fewQ l ∧ cf l = (p, q)) ∧ Q (pWs (wayQ true l)) M
  | _ => False
def sp_end_of : PSp := fun args M Q => match args with
  | [w] => ∃ ws, w = pWs ws ∧ okW ws ∧ Q (pP ((sdW ws).1.1 + (sdW ws).2.1, (sdW ws).1.2 + (sdW ws).2.2)) M
  | _ => False
def sp_check_way : PSp := fun args M Q => match args with
  | [w] => ∃ ws, w = pWs ws ∧ okW ws ∧ Q .non M
  | _ => False
def sp_sides : PSp := fun args M Q => match args with
  | [w] => ∃ ws, w = pWs ws ∧ okW ws ∧ Q (.tup [pP (sdW ws).1, pP (sdW ws).2]) M
  | _ => False
def sp_depth : PSp := fun args M Q => match args with
  | [.tup [.int p, .int q]] => ∃ l, (okQ0 l ∧ fewQ l ∧ cf l = (p, q)) ∧ Q (.int (l.sum - 1)) M
  | _ => False
def sp_middle : PSp := fun args M Q => match args with
  | [.tup [.int a, .int b], .tup [.int c, .int d]] => (0 < b + d ∧ LM (a + c) ∧ LM (b + d) ∧ Int.gcd (a + c) (b + d) = 1) ∧ Q (pP (a + c, b + d)) M
  | _ => False
def sp_are_neighbours : PSp := fun args M Q => match args with
  | [.tup [.int a, .int b], .tup [.int c, .int d]] => (Sm a ∧ Sm b ∧ Sm c ∧ Sm d) ∧ Q (.bl (decide (c * b - a * d = 1))) M
  | _ => False
/-- two fractions above 0, the first less -/
structure Two (a b c d : Int) : Prop where
  a0 : 0 < a
  b0 : 0 < b
  c0 : 0 < c
  d0 : 0 < d
  g1 : Int.gcd a b = 1
  g2 : Int.gcd c d = 1
  lt : a * d < c * b
  sa : a < 2 ^ 1200
  sb : b < 2 ^ 1200
  sc : c < 2 ^ 1200
  sd : d < 2 ^ 1200
def sp_plainest : PSp := fun args M Q => match args with
  | [.tup [.int a, .int b], .tup [.int c, .int d]] => Two a b c d ∧ ∀ x y, Plain a b c d x y → Q (.tup [.str "between", pP (a, b), pP (c, d), pP (x, y)]) M
  | _ => False
def sp__plainest : PSp := fun args M Q => match args with
  | [.tup [.int a, .int b], .tup [.int c, .int d]] => Two a b c d ∧ ∀ x y, Plain a b c d x y → Q (pP (x, y)) M
  | _ => False
def sp__steps : PSp := fun args M Q => match args with
  | [.tup [.int l0, .int l1], .tup [.int r0, .int r1], .tup [.int a, .int b]] => ((Sm l0 ∧ Sm l1 ∧ Sm r0 ∧ Sm r1 ∧ Sm a ∧ Sm b) ∧ 0 < r0 * b - a * r1) ∧ Q (.int ((a * l1 - l0 * b) / (r0 * b - a * r1))) M
  | _ => False
def sp__steps_down : PSp := fun args M Q => match args with
  | [.tup [.int l0, .int l1], .tup [.int r0, .int r1], .tup [.int c, .int d]] => ((Sm l0 ∧ Sm l1 ∧ Sm r0 ∧ Sm r1 ∧ Sm c ∧ Sm d) ∧ 0 < c * l1 - l0 * d) ∧ Q (.int ((r0 * d - c * r1) / (c * l1 - l0 * d))) M
  | _ => False
def sp_row : PSp := fun args M Q => match args with
  | [.int m] => (1 ≤ m ∧ m ≤ 60) ∧ Q (.tup ((rowF m.toNat).map pN)) M
  | _ => False
def sp_nearest : PSp := fun args M Q => match args with
  | [.tup [.int p, .int q], .int m] => (0 ≤ p ∧ p < 2 ^ 100 ∧ 0 < q ∧ q < 2 ^ 100 ∧ Int.gcd p q = 1 ∧ 1 ≤ m ∧ m ≤ 2000) ∧ ∀ x y, Near p q m x y → Int.gcd x y = 1 → Q (pP (x, y)) M
  | _ => False
def sp__nearer : PSp := fun args M Q => match args with
  | [.tup [.int p, .int q], .tup [.int l0, .int l1], .tup [.int h0, .int h1]] => (Sm p ∧ Sm q ∧ Sm l0 ∧ Sm h0 ∧ (-(2 ^ 60) < l1 ∧ l1 < 2 ^ 60) ∧ (-(2 ^ 60) < h1 ∧ h1 < 2 ^ 60)) ∧
      Q (if (p * l1 - l0 * q) * h1 ≤ (h0 * q - p * h1) * l1 then pP (l0, l1) else pP (h0, h1)) M
  | _ => False
def sp_number_of : PSp := fun args M Q => match args with
  | [.tup [.int p, .int q]] => ∃ l, (okQ0 l ∧ fewQ l ∧ cf l = (p, q) ∧ (bitsW (wayQ true l)).length ≤ 1250) ∧ Q (.int (numB (bitsW (wayQ true l)))) M
  | _ => False
def sp_at_number : PSp := fun args M Q => match args with
  | [.int n] => ∃ bs, (n = numB bs ∧ bs.length ≤ 2000) ∧ Q (pP (FB bs)) M
  | _ => False
def sp_next_in_row : PSp := fun args M Q => match args with
  | [.tup [.int p, .int q]] => (0 < p ∧ p < 2 ^ 1200 ∧ 0 < q ∧ q < 2 ^ 1200 ∧ Int.gcd p q = 1) ∧ Q (pP (nextF p q)) M
  | _ => False
def sp__law_shared : PSp := sp_shared
def sp__law_low : PSp := fun args M Q => match args with
  | [.int n, .int u] => (0 < u ∧ Sm u) ∧ Q (pP (n / (Int.gcd n u : Int), u / (Int.gcd n u : Int))) M
  | _ => False
def sp__law_power : PSp := fun args M Q => match args with
  | [.int b, .int e] => (0 ≤ b ∧ 0 ≤ e ∧ e < 2 ^ 40 ∧ b ^ (e.toNat + 1) < 2 ^ 4000 ∧ b < 2 ^ 4000) ∧ Q (.int (b ^ e.toNat)) M
  | _ => False
def sp__law_way : PSp := fun args M Q => match args with
  | [.int p, .int q] => ∃ l, (okQ0 l ∧ fewQ l ∧ cf l = (p, q)) ∧ Q (pWs (wayQ true l)) M
  | _ => False
def sp__law_of_quotients : PSp := fun args M Q => match args with
  | [.lst xs] => ∃ l : List Int, xs = l.map .int ∧ fewQ l ∧ Q (pP (cf l)) M
  | _ => False
def spr__law_plain (n : Nat) : PSp := fun args M Q => match args with
  | [.tup [.int a, .int b], .tup [.int c, .int d]] => (PD n a b c d ∧ Sm a ∧ Sm b ∧ Sm c ∧ Sm d) ∧ ∀ x y, Plain a b c d x y → Q (pP (x, y)) M
  | _ => False
def sp__law_plain : PSp := spr__law_plain 75
def sp__law_ways_right : PSp := spRight
def sp__law_rows_right : PSp := spRight
def sp__law_fractions_right : PSp := spRight
def sp__law_right : PSp := spRight
end Fl

end

namespace Fl
open PySem PySem.Spec PyProof.Rows L2
/-- power: slots 0 base, 1 e, 2 result, 3 left, 4 factor -/
def w_power_1_2 : FS := (sSet 3 (e2 divP (eV 3) (eC (.int 2))))
def w_power_1_1 : FS := (sSeq (sSet 4 (e2 mulA (eV 4) (eV 4))) w_power_1_2)
def c_power_1 : FT := (cB gtA (eV 3) (eC (.int 0)))
def w_power_1 : FS := (sSeq (sIf (cB eqA (e2 modP (eV 3) (eC (.int 2))) (eC (.int 1))) (sSet 2 (e2 mulA (eV 2) (eV 4))) sNil) w_power_1_1)
def t_power_5 : FS := (sRet (eV 2))
def t_power_4 : FS := (sSeq (sWhile c_power_1 w_power_1) t_power_5)
def t_power_3 : FS := (sSeq (sSet 4 (eV 0)) t_power_4)
def t_power_2 : FS := (sSeq (sSet 3 (eV 1)) t_power_3)
def t_power_1 : FS := (sSeq (sSet 2 (eC (.int 1))) t_power_2)
def b_power : FS := (sSeq (sIf (cB ltA (eV 1) (eC (.int 0))) sNever sNil) t_power_1)
/-- checked: slots 0 n -/
def t_checked_1 : FS := (sRet (eV 0))
def b_checked : FS := (sSeq (sIf (cB geA (eN absP (aCons (eV 0) aNil)) (eC (.int g_LIMIT))) sNever sNil) t_checked_1)
/-- shared: slots 0 one, 1 other -/
def c_shared_1 : FT := (cB neA (eV 1) (eC (.int 0)))
def w_shared_1 : FS := (sPar 0 1 (aCons (eV 1) (aCons (e2 modP (eV 0) (eV 1)) aNil)))
def t_shared_2 : FS := (sRet (eV 0))
def t_shared_1 : FS := (sSeq (sWhile c_shared_1 w_shared_1) t_shared_2)
def b_shared : FS := (sSeq (sPar 0 1 (aCons (eN absP (aCons (eV 0) aNil)) (aCons (eN absP (aCons (eV 1) aNil)) aNil))) t_shared_1)
/-- log_of: slots 0 base, 1 n, 2 e, 3 whole -/
def w_log_of_1_1 : FS := (sSet 2 (e2 addP (eV 2) (eC (.int 1))))
def c_log_of_1 : FT := (cB leA (eV 3) (eV 1))
def w_log_of_1 : FS := (sSeq (sSet 3 (e2 mulA (eV 3) (eV 0))) w_log_of_1_1)
def t_log_of_4 : FS := (sRet (eV 2))
def t_log_of_3 : FS := (sSeq (sWhile c_log_of_1 w_log_of_1) t_log_of_4)
def t_log_of_2 : FS := (sSeq (sSet 3 (eV 0)) t_log_of_3)
def t_log_of_1 : FS := (sSeq (sSet 2 (eC (.int 0))) t_log_of_2)
def b_log_of : FS := (sSeq (sIf (tOr2 (cB ltA (eV 1) (eC (.int 1))) (cB ltA (eV 0) (eC (.int 2)))) sNever sNil) t_log_of_1)
/-- root_of: slots 0 n, 1 k, 2 low, 3 high, 4 middle -/
def c_root_of_1 : FT := (cB leA (eCall sp_power (aCons (eV 3) (aCons (eV 1) aNil))) (eV 0))
def w_root_of_1 : FS := (sSet 3 (e2 mulA (eV 3) (eC (.int 2))))
def w_root_of_2_1 : FS := (sIf (cB leA (eCall sp_power (aCons (eV 4) (aCons (eV 1) aNil))) (eV 0)) (sSet 2 (eV 4)) (sSet 3 (eV 4)))
def c_root_of_2 : FT := (cB gtA (e2 subA (eV 3) (eV 2)) (eC (.int 1)))
def w_root_of_2 : FS := (sSeq (sSet 4 (e2 divP (e2 addP (eV 2) (eV 3)) (eC (.int 2)))) w_root_of_2_1)
def t_root_of_4 : FS := (sRet (eV 2))
def t_root_of_3 : FS := (sSeq (sWhile c_root_of_2 w_root_of_2) t_root_of_4)
def t_root_of_2 : FS := (sSeq (sWhile c_root_of_1 w_root_of_1) t_root_of_3)
def t_root_of_1 : FS := (sSeq (sAsg (eTup (aCons (eC (.int 0)) (aCons (eC (.int 1)) aNil))) (gS 2 (gsCons (gN 2) (gsCons (gN 3) gsNil)))) t_root_of_2)
def b_root_of : FS := (sSeq (sIf (tOr2 (cB ltA (eV 0) (eC (.int 0))) (cB ltA (eV 1) (eC (.int 1)))) sNever sNil) t_root_of_1)
/-- fraction: slots 0 number, 1 under, 2 common -/
def t_fraction_3 : FS := (sRet (eTup (aCons (eCall sp_checked (aCons (e2 divX (eV 0) (eV 2)) aNil)) (aCons (eCall sp_checked (aCons (e2 divX (eV 1) (eV 2)) aNil)) aNil))))
def t_fraction_2 : FS := (sSeq (sIf (cB ltA (eV 1) (eC (.int 0))) (sSet 2 (e1 negP (eV 2))) sNil) t_fraction_3)
def t_fraction_1 : FS := (sSeq (sSet 2 (eCall sp_shared (aCons (eV 0) (aCons (eV 1) aNil)))) t_fraction_2)
def b_fraction : FS := (sSeq (sIf (cB eqA (eV 1) (eC (.int 0))) sNever sNil) t_fraction_1)
/-- is_fraction: slots 0 pair -/
def b_is_fraction : FS := (sRet (eAnd (e2 eqA (eN lenP (aCons (eV 0) aNil)) (eC (.int 2))) (eAnd (e2 gtA (e2 ixP (eV 0) (eC (.int 1))) (eC (.int 0))) (e2 eqA (eCall sp_shared (aCons (e2 ixP (eV 0) (eC (.int 0))) (aCons (e2 ixP (eV 0) (eC (.int 1))) aNil))) (eC (.int 1))))))
/-- known: slots 0 pair, 1 found -/
def t_known_2 : FS := (sRet (eV 1))
def t_known_1 : FS := (sSeq (sIf (tNot1 (tTru (eCall sp_is_fraction (aCons (eV 1) aNil)))) sNever sNil) t_known_2)
def b_known : FS := (sSeq (sSet 1 (eN tupP (aCons (eV 0) aNil))) t_known_1)
/-- plus: slots 0 one, 1 other -/
def b_plus : FS := (sRet (eCall sp_fraction (aCons (e2 addP (e2 mulA (e2 ixP (eV 0) (eC (.int 0))) (e2 ixP (eV 1) (eC (.int 1)))) (e2 mulA (e2 ixP (eV 1) (eC (.int 0))) (e2 ixP (eV 0) (eC (.int 1))))) (aCons (e2 mulA (e2 ixP (eV 0) (eC (.int 1))) (e2 ixP (eV 1) (eC (.int 1)))) aNil))))
/-- minus: slots 0 one, 1 other -/
def b_minus : FS := (sRet (eCall sp_fraction (aCons (e2 subA (e2 mulA (e2 ixP (eV 0) (eC (.int 0))) (e2 ixP (eV 1) (eC (.int 1)))) (e2 mulA (e2 ixP (eV 1) (eC (.int 0))) (e2 ixP (eV 0) (eC (.int 1))))) (aCons (e2 mulA (e2 ixP (eV 0) (eC (.int 1))) (e2 ixP (eV 1) (eC (.int 1)))) aNil))))
/-- times: slots 0 one, 1 other -/
def b_times : FS := (sRet (eCall sp_fraction (aCons (e2 mulA (e2 ixP (eV 0) (eC (.int 0))) (e2 ixP (eV 1) (eC (.int 0)))) (aCons (e2 mulA (e2 ixP (eV 0) (eC (.int 1))) (e2 ixP (eV 1) (eC (.int 1)))) aNil))))
/-- over: slots 0 one, 1 other -/
def b_over : FS := (sRet (eCall sp_fraction (aCons (e2 mulA (e2 ixP (eV 0) (eC (.int 0))) (e2 ixP (eV 1) (eC (.int 1)))) (aCons (e2 mulA (e2 ixP (eV 0) (eC (.int 1))) (e2 ixP (eV 1) (eC (.int 0)))) aNil))))
/-- compared: slots 0 one, 1 other, 2 left, 3 right -/
def t_compared_1 : FS := (sRet (e2 subA (e2 gtA (eV 2) (eV 3)) (e2 ltA (eV 2) (eV 3))))
def b_compared : FS := (sSeq (sPar 2 3 (aCons (e2 mulA (e2 ixP (eV 0) (eC (.int 0))) (e2 ixP (eV 1) (eC (.int 1)))) (aCons (e2 mulA (e2 ixP (eV 1) (eC (.int 0))) (e2 ixP (eV 0) (eC (.int 1)))) aNil))) t_compared_1)
/-- above_zero: slots 0 pair, 1 found -/
def t_above_zero_2 : FS := (sRet (eV 1))
def t_above_zero_1 : FS := (sSeq (sIf (cB ltA (e2 ixP (eV 1) (eC (.int 0))) (eC (.int 1))) sNever sNil) t_above_zero_2)
def b_above_zero : FS := (sSeq (sSet 1 (eCall sp_known (aCons (eV 0) aNil))) t_above_zero_1)
/-- way_to: slots 0 pair, 1 number, 2 under, 3 found, 4 side, 5 often -/
def w_way_to_1_3 : FS := (sSet 4 (eIf (cB eqA (eV 4) (eC (.str "R"))) (eC (.str "L")) (eC (.str "R"))))
def w_way_to_1_2 : FS := (sSeq (sIf (cB gtA (eV 5) (eC (.int 0))) (sApp 3 (eTup (aCons (eV 4) (aCons (eV 5) aNil)))) sNil) w_way_to_1_3)
def w_way_to_1_1 : FS := (sSeq (sIf (cB eqA (e2 modP (eV 1) (eV 2)) (eC (.int 0))) (sSeq (sSet 5 (e2 subA (eV 5) (eC (.int 1)))) (sAsg (eTup (aCons (eC (.int 1)) (aCons (eC (.int 0)) aNil))) (gS 2 (gsCons (gN 1) (gsCons (gN 2) gsNil))))) (sPar 1 2 (aCons (eV 2) (aCons (e2 modP (eV 1) (eV 2)) aNil)))) w_way_to_1_2)
def c_way_to_1 : FT := (cB neA (eV 2) (eC (.int 0)))
def w_way_to_1 : FS := (sSeq (sSet 5 (e2 divP (eV 1) (eV 2))) w_way_to_1_1)
def t_way_to_4 : FS := (sRet (eN tupP (aCons (eV 3) aNil)))
def t_way_to_3 : FS := (sSeq (sWhile c_way_to_1 w_way_to_1) t_way_to_4)
def t_way_to_2 : FS := (sSeq (sSet 4 (eC (.str "R"))) t_way_to_3)
def t_way_to_1 : FS := (sSeq (sBld 3 (fLst aNil)) t_way_to_2)
def b_way_to : FS := (sSeq (sAsg (eCall sp_above_zero (aCons (eV 0) aNil)) (gS 2 (gsCons (gN 1) (gsCons (gN 2) gsNil)))) t_way_to_1)
/-- end_of: slots 0 way, 1 low, 2 high, 3 side, 4 often -/
def w_end_of_1 : FS := (sIf (cB eqA (eV 3) (eC (.str "R"))) (sSet 1 (eTup (aCons (e2 addP (e2 ixP (eV 1) (eC (.int 0))) (e2 mulA (eV 4) (e2 ixP (eV 2) (eC (.int 0))))) (aCons (e2 addP (e2 ixP (eV 1) (eC (.int 1))) (e2 mulA (eV 4) (e2 ixP (eV 2) (eC (.int 1))))) aNil)))) (sSet 2 (eTup (aCons (e2 addP (e2 ixP (eV 2) (eC (.int 0))) (e2 mulA (eV 4) (e2 ixP (eV 1) (eC (.int 0))))) (aCons (e2 addP (e2 ixP (eV 2) (eC (.int 1))) (e2 mulA (eV 4) (e2 ixP (eV 1) (eC (.int 1))))) aNil)))))
def t_end_of_3 : FS := (sRet (eTup (aCons (e2 addP (e2 ixP (eV 1) (eC (.int 0))) (e2 ixP (eV 2) (eC (.int 0)))) (aCons (e2 addP (e2 ixP (eV 1) (eC (.int 1))) (e2 ixP (eV 2) (eC (.int 1)))) aNil))))
def t_end_of_2 : FS := (sSeq (sFor (iSeq (eV 0)) (gS 2 (gsCons (gN 3) (gsCons (gN 4) gsNil))) w_end_of_1) t_end_of_3)
def t_end_of_1 : FS := (sSeq (sAsg (eTup (aCons (eTup (aCons (eC (.int 0)) (aCons (eC (.int 1)) aNil))) (aCons (eTup (aCons (eC (.int 1)) (aCons (eC (.int 0)) aNil))) aNil))) (gS 2 (gsCons (gN 1) (gsCons (gN 2) gsNil)))) t_end_of_2)
def b_end_of : FS := (sSeq (sEx (eCall sp_check_way (aCons (eV 0) aNil))) t_end_of_1)
/-- check_way: slots 0 way, 1 side, 2 often, 3 one, 4 other -/
def t_check_way_1 : FS := (sIf (tTru (eN anyP (aCons (eF (fLc (iZip2 (aCons (eV 0) (aCons (eSl (eV 0) (oS (eC (.int 1))) oN) aNil))) (gS 2 (gsCons (gN 3) (gsCons (gN 4) gsNil))) tYs (e2 eqA (e2 ixP (eV 3) (eC (.int 0))) (e2 ixP (eV 4) (eC (.int 0)))) [3, 4])) aNil))) sNever sNil)
def b_check_way : FS := (sSeq (sIf (tTru (eN anyP (aCons (eF (fLc (iSeq (eV 0)) (gS 2 (gsCons (gN 1) (gsCons (gN 2) gsNil))) tYs (eOr (e2 (inA true) (eV 1) (eTup (aCons (eC (.str "L")) (aCons (eC (.str "R")) aNil)))) (e2 ltA (eV 2) (eC (.int 1)))) [1, 2])) aNil))) sNever sNil) t_check_way_1)
/-- sides: slots 0 way, 1 low, 2 high, 3 side, 4 often -/
def w_sides_1 : FS := (sIf (cB eqA (eV 3) (eC (.str "R"))) (sSet 1 (eTup (aCons (e2 addP (e2 ixP (eV 1) (eC (.int 0))) (e2 mulA (eV 4) (e2 ixP (eV 2) (eC (.int 0))))) (aCons (e2 addP (e2 ixP (eV 1) (eC (.int 1))) (e2 mulA (eV 4) (e2 ixP (eV 2) (eC (.int 1))))) aNil)))) (sSet 2 (eTup (aCons (e2 addP (e2 ixP (eV 2) (eC (.int 0))) (e2 mulA (eV 4) (e2 ixP (eV 1) (eC (.int 0))))) (aCons (e2 addP (e2 ixP (eV 2) (eC (.int 1))) (e2 mulA (eV 4) (e2 ixP (eV 1) (eC (.int 1))))) aNil)))))
def t_sides_3 : FS := (sRet (eTup (aCons (eV 1) (aCons (eV 2) aNil))))
def t_sides_2 : FS := (sSeq (sFor (iSeq (eV 0)) (gS 2 (gsCons (gN 3) (gsCons (gN 4) gsNil))) w_sides_1) t_sides_3)
def t_sides_1 : FS := (sSeq (sAsg (eTup (aCons (eTup (aCons (eC (.int 0)) (aCons (eC (.int 1)) aNil))) (aCons (eTup (aCons (eC (.int 1)) (aCons (eC (.int 0)) aNil))) aNil))) (gS 2 (gsCons (gN 1) (gsCons (gN 2) gsNil)))) t_sides_2)
def b_sides : FS := (sSeq (sEx (eCall sp_check_way (aCons (eV 0) aNil))) t_sides_1)
/-- depth: slots 0 pair, 1 side, 2 often -/
def b_depth : FS := (sRet (eN sumP (aCons (eF (fLc (iSeq (eCall sp_way_to (aCons (eV 0) aNil))) (gS 2 (gsCons (gN 1) (gsCons (gN 2) gsNil))) tYs (eV 2) [1, 2])) aNil)))
/-- middle: slots 0 one, 1 other -/
def b_middle : FS := (sRet (eCall sp_fraction (aCons (e2 addP (e2 ixP (eV 0) (eC (.int 0))) (e2 ixP (eV 1) (eC (.int 0)))) (aCons (e2 addP (e2 ixP (eV 0) (eC (.int 1))) (e2 ixP (eV 1) (eC (.int 1)))) aNil))))
/-- are_neighbours: slots 0 one, 1 other -/
def b_are_neighbours : FS := (sRet (e2 eqA (e2 subA (e2 mulA (e2 ixP (eV 1) (eC (.int 0))) (e2 ixP (eV 0) (eC (.int 1)))) (e2 mulA (e2 ixP (eV 0) (eC (.int 0))) (e2 ixP (eV 1) (eC (.int 1))))) (eC (.int 1))))
/-- plainest: slots 0 low, 1 high, 2 one, 3 other -/
def t_plainest_2 : FS := (sRet (eTup (aCons (eC (.str "between")) (aCons (eV 2) (aCons (eV 3) (aCons (eCall sp__plainest (aCons (eV 2) (aCons (eV 3) aNil))) aNil))))))
def t_plainest_1 : FS := (sSeq (sIf (cB geA (eCall sp_compared (aCons (eV 2) (aCons (eV 3) aNil))) (eC (.int 0))) sNever sNil) t_plainest_2)
def b_plainest : FS := (sSeq (sPar 2 3 (aCons (eCall sp_above_zero (aCons (eV 0) aNil)) (aCons (eCall sp_above_zero (aCons (eV 1) aNil)) aNil))) t_plainest_1)
/-- _plainest: slots 0 one, 1 other, 2 left, 3 right, 4 here, 5 often -/
def w__plainest_1_1 : FS := (sIf (cB leA (eCall sp_compared (aCons (eV 4) (aCons (eV 0) aNil))) (eC (.int 0))) (sSeq (sSet 5 (eCall sp__steps (aCons (eV 2) (aCons (eV 3) (aCons (eV 0) aNil))))) (sSet 2 (eTup (aCons (e2 addP (e2 ixP (eV 2) (eC (.int 0))) (e2 mulA (eV 5) (e2 ixP (eV 3) (eC (.int 0))))) (aCons (e2 addP (e2 ixP (eV 2) (eC (.int 1))) (e2 mulA (eV 5) (e2 ixP (eV 3) (eC (.int 1))))) aNil))))) (sIf (cB geA (eCall sp_compared (aCons (eV 4) (aCons (eV 1) aNil))) (eC (.int 0))) (sSeq (sSet 5 (eCall sp__steps_down (aCons (eV 2) (aCons (eV 3) (aCons (eV 1) aNil))))) (sSet 3 (eTup (aCons (e2 addP (e2 ixP (eV 3) (eC (.int 0))) (e2 mulA (eV 5) (e2 ixP (eV 2) (eC (.int 0))))) (aCons (e2 addP (e2 ixP (eV 3) (eC (.int 1))) (e2 mulA (eV 5) (e2 ixP (eV 2) (eC (.int 1))))) aNil))))) (sRet (eV 4))))
def c__plainest_1 : FT := (tTru (eC (.bl true)))
def w__plainest_1 : FS := (sSeq (sSet 4 (eTup (aCons (e2 addP (e2 ixP (eV 2) (eC (.int 0))) (e2 ixP (eV 3) (eC (.int 0)))) (aCons (e2 addP (e2 ixP (eV 2) (eC (.int 1))) (e2 ixP (eV 3) (eC (.int 1)))) aNil)))) w__plainest_1_1)
def t__plainest_1 : FS := (sWhile c__plainest_1 w__plainest_1)
def b__plainest : FS := (sSeq (sAsg (eTup (aCons (eTup (aCons (eC (.int 0)) (aCons (eC (.int 1)) aNil))) (aCons (eTup (aCons (eC (.int 1)) (aCons (eC (.int 0)) aNil))) aNil))) (gS 2 (gsCons (gN 2) (gsCons (gN 3) gsNil)))) t__plainest_1)
/-- _steps: slots 0 left, 1 right, 2 one, 3 gap -/
def t__steps_1 : FS := (sRet (e2 divP (eV 3) (e2 subA (e2 mulA (e2 ixP (eV 1) (eC (.int 0))) (e2 ixP (eV 2) (eC (.int 1)))) (e2 mulA (e2 ixP (eV 2) (eC (.int 0))) (e2 ixP (eV 1) (eC (.int 1)))))))
def b__steps : FS := (sSeq (sSet 3 (e2 subA (e2 mulA (e2 ixP (eV 2) (eC (.int 0))) (e2 ixP (eV 0) (eC (.int 1)))) (e2 mulA (e2 ixP (eV 0) (eC (.int 0))) (e2 ixP (eV 2) (eC (.int 1)))))) t__steps_1)
/-- _steps_down: slots 0 left, 1 right, 2 other, 3 gap -/
def t__steps_down_1 : FS := (sRet (e2 divP (eV 3) (e2 subA (e2 mulA (e2 ixP (eV 2) (eC (.int 0))) (e2 ixP (eV 0) (eC (.int 1)))) (e2 mulA (e2 ixP (eV 0) (eC (.int 0))) (e2 ixP (eV 2) (eC (.int 1)))))))
def b__steps_down : FS := (sSeq (sSet 3 (e2 subA (e2 mulA (e2 ixP (eV 1) (eC (.int 0))) (e2 ixP (eV 2) (eC (.int 1)))) (e2 mulA (e2 ixP (eV 2) (eC (.int 0))) (e2 ixP (eV 1) (eC (.int 1)))))) t__steps_down_1)
/-- row: slots 0 most, 1 found, 2 ahead, 3 here, 4 often -/
def w_row_1_2 : FS := (sPar 2 3 (aCons (eV 3) (aCons (eTup (aCons (e2 subA (e2 mulA (eV 4) (e2 ixP (eV 3) (eC (.int 0)))) (e2 ixP (eV 2) (eC (.int 0)))) (aCons (e2 subA (e2 mulA (eV 4) (e2 ixP (eV 3) (eC (.int 1)))) (e2 ixP (eV 2) (eC (.int 1)))) aNil))) aNil)))
def w_row_1_1 : FS := (sSeq (sSet 4 (e2 divP (e2 addP (eV 0) (e2 ixP (eV 2) (eC (.int 1)))) (e2 ixP (eV 3) (eC (.int 1))))) w_row_1_2)
def c_row_1 : FT := (cB neA (eV 3) (eTup (aCons (eC (.int 1)) (aCons (eC (.int 1)) aNil))))
def w_row_1 : FS := (sSeq (sApp 1 (eV 3)) w_row_1_1)
def t_row_4 : FS := (sRet (eN tupP (aCons (e2 addP (eV 1) (eF (fLst (aCons (eTup (aCons (eC (.int 1)) (aCons (eC (.int 1)) aNil))) aNil)))) aNil)))
def t_row_3 : FS := (sSeq (sWhile c_row_1 w_row_1) t_row_4)
def t_row_2 : FS := (sSeq (sPar 2 3 (aCons (eTup (aCons (eC (.int 0)) (aCons (eC (.int 1)) aNil))) (aCons (eTup (aCons (eC (.int 1)) (aCons (eV 0) aNil))) aNil))) t_row_3)
def t_row_1 : FS := (sSeq (sBld 1 (fLst (aCons (eTup (aCons (eC (.int 0)) (aCons (eC (.int 1)) aNil))) aNil))) t_row_2)
def b_row : FS := (sSeq (sIf (tNot1 (cCh leA leA (eC (.int 1)) (eV 0) (eC (.int 60)))) sNever sNil) t_row_1)
/-- nearest: slots 0 pair, 1 most, 2 number, 3 under, 4 whole, 5 low, 6 high, 7 step, 8 here -/
def w_nearest_1_2 : FS := (sIf (cB geA (eCall sp_compared (aCons (eTup (aCons (eV 2) (aCons (eV 3) aNil))) (aCons (eV 8) aNil))) (eC (.int 0))) (sSet 5 (eV 8)) (sSet 6 (eV 8)))
def w_nearest_1_1 : FS := (sSeq (sIf (cB gtA (e2 ixP (eV 8) (eC (.int 1))) (eV 1)) (sRet (eCall sp__nearer (aCons (eTup (aCons (eV 2) (aCons (eV 3) aNil))) (aCons (eV 5) (aCons (eV 6) aNil))))) sNil) w_nearest_1_2)
def w_nearest_1 : FS := (sSeq (sSet 8 (eTup (aCons (e2 addP (e2 ixP (eV 5) (eC (.int 0))) (e2 ixP (eV 6) (eC (.int 0)))) (aCons (e2 addP (e2 ixP (eV 5) (eC (.int 1))) (e2 ixP (eV 6) (eC (.int 1)))) aNil)))) w_nearest_1_1)
def t_nearest_6 : FS := sNever
def t_nearest_5 : FS := (sSeq (sFor (iR1 (aCons (eC (.int g_MOST_STEPS)) aNil)) (gN 7) w_nearest_1) t_nearest_6)
def t_nearest_4 : FS := (sSeq (sPar 5 6 (aCons (eTup (aCons (eV 4) (aCons (eC (.int 1)) aNil))) (aCons (eTup (aCons (e2 addP (eV 4) (eC (.int 1))) (aCons (eC (.int 1)) aNil))) aNil))) t_nearest_5)
def t_nearest_3 : FS := (sSeq (sSet 4 (e2 divP (eV 2) (eV 3))) t_nearest_4)
def t_nearest_2 : FS := (sSeq (sIf (tNot1 (cCh leA leA (eC (.int 1)) (eV 1) (eC (.int 2000)))) sNever sNil) t_nearest_3)
def t_nearest_1 : FS := (sSeq (sIf (cB ltA (eV 2) (eC (.int 0))) sNever sNil) t_nearest_2)
def b_nearest : FS := (sSeq (sAsg (eCall sp_known (aCons (eV 0) aNil)) (gS 2 (gsCons (gN 2) (gsCons (gN 3) gsNil)))) t_nearest_1)
/-- _nearer: slots 0 pair, 1 low, 2 high, 3 down, 4 up -/
def t__nearer_2 : FS := (sRet (eIf (cB leA (eV 3) (eV 4)) (eV 1) (eV 2)))
def t__nearer_1 : FS := (sSeq (sSet 4 (e2 mulA (e2 subA (e2 mulA (e2 ixP (eV 2) (eC (.int 0))) (e2 ixP (eV 0) (eC (.int 1)))) (e2 mulA (e2 ixP (eV 0) (eC (.int 0))) (e2 ixP (eV 2) (eC (.int 1))))) (e2 ixP (eV 1) (eC (.int 1))))) t__nearer_2)
def b__nearer : FS := (sSeq (sSet 3 (e2 mulA (e2 subA (e2 mulA (e2 ixP (eV 0) (eC (.int 0))) (e2 ixP (eV 1) (eC (.int 1)))) (e2 mulA (e2 ixP (eV 1) (eC (.int 0))) (e2 ixP (eV 0) (eC (.int 1))))) (e2 ixP (eV 2) (eC (.int 1))))) t__nearer_1)
/-- number_of: slots 0 pair, 1 whole, 2 side, 3 often, 4 step -/
def w_number_of_2_1 : FS := (sIf (cB geA (eV 1) (eC (.int g_LIMIT))) sNever sNil)
def w_number_of_2 : FS := (sSeq (sSet 1 (e2 addP (e2 mulA (eC (.int 2)) (eV 1)) (eIf (cB eqA (eV 2) (eC (.str "R"))) (eC (.int 1)) (eC (.int 0))))) w_number_of_2_1)
def w_number_of_1 : FS := (sFor (iR1 (aCons (eV 3) aNil)) (gN 4) w_number_of_2)
def t_number_of_2 : FS := (sRet (eV 1))
def t_number_of_1 : FS := (sSeq (sFor (iRev (eCall sp_way_to (aCons (eV 0) aNil))) (gS 2 (gsCons (gN 2) (gsCons (gN 3) gsNil))) w_number_of_1) t_number_of_2)
def b_number_of : FS := (sSeq (sSet 1 (eC (.int 1))) t_number_of_1)
/-- at_number: slots 0 n, 1 one, 2 other, 3 bits, 4 left, 5 bit -/
def w_at_number_1_1 : FS := (sSet 4 (e2 divP (eV 4) (eC (.int 2))))
def c_at_number_1 : FT := (cB gtA (eV 4) (eC (.int 1)))
def w_at_number_1 : FS := (sSeq (sApp 3 (e2 modP (eV 4) (eC (.int 2)))) w_at_number_1_1)
def w_at_number_2 : FS := (sIf (cB eqA (eV 5) (eC (.int 1))) (sPar 1 2 (aCons (e2 addP (eV 1) (eV 2)) (aCons (eV 2) aNil))) (sPar 1 2 (aCons (eV 1) (aCons (e2 addP (eV 1) (eV 2)) aNil))))
def t_at_number_6 : FS := (sRet (eTup (aCons (eV 1) (aCons (eV 2) aNil))))
def t_at_number_5 : FS := (sSeq (sFrz 3 (sFor (iRev (eV 3)) (gN 5) w_at_number_2)) t_at_number_6)
def t_at_number_4 : FS := (sSeq (sWhile c_at_number_1 w_at_number_1) t_at_number_5)
def t_at_number_3 : FS := (sSeq (sSet 4 (eV 0)) t_at_number_4)
def t_at_number_2 : FS := (sSeq (sBld 3 (fLst aNil)) t_at_number_3)
def t_at_number_1 : FS := (sSeq (sAsg (eTup (aCons (eC (.int 1)) (aCons (eC (.int 1)) aNil))) (gS 2 (gsCons (gN 1) (gsCons (gN 2) gsNil)))) t_at_number_2)
def b_at_number : FS := (sSeq (sIf (cB ltA (eV 0) (eC (.int 1))) sNever sNil) t_at_number_1)
/-- next_in_row: slots 0 pair, 1 number, 2 under -/
def t_next_in_row_1 : FS := (sRet (eCall sp_fraction (aCons (eV 2) (aCons (e2 subA (e2 addP (e2 mulA (e2 mulA (eC (.int 2)) (e2 divP (eV 1) (eV 2))) (eV 2)) (eV 2)) (eV 1)) aNil))))
def b_next_in_row : FS := (sSeq (sAsg (eCall sp_above_zero (aCons (eV 0) aNil)) (gS 2 (gsCons (gN 1) (gsCons (gN 2) gsNil)))) t_next_in_row_1)
/-- _law_shared: slots 0 one, 1 other, 2 left, 3 right -/
def c__law_shared_1 : FT := (cB neA (eV 3) (eC (.int 0)))
def w__law_shared_1 : FS := (sPar 2 3 (aCons (eV 3) (aCons (e2 modP (eV 2) (eV 3)) aNil)))
def t__law_shared_2 : FS := (sRet (eV 2))
def t__law_shared_1 : FS := (sSeq (sWhile c__law_shared_1 w__law_shared_1) t__law_shared_2)
def b__law_shared : FS := (sSeq (sPar 2 3 (aCons (eN absP (aCons (eV 0) aNil)) (aCons (eN absP (aCons (eV 1) aNil)) aNil))) t__law_shared_1)
/-- _law_low: slots 0 number, 1 under, 2 common -/
def t__law_low_1 : FS := (sRet (eTup (aCons (e2 divP (eV 0) (eV 2)) (aCons (e2 divP (eV 1) (eV 2)) aNil))))
def b__law_low : FS := (sSeq (sSet 2 (eCall sp__law_shared (aCons (eV 0) (aCons (eV 1) aNil)))) t__law_low_1)
/-- _law_power: slots 0 base, 1 e, 2 whole, 3 step -/
def w__law_power_1 : FS := (sSet 2 (e2 mulA (eV 2) (eV 0)))
def t__law_power_2 : FS := (sRet (eV 2))
def t__law_power_1 : FS := (sSeq (sFor (iR1 (aCons (eV 1) aNil)) (gN 3) w__law_power_1) t__law_power_2)
def b__law_power : FS := (sSeq (sSet 2 (eC (.int 1))) t__law_power_1)
/-- _law_way: slots 0 number, 1 under, 2 found, 3 top, 4 low, 5 side, 6 often -/
def w__law_way_1_2 : FS := (sPar3 3 4 5 (aCons (eV 4) (aCons (e2 modP (eV 3) (eV 4)) (aCons (e2 subA (eC (.int 1)) (eV 5)) aNil))))
def w__law_way_1_1 : FS := (sSeq (sIf (cB gtA (eV 6) (eC (.int 0))) (sApp 2 (eTup (aCons (e2 ixP (eF (fLst (aCons (eC (.str "R")) (aCons (eC (.str "L")) aNil)))) (eV 5)) (aCons (eV 6) aNil)))) sNil) w__law_way_1_2)
def c__law_way_1 : FT := (cB neA (eV 4) (eC (.int 0)))
def w__law_way_1 : FS := (sSeq (sSet 6 (e2 subA (e2 divP (eV 3) (eV 4)) (eN intP (aCons (e2 eqA (e2 modP (eV 3) (eV 4)) (eC (.int 0))) aNil)))) w__law_way_1_1)
def t__law_way_2 : FS := (sRet (eN tupP (aCons (eV 2) aNil)))
def t__law_way_1 : FS := (sSeq (sWhile c__law_way_1 w__law_way_1) t__law_way_2)
def b__law_way : FS := (sSeq (sMx [2, 3, 4, 5] (mF (fLst aNil) (mV (eV 0) (mV (eV 1) (mV (eC (.int 0)) aNil))))) t__law_way_1)
/-- _law_of_quotients: slots 0 quotients, 1 top, 2 low, 3 quotient -/
def w__law_of_quotients_1 : FS := (sPar 1 2 (aCons (e2 addP (e2 mulA (eV 3) (eV 1)) (eV 2)) (aCons (eV 1) aNil)))
def t__law_of_quotients_2 : FS := (sRet (eTup (aCons (eV 1) (aCons (eV 2) aNil))))
def t__law_of_quotients_1 : FS := (sSeq (sFor (iSeq (e1 revP (eV 0))) (gN 3) w__law_of_quotients_1) t__law_of_quotients_2)
def b__law_of_quotients : FS := (sSeq (sAsg (eTup (aCons (eC (.int 1)) (aCons (eC (.int 0)) aNil))) (gS 2 (gsCons (gN 1) (gsCons (gN 2) gsNil)))) t__law_of_quotients_1)
/-- _law_plain: slots 0 low, 1 high, 2 whole, 3 inner -/
def t__law_plain_3 : FS := (sRet (eTup (aCons (e2 addP (e2 mulA (eV 2) (e2 ixP (eV 3) (eC (.int 0)))) (e2 ixP (eV 3) (eC (.int 1)))) (aCons (e2 ixP (eV 3) (eC (.int 0))) aNil))))
def t__law_plain_2 (rc : PSp) : FS := (sSeq (sSet 3 (eCall rc (aCons (eTup (aCons (e2 ixP (eV 1) (eC (.int 1))) (aCons (e2 subA (e2 ixP (eV 1) (eC (.int 0))) (e2 mulA (eV 2) (e2 ixP (eV 1) (eC (.int 1))))) aNil))) (aCons (eTup (aCons (e2 ixP (eV 0) (eC (.int 1))) (aCons (e2 modP (e2 ixP (eV 0) (eC (.int 0))) (e2 ixP (eV 0) (eC (.int 1)))) aNil))) aNil)))) t__law_plain_3)
def t__law_plain_1 (rc : PSp) : FS := (sSeq (sIf (cB ltA (e2 mulA (e2 addP (eV 2) (eC (.int 1))) (e2 ixP (eV 1) (eC (.int 1)))) (e2 ixP (eV 1) (eC (.int 0)))) (sRet (eTup (aCons (e2 addP (eV 2) (eC (.int 1))) (aCons (eC (.int 1)) aNil)))) sNil) (t__law_plain_2 rc))
def b__law_plain (rc : PSp) : FS := (sSeq (sSet 2 (e2 divP (e2 ixP (eV 0) (eC (.int 0))) (e2 ixP (eV 0) (eC (.int 1))))) (t__law_plain_1 rc))
/-- _law_ways_right: slots 0 source, 1 quotients, 2 turn, 3 pair, 4 way, 5 steps, 6 low, 7 high, 8 side, 9 often, 10 rows, 11 number, 12 bits, 13 bit, 14 other, 15 above -/
def w__law_ways_right_1 : FS := (sApp 1 (e2 addP (eC (.int 1)) (e2 ixP (eF (fLst (aCons (eCall sp__law_pick (aCons (eV 0) (aCons (eC (.int 3)) aNil))) (aCons (eCall sp__law_pick (aCons (eV 0) (aCons (e2 powP (eC (.int 10)) (eC (.int 5))) aNil))) aNil)))) (e2 divP (eCall sp__law_pick (aCons (eV 0) (aCons (eC (.int 5)) aNil))) (eC (.int 4))))))
def w__law_ways_right_2 : FS := (sIf (cB eqA (eV 8) (eC (.str "R"))) (sSet 6 (eTup (aCons (e2 addP (e2 ixP (eV 6) (eC (.int 0))) (e2 mulA (eV 9) (e2 ixP (eV 7) (eC (.int 0))))) (aCons (e2 addP (e2 ixP (eV 6) (eC (.int 1))) (e2 mulA (eV 9) (e2 ixP (eV 7) (eC (.int 1))))) aNil)))) (sSet 7 (eTup (aCons (e2 addP (e2 ixP (eV 7) (eC (.int 0))) (e2 mulA (eV 9) (e2 ixP (eV 6) (eC (.int 0))))) (aCons (e2 addP (e2 ixP (eV 7) (eC (.int 1))) (e2 mulA (eV 9) (e2 ixP (eV 6) (eC (.int 1))))) aNil)))))
def w__law_ways_right_3 : FS := (sSet 12 (e2 addP (eV 12) (e2 mulA (eF (fLst (aCons (eN intP (aCons (e2 eqA (eV 8) (eC (.str "R"))) aNil)) aNil))) (eV 9))))
def w__law_ways_right_4 : FS := (sSet 11 (e2 addP (e2 mulA (eC (.int 2)) (eV 11)) (eV 13)))
def t__law_ways_right_17 : FS := (sRet (eCall sp__law_all_same (aCons (eV 10) aNil)))
def t__law_ways_right_16 : FS := (sSeq (sIf (tAnd2 (cB gtA (e2 ixP (eV 6) (eC (.int 0))) (eC (.int 0))) (cB gtA (e2 ixP (eV 7) (eC (.int 1))) (eC (.int 0)))) (sSet 10 (e2 addP (eV 10) (eF (fLst (aCons (eTup (aCons (eCall sp_middle (aCons (eV 6) (aCons (eV 7) aNil))) (aCons (eV 3) aNil))) aNil))))) sNil) t__law_ways_right_17)
def t__law_ways_right_15 : FS := (sSeq (sSet 10 (e2 addP (eV 10) (eF (fLst (aCons (eTup (aCons (eCall sp_plainest (aCons (eV 3) (aCons (eV 15) aNil))) (aCons (eTup (aCons (eC (.str "between")) (aCons (eV 3) (aCons (eV 15) (aCons (eCall sp__law_plain (aCons (eV 3) (aCons (eV 15) aNil))) aNil))))) aNil))) aNil))))) t__law_ways_right_16)
def t__law_ways_right_14 : FS := (sSeq (sSet 15 (eCall sp__law_low (aCons (e2 ixP (eV 14) (eC (.int 0))) (aCons (e2 ixP (eV 14) (eC (.int 1))) aNil)))) t__law_ways_right_15)
def t__law_ways_right_13 : FS := (sSeq (sSet 14 (eTup (aCons (e2 addP (e2 addP (e2 mulA (e2 ixP (eV 3) (eC (.int 0))) (e2 powP (eC (.int 10)) (eC (.int 6)))) (eC (.int 1))) (eCall sp__law_pick (aCons (eV 0) (aCons (e2 powP (eC (.int 10)) (eC (.int 6))) aNil)))) (aCons (e2 mulA (e2 ixP (eV 3) (eC (.int 1))) (e2 powP (eC (.int 10)) (eC (.int 6)))) aNil)))) t__law_ways_right_14)
def t__law_ways_right_12 : FS := (sSeq (sIf (cB leA (eV 5) (eC (.int 1200))) (sSeq (sPar 11 12 (aCons (eC (.int 1)) (aCons (eF (fLst aNil)) aNil))) (sSeq (sFor (iSeq (eV 4)) (gS 2 (gsCons (gN 8) (gsCons (gN 9) gsNil))) w__law_ways_right_3) (sSeq (sFor (iSeq (e1 revP (eV 12))) (gN 13) w__law_ways_right_4) (sSet 10 (e2 addP (eV 10) (eF (fLst (aCons (eTup (aCons (eCall sp_number_of (aCons (eV 3) aNil)) (aCons (eV 11) aNil))) (aCons (eTup (aCons (eCall sp_at_number (aCons (eV 11) aNil)) (aCons (eV 3) aNil))) (aCons (eTup (aCons (eCall sp_at_number (aCons (e2 addP (eV 11) (eC (.int 1))) aNil)) (aCons (eCall sp_next_in_row (aCons (eV 3) aNil)) aNil))) aNil)))))))))) sNil) t__law_ways_right_13)
def t__law_ways_right_11 : FS := (sSeq (sSet 10 (e2 addP (eV 10) (eF (fLst (aCons (eTup (aCons (eCall sp_way_to (aCons (eTup (aCons (e2 ixP (eV 3) (eC (.int 1))) (aCons (e2 ixP (eV 3) (eC (.int 0))) aNil))) aNil)) (aCons (eN tupP (aCons (eF (fLc (iSeq (eV 4)) (gS 2 (gsCons (gN 8) (gsCons (gN 9) gsNil))) tYs (eTup (aCons (e2 ixP (eF (fLst (aCons (eC (.str "R")) (aCons (eC (.str "L")) aNil)))) (eN intP (aCons (e2 eqA (eV 8) (eC (.str "R"))) aNil))) (aCons (eV 9) aNil))) [8, 9])) aNil)) aNil))) aNil))))) t__law_ways_right_12)
def t__law_ways_right_10 : FS := (sSeq (sSet 10 (e2 addP (eV 10) (eF (fLst (aCons (eTup (aCons (eCall sp_are_neighbours (aCons (eV 6) (aCons (eV 3) aNil))) (aCons (eC (.bl true)) aNil))) (aCons (eTup (aCons (eCall sp_are_neighbours (aCons (eV 3) (aCons (eV 7) aNil))) (aCons (eC (.bl true)) aNil))) (aCons (eTup (aCons (eCall sp_are_neighbours (aCons (eV 3) (aCons (eV 6) aNil))) (aCons (eC (.bl false)) aNil))) aNil))))))) t__law_ways_right_11)
def t__law_ways_right_9 : FS := (sSeq (sSet 10 (e2 addP (eV 10) (eF (fLst (aCons (eTup (aCons (eCall sp_next_in_row (aCons (eV 3) aNil)) (aCons (eCall sp__law_low (aCons (e2 ixP (eV 3) (eC (.int 1))) (aCons (e2 subA (e2 addP (e2 mulA (e2 mulA (eC (.int 2)) (e2 divP (e2 ixP (eV 3) (eC (.int 0))) (e2 ixP (eV 3) (eC (.int 1))))) (e2 ixP (eV 3) (eC (.int 1)))) (e2 ixP (eV 3) (eC (.int 1)))) (e2 ixP (eV 3) (eC (.int 0)))) aNil))) aNil))) aNil))))) t__law_ways_right_10)
def t__law_ways_right_8 : FS := (sSeq (sSet 10 (eF (fLst (aCons (eTup (aCons (eCall sp_way_to (aCons (eV 3) aNil)) (aCons (eV 4) aNil))) (aCons (eTup (aCons (eCall sp_end_of (aCons (eV 4) aNil)) (aCons (eV 3) aNil))) (aCons (eTup (aCons (eCall sp_sides (aCons (eV 4) aNil)) (aCons (eTup (aCons (eV 6) (aCons (eV 7) aNil))) aNil))) (aCons (eTup (aCons (eCall sp_depth (aCons (eV 3) aNil)) (aCons (eV 5) aNil))) (aCons (eTup (aCons (eCall sp_depth (aCons (eTup (aCons (e2 ixP (eV 3) (eC (.int 1))) (aCons (e2 ixP (eV 3) (eC (.int 0))) aNil))) aNil)) (aCons (eV 5) aNil))) aNil)))))))) t__law_ways_right_9)
def t__law_ways_right_7 : FS := (sSeq (sFor (iSeq (eV 4)) (gS 2 (gsCons (gN 8) (gsCons (gN 9) gsNil))) w__law_ways_right_2) t__law_ways_right_8)
def t__law_ways_right_6 : FS := (sSeq (sAsg (eTup (aCons (eTup (aCons (eC (.int 0)) (aCons (eC (.int 1)) aNil))) (aCons (eTup (aCons (eC (.int 1)) (aCons (eC (.int 0)) aNil))) aNil))) (gS 2 (gsCons (gN 6) (gsCons (gN 7) gsNil)))) t__law_ways_right_7)
def t__law_ways_right_5 : FS := (sSeq (sSet 5 (e2 subA (eN sumP (aCons (eV 1) aNil)) (eC (.int 1)))) t__law_ways_right_6)
def t__law_ways_right_4 : FS := (sSeq (sSet 4 (eCall sp__law_way (aCons (e2 ixP (eV 3) (eC (.int 0))) (aCons (e2 ixP (eV 3) (eC (.int 1))) aNil)))) t__law_ways_right_5)
def t__law_ways_right_3 : FS := (sSeq (sSet 3 (eCallB sp__law_of_quotients (aCons (eV 1) aNil))) t__law_ways_right_4)
def t__law_ways_right_2 : FS := (sSeq (sApp 1 (e2 addP (eC (.int 2)) (eCall sp__law_pick (aCons (eV 0) (aCons (eC (.int 9)) aNil))))) t__law_ways_right_3)
def t__law_ways_right_1 : FS := (sSeq (sFor (iR1 (aCons (eCall sp__law_pick (aCons (eV 0) (aCons (eC (.int 60)) aNil))) aNil)) (gN 2) w__law_ways_right_1) t__law_ways_right_2)
def b__law_ways_right : FS := (sSeq (sBld 1 (fLst (aCons (eCall sp__law_pick (aCons (eV 0) (aCons (eC (.int 4)) aNil))) aNil))) t__law_ways_right_1)
/-- _law_rows_right: slots 0 source, 1 most, 2 told, 3 count, 4 under, 5 bottom, 6 top, 7 pair, 8 best, 9 low, 10 high, 11 far, 12 least, 13 whole, 14 k -/
def w__law_rows_right_1 : FS := (sSet 3 (e2 addP (eV 3) (eN lenP (aCons (eF (fLc (iR2 (aCons (eC (.int 1)) (aCons (e2 addP (eV 4) (eC (.int 1))) aNil))) (gN 6) (cB eqA (eCall sp__law_shared (aCons (eV 6) (aCons (eV 4) aNil))) (eC (.int 1))) (eV 6) [6])) aNil))))
def w__law_rows_right_3_1 : FS := (sIf (tOr2 (cB ltA (eV 11) (eV 12)) (tAnd2 (cB eqA (eV 11) (eV 12)) (cB ltA (e2 mulA (eV 10) (e2 ixP (eV 8) (eC (.int 1)))) (e2 mulA (e2 ixP (eV 8) (eC (.int 0))) (eV 9))))) (sSet 8 (eTup (aCons (eV 10) (aCons (eV 9) aNil)))) sNil)
def w__law_rows_right_3 : FS := (sSeq (sPar 11 12 (aCons (e2 mulA (eN absP (aCons (e2 subA (e2 mulA (eV 6) (eV 9)) (e2 mulA (eV 10) (eV 4))) aNil)) (e2 ixP (eV 8) (eC (.int 1)))) (aCons (e2 mulA (eN absP (aCons (e2 subA (e2 mulA (eV 6) (e2 ixP (eV 8) (eC (.int 1)))) (e2 mulA (e2 ixP (eV 8) (eC (.int 0))) (eV 4))) aNil)) (eV 9)) aNil))) w__law_rows_right_3_1)
def w__law_rows_right_2 : FS := (sFor (iSeq (eTup (aCons (e2 divP (e2 mulA (eV 6) (eV 9)) (eV 4)) (aCons (e2 addP (e2 divP (e2 mulA (eV 6) (eV 9)) (eV 4)) (eC (.int 1))) aNil)))) (gN 10) w__law_rows_right_3)
def t__law_rows_right_11 : FS := (sRet (eCall sp__law_all_same (aCons (eF (fLst (aCons (eTup (aCons (eN lenP (aCons (eV 2) aNil)) (aCons (eV 3) aNil))) (aCons (eTup (aCons (eCall sp_nearest (aCons (eV 7) (aCons (eV 5) aNil))) (aCons (eCall sp__law_low (aCons (e2 ixP (eV 8) (eC (.int 0))) (aCons (e2 ixP (eV 8) (eC (.int 1))) aNil))) aNil))) (aCons (eTup (aCons (eCall sp_nearest (aCons (eTup (aCons (e2 addP (e2 mulA (eC (.int 2)) (eV 13)) (eC (.int 1))) (aCons (eC (.int 2)) aNil))) (aCons (eC (.int 1)) aNil))) (aCons (eTup (aCons (eV 13) (aCons (eC (.int 1)) aNil))) aNil))) aNil))))) aNil)))
def t__law_rows_right_10 : FS := (sSeq (sSet 13 (eCall sp__law_pick (aCons (eV 0) (aCons (eC (.int 1000)) aNil)))) t__law_rows_right_11)
def t__law_rows_right_9 : FS := (sSeq (sFor (iR2 (aCons (eC (.int 1)) (aCons (e2 addP (eV 5) (eC (.int 1))) aNil))) (gN 9) w__law_rows_right_2) t__law_rows_right_10)
def t__law_rows_right_8 : FS := (sSeq (sSet 8 (eTup (aCons (e2 divP (eV 6) (eV 4)) (aCons (eC (.int 1)) aNil)))) t__law_rows_right_9)
def t__law_rows_right_7 : FS := (sSeq (sSet 7 (eCall sp__law_low (aCons (eV 6) (aCons (eV 4) aNil)))) t__law_rows_right_8)
def t__law_rows_right_6 : FS := (sSeq (sAsg (eTup (aCons (eCall sp__law_pick (aCons (eV 0) (aCons (e2 powP (eC (.int 10)) (eC (.int 6))) aNil))) (aCons (e2 addP (eC (.int 1)) (eCall sp__law_pick (aCons (eV 0) (aCons (e2 powP (eC (.int 10)) (eC (.int 5))) aNil)))) aNil))) (gS 2 (gsCons (gN 6) (gsCons (gN 4) gsNil)))) t__law_rows_right_7)
def t__law_rows_right_5 : FS := (sSeq (sSet 5 (e2 ixP (eF (fLst (aCons (e2 addP (eC (.int 1)) (eCall sp__law_pick (aCons (eV 0) (aCons (eC (.int 60)) aNil)))) (aCons (e2 addP (eC (.int 1)) (eCall sp__law_pick (aCons (eV 0) (aCons (eC (.int 2000)) aNil)))) aNil)))) (eCall sp__law_pick (aCons (eV 0) (aCons (eC (.int 2)) aNil))))) t__law_rows_right_6)
def t__law_rows_right_4 : FS := (sSeq (sFor (iR2 (aCons (eC (.int 1)) (aCons (e2 addP (eV 1) (eC (.int 1))) aNil))) (gN 4) w__law_rows_right_1) t__law_rows_right_5)
def t__law_rows_right_3 : FS := (sSeq (sSet 3 (eC (.int 1))) t__law_rows_right_4)
def t__law_rows_right_2 : FS := (sSeq (sIf (tOr2 (cB neA (e2 ixP (eV 2) (eC (.int 0))) (eTup (aCons (eC (.int 0)) (aCons (eC (.int 1)) aNil)))) (tOr2 (cB neA (e2 ixP (eV 2) (e2 subA (eN lenP (aCons (eV 2) aNil)) (eC (.int 1)))) (eTup (aCons (eC (.int 1)) (aCons (eC (.int 1)) aNil)))) (cB neA (eF (fLc (iR2 (aCons (eC (.int 1)) (aCons (eN lenP (aCons (eV 2) aNil)) aNil))) (gN 14) (tOr2 (tNot1 (tTru (eCall sp_are_neighbours (aCons (e2 ixP (eV 2) (e2 subA (eV 14) (eC (.int 1)))) (aCons (e2 ixP (eV 2) (eV 14)) aNil))))) (cB gtA (e2 ixP (e2 ixP (eV 2) (eV 14)) (eC (.int 1))) (eV 1))) (eV 14) [14])) (eF (fLst aNil))))) (sRet (eC (.bl false))) sNil) t__law_rows_right_3)
def t__law_rows_right_1 : FS := (sSeq (sSet 2 (eCall sp_row (aCons (eV 1) aNil))) t__law_rows_right_2)
def b__law_rows_right : FS := (sSeq (sSet 1 (e2 addP (eC (.int 1)) (eCall sp__law_pick (aCons (eV 0) (aCons (eC (.int 60)) aNil))))) t__law_rows_right_1)
/-- _law_fractions_right: slots 0 source, 1 one, 2 other, 3 a, 4 b, 5 c, 6 d, 7 less, 8 sign, 9 due, 10 rows, 11 n, 12 k, 13 base, 14 root, 15 e, 16 whole -/
def t__law_fractions_right_12 : FS := (sRet (eAnd (eCall sp__law_all_same (aCons (eV 10) aNil)) (eAnd (eT (cCh leA ltA (eCall sp__law_power (aCons (eV 14) (aCons (eV 12) aNil))) (eV 11) (eCall sp__law_power (aCons (e2 addP (eV 14) (eC (.int 1))) (aCons (eV 12) aNil))))) (eT (cCh leA ltA (eV 16) (eV 11) (e2 mulA (eV 16) (eV 13)))))))
def t__law_fractions_right_11 : FS := (sSeq (sSet 16 (eCall sp__law_power (aCons (eV 13) (aCons (eV 15) aNil)))) t__law_fractions_right_12)
def t__law_fractions_right_10 : FS := (sSeq (sPar 14 15 (aCons (eCall sp_root_of (aCons (eV 11) (aCons (eV 12) aNil))) (aCons (eCall sp_log_of (aCons (eV 13) (aCons (eV 11) aNil))) aNil))) t__law_fractions_right_11)
def t__law_fractions_right_9 : FS := (sSeq (sPar3 11 12 13 (aCons (e2 addP (e2 addP (eC (.int 1)) (e2 mulA (eCall sp__law_pick (aCons (eV 0) (aCons (e2 powP (eC (.int 10)) (eC (.int 8))) aNil))) (e2 powP (eC (.int 10)) (eC (.int 50))))) (eCall sp__law_pick (aCons (eV 0) (aCons (e2 powP (eC (.int 10)) (eC (.int 8))) aNil)))) (aCons (e2 addP (eC (.int 1)) (eCall sp__law_pick (aCons (eV 0) (aCons (eC (.int 30)) aNil)))) (aCons (e2 addP (eC (.int 2)) (eCall sp__law_pick (aCons (eV 0) (aCons (e2 powP (eC (.int 10)) (eC (.int 4))) aNil)))) aNil)))) t__law_fractions_right_10)
def t__law_fractions_right_8 : FS := (sSeq (sSet 10 (e2 addP (eV 10) (eF (fLst (aCons (eTup (aCons (eCall sp_over (aCons (eTup (aCons (e2 subA (eC (.int 0)) (eV 3)) (aCons (eV 4) aNil))) (aCons (eV 2) aNil))) (aCons (eTup (aCons (e2 subA (eC (.int 0)) (e2 ixP (eCall sp__law_low (aCons (e2 mulA (eV 3) (eV 6)) (aCons (e2 mulA (eV 4) (eV 5)) aNil))) (eC (.int 0)))) (aCons (e2 ixP (eCall sp__law_low (aCons (e2 mulA (eV 3) (eV 6)) (aCons (e2 mulA (eV 4) (eV 5)) aNil))) (eC (.int 1))) aNil))) aNil))) aNil))))) t__law_fractions_right_9)
def t__law_fractions_right_7 : FS := (sSeq (sSet 10 (e2 addP (eV 10) (eF (fLst (aCons (eTup (aCons (eCall sp_fraction (aCons (e2 subA (eC (.int 0)) (e2 mulA (eV 3) (eC (.int 7)))) (aCons (e2 subA (eC (.int 0)) (e2 mulA (eV 4) (eC (.int 7)))) aNil))) (aCons (eV 1) aNil))) (aCons (eTup (aCons (eCall sp_fraction (aCons (e2 mulA (eV 3) (eC (.int 7))) (aCons (e2 subA (eC (.int 0)) (e2 mulA (eV 4) (eC (.int 7)))) aNil))) (aCons (eTup (aCons (e2 subA (eC (.int 0)) (eV 3)) (aCons (eV 4) aNil))) aNil))) (aCons (eTup (aCons (eCall sp_minus (aCons (eV 1) (aCons (eV 1) aNil))) (aCons (eTup (aCons (eC (.int 0)) (aCons (eC (.int 1)) aNil))) aNil))) (aCons (eTup (aCons (eCall sp_over (aCons (eV 1) (aCons (eV 1) aNil))) (aCons (eTup (aCons (eC (.int 1)) (aCons (eC (.int 1)) aNil))) aNil))) aNil)))))))) t__law_fractions_right_8)
def t__law_fractions_right_6 : FS := (sSeq (sSet 10 (e2 addP (eV 10) (eF (fLst (aCons (eTup (aCons (eCall sp_over (aCons (eV 1) (aCons (eV 2) aNil))) (aCons (eCall sp__law_low (aCons (e2 mulA (eV 3) (eV 6)) (aCons (e2 mulA (eV 4) (eV 5)) aNil))) aNil))) (aCons (eTup (aCons (eCall sp_compared (aCons (eV 1) (aCons (eV 2) aNil))) (aCons (eV 8) aNil))) aNil)))))) t__law_fractions_right_7)
def t__law_fractions_right_5 : FS := (sSeq (sSet 10 (eF (fLst (aCons (eTup (aCons (eCall sp_plus (aCons (eV 1) (aCons (eV 2) aNil))) (aCons (eCall sp__law_low (aCons (e2 addP (e2 mulA (eV 3) (eV 6)) (e2 mulA (eV 5) (eV 4))) (aCons (e2 mulA (eV 4) (eV 6)) aNil))) aNil))) (aCons (eTup (aCons (eCall sp_minus (aCons (eV 1) (aCons (eV 2) aNil))) (aCons (eTup (aCons (e2 mulA (e2 ixP (eV 9) (eC (.int 0))) (eV 8)) (aCons (e2 ixP (eV 9) (eC (.int 1))) aNil))) aNil))) (aCons (eTup (aCons (eCall sp_times (aCons (eV 1) (aCons (eV 2) aNil))) (aCons (eCall sp__law_low (aCons (e2 mulA (eV 3) (eV 5)) (aCons (e2 mulA (eV 4) (eV 6)) aNil))) aNil))) aNil)))))) t__law_fractions_right_6)
def t__law_fractions_right_4 : FS := (sSeq (sSet 9 (eCall sp__law_low (aCons (eN absP (aCons (eV 7) aNil)) (aCons (e2 mulA (eV 4) (eV 6)) aNil)))) t__law_fractions_right_5)
def t__law_fractions_right_3 : FS := (sSeq (sSet 8 (e2 subA (eN intP (aCons (e2 gtA (eV 7) (eC (.int 0))) aNil)) (eN intP (aCons (e2 ltA (eV 7) (eC (.int 0))) aNil)))) t__law_fractions_right_4)
def t__law_fractions_right_2 : FS := (sSeq (sSet 7 (e2 subA (e2 mulA (eV 3) (eV 6)) (e2 mulA (eV 5) (eV 4)))) t__law_fractions_right_3)
def t__law_fractions_right_1 : FS := (sSeq (sAsg (eTup (aCons (e2 ixP (eV 1) (eC (.int 0))) (aCons (e2 ixP (eV 1) (eC (.int 1))) (aCons (e2 ixP (eV 2) (eC (.int 0))) (aCons (e2 ixP (eV 2) (eC (.int 1))) aNil))))) (gS 4 (gsCons (gN 3) (gsCons (gN 4) (gsCons (gN 5) (gsCons (gN 6) gsNil)))))) t__law_fractions_right_2)
def b__law_fractions_right : FS := (sSeq (sPar 1 2 (aCons (eCall sp__law_low (aCons (e2 addP (eC (.int 1)) (e2 mulA (eCall sp__law_pick (aCons (eV 0) (aCons (e2 powP (eC (.int 10)) (eC (.int 8))) aNil))) (e2 powP (eC (.int 10)) (eC (.int 40))))) (aCons (e2 addP (eC (.int 1)) (eCall sp__law_pick (aCons (eV 0) (aCons (e2 powP (eC (.int 10)) (eC (.int 8))) aNil)))) aNil))) (aCons (eCall sp__law_low (aCons (e2 addP (eC (.int 1)) (eCall sp__law_pick (aCons (eV 0) (aCons (e2 powP (eC (.int 10)) (eC (.int 8))) aNil)))) (aCons (e2 addP (eC (.int 1)) (e2 mulA (eCall sp__law_pick (aCons (eV 0) (aCons (e2 powP (eC (.int 10)) (eC (.int 8))) aNil))) (e2 powP (eC (.int 10)) (eC (.int 60))))) aNil))) aNil))) t__law_fractions_right_1)
/-- _law_right: slots 0 source -/
def b__law_right : FS := (sRet (eAnd (eCall sp__law_ways_right (aCons (eV 0) aNil)) (eAnd (eCall sp__law_rows_right (aCons (eV 0) aNil)) (eCall sp__law_fractions_right (aCons (eV 0) aNil)))))
/-- law: slots 0 script, 1 k -/
def w_law_1 : FS := (sIf (tNot1 (tTru (eCallN sp__law_right sp__law_source (aCons (eCall sp__law_cell (aCons (eV 0) (aCons (eV 1) aNil))) (aCons (eV 1) aNil))))) (sRet (eC (.bl false))) sNil)
def t_law_1 : FS := (sRet (eC (.bl true)))
def b_law : FS := (sSeq (sFor (iR1 (aCons (e2 addP (eN minP (aCons (eN lenP (aCons (eV 0) aNil)) (aCons (eC (.int 4)) aNil))) (eC (.int 2))) aNil)) (gN 1) w_law_1) t_law_1)

end Fl

section
set_option exponentiation.threshold 6000
namespace Fl
open PySem PySem.Spec PyProof.Rows L2
theorem pow_le {b : Int} (hb : 0 ≤ b) {i j : Nat} (h : i ≤ j) {K : Nat} (hj : b ^ j < 2 ^ K) (hK : 0 < K) : (b ^ i).natAbs < 2 ^ K := by
  have h0 : 0 ≤ b ^ i := Int.pow_nonneg hb
  have h1 : b ^ i < 2 ^ K := by
    by_cases hz : b = 0
    · rw [hz]
      have : (0 : Int) ^ i ≤ 1 := by
        cases i with
        | zero => rw [Int.pow_zero]; omega
        | succ i => rw [Int.pow_succ, Int.mul_zero]; omega
      have h2 : (2 : Int) ^ 1 ≤ 2 ^ K := ipow_right (by omega) hK
      omega
    · exact Int.lt_of_le_of_lt (ipow_right (by omega) h) hj
  have h2 : ((2 ^ K : Nat) : Int) = 2 ^ K := by rw [Int.natCast_pow]; rfl
  omega
theorem pow_loop {b : Int} {D : FEnds} {M : Sto} {x1 : Option EV} {e K : Nat} (hb : 0 ≤ b) (hK : 0 < K ∧ K ≤ 1048576) (hs : b ^ (2 * e) < 2 ^ K) : ∀ (k L r f : Nat), L ≤ k → r + f * L = e →
    (∀ x4, D.nx [some (.v (.int b)), x1, some (.v (.int (b ^ e))), some (.v (.int 0)), x4] M) →
    whP c_power_1 w_power_1 D (k + 1) [some (.v (.int b)), x1, some (.v (.int (b ^ r))), some (.v (.int L)), some (.v (.int (b ^ f)))] M
  | k, L, r, f, hk, hr, q => by
    refine ⟨fun h => ?_, fun h => ?_⟩
    · have h := gtD h
      match k, hk with
      | 0, hk => omega
      | k + 1, hk =>
        have hf : f ≤ e := by
          have : f * 1 ≤ f * L := Nat.mul_le_mul_left _ (by omega)
          omega
        have hr2 : r ≤ e := by omega
        have m1 : IntMulOk (b ^ r) (b ^ f) := mul_b hK.2 (pow_le hb (by omega) hs hK.1) (pow_le hb (by omega) hs hK.1)
        have m2 : IntMulOk (b ^ f) (b ^ f) := mul_b hK.2 (pow_le hb (by omega) hs hK.1) (pow_le hb (by omega) hs hK.1)
        have e2 : b ^ f * b ^ f = b ^ (2 * f) := by rw [← Int.pow_add]; congr 1; omega
        have e3 : b ^ r * b ^ f = b ^ (r + f) := by rw [← Int.pow_add]
        have e4 : ((L : Int) / 2) = ((L / 2 : Nat) : Int) := by omega
        refine ⟨by omega, fun h2 => ?_, fun h2 => ?_⟩
        · have h2 := eqD h2
          refine ⟨m1, m2, dv (by omega) (by omega), ?_⟩
          have ih := pow_loop hb hK hs k (L / 2) (r + f) (2 * f) (by omega) (by
            have : L = 2 * (L / 2) + 1 := by omega
            have e5 : f * L = 2 * f * (L / 2) + f := by
              rw [show 2 * f * (L / 2) = f * (2 * (L / 2)) by rw [Nat.mul_comm 2 f, Nat.mul_assoc]]
              rw [← Nat.mul_succ]
              congr 1
            omega) q
          rw [← e2, ← e3, ← e4] at ih
          exact ih
        · have h2 := eqN h2
          refine ⟨m2, dv (by omega) (by omega), ?_⟩
          have ih := pow_loop hb hK hs k (L / 2) r (2 * f) (by omega) (by
            have : L = 2 * (L / 2) := by omega
            have e5 : f * L = 2 * f * (L / 2) := by
              rw [show 2 * f * (L / 2) = f * (2 * (L / 2)) by rw [Nat.mul_comm 2 f, Nat.mul_assoc]]
              congr 1
            omega) q
          rw [← e2, ← e4] at ih
          exact ih
    · have h := gtN h
      have e0 : L = 0 := by omega
      subst e0
      rw [Nat.mul_zero, Nat.add_zero] at hr
      subst hr
      exact q _

theorem l_power : ∀ args M Q, sp_power args M Q → args.length = 2 ∧ b_power (fE Q) (fr0 3 args) M := fun args M Q h => by
  match args, h with
  | [.int b, .int e], ⟨⟨h1, h2, h3, h4⟩, hq⟩ =>
    refine ⟨rfl, fun h => ?_, fun _ => ⟨e.toNat + 1, ?_⟩⟩
    · have := of_decide_eq_true h
      omega
    · have hs : b ^ (2 * e.toNat) < 2 ^ 20000 := by
        have a1 : b ^ (2 * e.toNat) ≤ (2 ^ 300) ^ (2 * e.toNat) := ipow_left h1 (by omega) _
        have a2 : ((2 : Int) ^ 300) ^ (2 * e.toNat) ≤ (2 ^ 300) ^ 62 := ipow_right (by decide) (by omega)
        have a3 : ((2 : Int) ^ 300) ^ 62 < 2 ^ 20000 := by decide +kernel
        omega
      have := pow_loop (D := { fE Q with nx := sRet (eV 2) (fE Q) }) (M := M) (x1 := some (.v (.int e))) h1 ⟨(by omega : 0 < 20000), by omega⟩ hs e.toNat e.toNat 0 1 (Nat.le_refl _) (by omega) fun x4 => hq
      rw [Int.pow_zero, Int.pow_succ, Int.pow_zero, Int.one_mul, show ((e.toNat : Nat) : Int) = e by omega] at this
      exact this
theorem l_checked : ∀ args M Q, sp_checked args M Q → args.length = 1 ∧ b_checked (fE Q) (fr0 0 args) M := fun args M Q h => by
  match args, h with
  | [.int n], ⟨⟨h1, h2⟩, hq⟩ =>
    refine ⟨rfl, fun h => ?_, fun _ => hq⟩
    have h := of_decide_eq_true h
    split at h <;> omega
theorem gcd_step (a b : Int) (hb : 0 < b) : Int.gcd b (a % b) = Int.gcd a b := by
  rw [Int.gcd_comm a b]
  conv => rhs; rw [← Int.emod_add_mul_ediv a b]
  rw [Int.mul_comm b (a / b), Int.gcd_add_mul_right_right]
theorem shared_loop {D : FEnds} {M : Sto} : ∀ (k : Nat) (a b : Int), b.toNat ≤ k → 0 ≤ a → 0 ≤ b → D.nx [some (.v (.int (Int.gcd a b : Int))), some (.v (.int 0))] M →
    whP c_shared_1 w_shared_1 D (k + 1) [some (.v (.int a)), some (.v (.int b))] M
  | k, a, b, hk, ha, hb, q => by
    refine ⟨fun h => ?_, fun h => ?_⟩
    · have h := eqN (nT h)
      match k, hk with
      | 0, hk => omega
      | k + 1, hk =>
        have h1 := Int.emod_lt_of_pos a (show 0 < b by omega)
        have h2 := Int.emod_nonneg a h
        exact ⟨by omega, shared_loop k b (a % b) (by omega) hb h2 (by rw [gcd_step a b (by omega)]; exact q)⟩
    · have h := eqD (nF h)
      subst h
      rw [Int.gcd_zero_right, show ((a.natAbs : Nat) : Int) = a by omega] at q
      exact q
theorem abI (i : Int) : (if i < 0 then -i else i) = (i.natAbs : Int) := by split <;> omega
theorem l_shared : ∀ args M Q, sp_shared args M Q → args.length = 2 ∧ b_shared (fE Q) (fr0 0 args) M := fun args M Q h => by
  match args, h with
  | [.int a, .int b], hq =>
    have hq : Q (.int (Int.gcd a b : Int)) M := hq
    have := shared_loop (D := { fE Q with nx := t_shared_2 (fE Q) }) (M := M) b.natAbs (a.natAbs : Int) (b.natAbs : Int) (by omega) (by omega) (by omega) (by
      rw [show Int.gcd (a.natAbs : Int) (b.natAbs : Int) = Int.gcd a b from by rw [Int.gcd_eq_natAbs_gcd_natAbs, Int.gcd_eq_natAbs_gcd_natAbs, Int.natAbs_natCast, Int.natAbs_natCast]]
      exact hq)
    rw [← abI, ← abI] at this
    exact ⟨rfl, _, this⟩
theorem mulS {x y : Int} (hx : Sm x) (hy : Sm y) : IntMulOk x y := mul_b (K := 4000) (by omega) hx hy
theorem dvN {j : Int} {K : Nat} (hK : K ≤ 9000) (h1 : 0 < j) (h2 : j.natAbs < 2 ^ K) : 0 < j ∧ j.natAbs.log2 < 9000 := ⟨h1, by
  have h3 : j.natAbs ≠ 0 := by omega
  have := (Nat.log2_lt (k := K) h3).mpr h2
  omega⟩
theorem log_loop {b n : Int} {D : FEnds} {M : Sto} (hb : 2 ≤ b ∧ b < 2 ^ 60) (hD : ∀ e : Nat, b ^ e ≤ n → n < b ^ (e + 1) → D.nx [some (.v (.int b)), some (.v (.int n)), some (.v (.int e)), some (.v (.int (b ^ (e + 1))))] M) :
    ∀ (k e : Nat), n < b ^ (e + k) → b ^ e ≤ n → whP c_log_of_1 w_log_of_1 D (k + 1) [some (.v (.int b)), some (.v (.int n)), some (.v (.int e)), some (.v (.int (b ^ (e + 1))))] M
  | k, e, hk, he => by
    refine ⟨fun h => ?_, fun h => ?_⟩
    · have h : b ^ (e + 1) ≤ n := of_decide_eq_true h
      match k, hk with
      | 0, hk => rw [Nat.add_zero] at hk; omega
      | k + 1, hk =>
        have ih := log_loop hb hD k (e + 1) (by rw [show e + 1 + k = e + (k + 1) by omega]; exact hk) h
        rw [Int.pow_succ b (e + 1), show ((e + 1 : Nat) : Int) = (e : Int) + 1 by omega] at ih
        exact ⟨mul_r (by omega) (by omega), ih⟩
    · have h : ¬ b ^ (e + 1) ≤ n := of_decide_eq_false h
      exact hD e he (by omega)
theorem l_log_of : ∀ args M Q, sp_log_of args M Q → args.length = 2 ∧ b_log_of (fE Q) (fr0 2 args) M := fun args M Q h => by
  match args, h with
  | [.int b, .int n], ⟨⟨h1, h2, h3, h4⟩, hq⟩ =>
    refine ⟨rfl, fun h => absurd (of_decide_eq_true h : n < 1) (by omega), fun _ => ⟨fun h => absurd (of_decide_eq_true h : b < 2) (by omega), fun _ => ⟨1001, ?_⟩⟩⟩
    have hk : n < b ^ (0 + 1000) := by
      have : (2 : Int) ^ 1000 ≤ b ^ 1000 := ipow_left (by omega) h1 1000
      rw [Nat.zero_add]
      omega
    have := log_loop (D := { fE Q with nx := t_log_of_4 (fE Q) }) (M := M) ⟨h1, h2⟩ (fun e h1 h2 => hq e h1 h2) 1000 0 hk (by rw [Int.pow_zero]; omega)
    rw [Nat.zero_add, Int.pow_succ, Int.pow_zero, Int.one_mul] at this
    exact this
/-- root_of: up by twos, then halves -/
theorem up_loop {n k : Int} {D : FEnds} {M : Sto} (hk : 1 ≤ k ∧ k ≤ 30) (hn : n < 2 ^ 200) (hD : ∀ hi : Int, 1 ≤ hi → hi ≤ 2 ^ 210 → n < hi ^ k.toNat → D.nx [some (.v (.int n)), some (.v (.int k)), some (.v (.int 0)), some (.v (.int hi)), none] M) :
    ∀ (j e : Nat), j + e = 201 → whP c_root_of_1 w_root_of_1 D (j + 1) [some (.v (.int n)), some (.v (.int k)), some (.v (.int 0)), some (.v (.int (2 ^ e))), none] M
  | j, e, hj => by
    have hp : (2 : Int) ^ e ≤ 2 ^ 201 := ipow_right (by omega) (by omega)
    have hp1 : (1 : Int) ≤ 2 ^ e := by
      have := ipow_right (show (1 : Int) ≤ 2 by omega) (Nat.zero_le e)
      rw [Int.pow_zero] at this
      exact this
    have hp2 : (2 : Int) ^ 201 < 2 ^ 300 := by decide +kernel
    refine ⟨⟨by omega, by omega, by omega, by omega⟩, fun h => ?_, fun h => ?_⟩
    · have h : (2 ^ e : Int) ^ k.toNat ≤ n := of_decide_eq_true h
      match j, hj with
      | 0, hj =>
        have e1 : (2 ^ e : Int) ^ 1 ≤ (2 ^ e) ^ k.toNat := ipow_right hp1 (by omega)
        rw [Int.pow_succ, Int.pow_zero, Int.one_mul, show e = 201 by omega] at e1
        have : (2 : Int) ^ 200 ≤ 2 ^ 201 := by decide +kernel
        rw [show e = 201 by omega] at h
        omega
      | j + 1, hj =>
        have ih := up_loop hk hn hD j (e + 1) (by omega)
        rw [Int.pow_succ] at ih
        exact ⟨mul_r (by omega) (by omega), ih⟩
    · have h : ¬ (2 ^ e : Int) ^ k.toNat ≤ n := of_decide_eq_false h
      have : (2 : Int) ^ 201 ≤ 2 ^ 210 := by decide +kernel
      exact hD _ hp1 (by omega) (by omega)
theorem half_loop {n k : Int} {D : FEnds} {M : Sto} (hk : 1 ≤ k ∧ k ≤ 30) (hD : ∀ r x y, 0 ≤ r → r ^ k.toNat ≤ n → n < (r + 1) ^ k.toNat → D.nx [some (.v (.int n)), some (.v (.int k)), some (.v (.int r)), x, y] M) :
    ∀ (j : Nat) (lo hi : Int) (x4 : Option EV), (hi - lo).toNat ≤ j → 0 ≤ lo → lo < hi → hi ≤ 2 ^ 210 → lo ^ k.toNat ≤ n → n < hi ^ k.toNat → whP c_root_of_2 w_root_of_2 D (j + 1) [some (.v (.int n)), some (.v (.int k)), some (.v (.int lo)), some (.v (.int hi)), x4] M
  | j, lo, hi, x4, hj, h0, h1, hb, hlo, hhi => by
    refine ⟨fun h => ?_, fun h => ?_⟩
    · have h : 1 < hi - lo := of_decide_eq_true h
      match j, hj with
      | 0, hj => omega
      | j + 1, hj =>
        have hb2 : (2 : Int) ^ 210 < 2 ^ 300 := by decide +kernel
        refine ⟨dv (by omega) (by omega), ⟨by omega, by omega, by omega, by omega⟩, fun h2 => ?_, fun h2 => ?_⟩
        · exact half_loop hk hD j ((lo + hi) / 2) hi _ (by omega) (by omega) (by omega) hb (of_decide_eq_true h2) hhi
        · have h2 : ¬ ((lo + hi) / 2) ^ k.toNat ≤ n := of_decide_eq_false h2
          exact half_loop hk hD j lo ((lo + hi) / 2) _ (by omega) (by omega) (by omega) (by omega) hlo (by omega)
    · have h : ¬ 1 < hi - lo := of_decide_eq_false h
      exact hD lo _ _ h0 hlo (by rw [show lo + 1 = hi by omega]; exact hhi)
theorem l_root_of : ∀ args M Q, sp_root_of args M Q → args.length = 2 ∧ b_root_of (fE Q) (fr0 3 args) M := fun args M Q h => by
  match args, h with
  | [.int n, .int k], ⟨⟨h1, h2, h3, h4⟩, hq⟩ =>
    refine ⟨rfl, fun h => absurd (of_decide_eq_true h : n < 0) (by omega), fun _ => ⟨fun h => absurd (of_decide_eq_true h : k < 1) (by omega), fun _ => ⟨rfl, 202, ?_⟩⟩⟩
    have := up_loop (D := { fE Q with nx := t_root_of_3 (fE Q) }) (M := M) ⟨h3, h4⟩ h2 (fun hi p1 p2 p3 => ⟨(hi - 0).toNat + 1, half_loop (D := { fE Q with nx := t_root_of_4 (fE Q) }) (M := M) ⟨h3, h4⟩ (fun r x y r0 r1 r2 => hq r r0 r1 r2) (hi - 0).toNat 0 hi none (Nat.le_refl _) (Int.le_refl _) (by omega) p2 (by
      rw [show k.toNat = (k.toNat - 1) + 1 by omega, Int.pow_succ, Int.mul_zero]
      exact h1) p3⟩) 201 0 (by omega)
    rw [Int.pow_zero] at this
    exact this
theorem LM_nat {x : Int} (h : LM x) : x.natAbs < 2 ^ 1400 := by
  have : g_LIMIT < 2 ^ 1400 := by unfold g_LIMIT; decide +kernel
  obtain ⟨h1, h2⟩ := h
  omega
theorem gcd_le {n u : Int} (hu : u ≠ 0) : (Int.gcd n u) ≤ u.natAbs := by
  rw [Int.gcd_eq_natAbs_gcd_natAbs]
  exact Nat.gcd_le_right _ (by omega)
theorem div_LM {x g : Int} (h : LM x) (hg : 0 < g) : LM (x / g) := by
  obtain ⟨h1, h2⟩ := h
  have e1 := Int.emod_add_mul_ediv x g
  have e2 := Int.emod_nonneg x (show g ≠ 0 by omega)
  have e3 := Int.emod_lt_of_pos x hg
  constructor
  · rcases Int.lt_or_le (x / g) 0 with z | z
    · have : g * (x / g) ≤ 1 * (x / g) := Int.mul_le_mul_of_nonpos_right (by omega) (by omega)
      by_cases hm : x % g = 0
      · omega
      · have : g * (x / g + 1) ≤ 1 * (x / g + 1) := Int.mul_le_mul_of_nonpos_right (by omega) (by omega)
        rw [Int.mul_add] at this
        omega
    · have : 0 < g_LIMIT := by unfold g_LIMIT; decide +kernel
      omega
  · rcases Int.lt_or_le (x / g) 0 with z | z
    · have : 0 < g_LIMIT := by unfold g_LIMIT; decide +kernel
      omega
    · have : 1 * (x / g) ≤ g * (x / g) := Int.mul_le_mul_of_nonneg_right (by omega) z
      omega
theorem fdiv_neg {x g : Int} (h : g ∣ x) : x.fdiv (-g) = -(x / g) := by
  obtain ⟨k, rfl⟩ := h
  by_cases z : g = 0
  · subst z; simp
  · rw [Int.mul_ediv_cancel_left _ z, show g * k = (-g) * (-k) by grind, Int.mul_fdiv_cancel_left _ (by omega)]
theorem l_fraction : ∀ args M Q, sp_fraction args M Q → args.length = 2 ∧ b_fraction (fE Q) (fr0 1 args) M := fun args M Q h => by
  match args, h with
  | [.int n, .int u], ⟨⟨h1, h2, h3, h4⟩, hq⟩ =>
    have hg := gcd_pos (a := n) h1
    have hl := gcd_le (n := n) h1
    have hs : (Int.gcd n u : Int).natAbs < 2 ^ 1400 := by
      have := LM_nat h3
      omega
    have hd := dvN (K := 1400) (by omega) hg hs
    refine ⟨rfl, fun h => absurd (eqD h) h1, fun _ => ⟨fun h => ?_, fun h => ?_⟩⟩
    · have hu : u < 0 := of_decide_eq_true h
      have h4 := h4 hu
      have e1 := fdiv_neg (x := n) (g := (Int.gcd n u : Int)) (Int.gcd_dvd_left ..)
      have e2 := fdiv_neg (x := u) (g := (Int.gcd n u : Int)) (Int.gcd_dvd_right ..)
      have c1 := div_LM h2 hg
      have c2 := div_LM h3 hg
      refine .inr ⟨⟨by omega, by omega⟩, ?_, .inr ⟨⟨by omega, by omega⟩, ?_, ?_⟩⟩
      · rw [e1]; exact ⟨by have := c1.2; omega, by have := c1.1; omega⟩
      · rw [e2]; exact ⟨by have := c2.2; omega, by have := c2.1; omega⟩
      · unfold lowF at hq
        rw [if_pos hu] at hq
        rw [e1, e2]
        exact hq
    · have hu : ¬ u < 0 := of_decide_eq_false h
      unfold lowF at hq
      rw [if_neg hu] at hq
      exact .inl ⟨hd, div_LM h2 hg, .inl ⟨hd, div_LM h3 hg, hq⟩⟩
theorem l_is_fraction : ∀ args M Q, sp_is_fraction args M Q → args.length = 1 ∧ b_is_fraction (fE Q) (fr0 0 args) M := fun args M Q h => by
  match args, h with
  | [.tup [.int p, .int q]], ⟨⟨h1, h2⟩, hq⟩ =>
    refine ⟨rfl, trivial, fun _ => ⟨_, rfl, trivial, fun _ => ⟨_, rfl, _, rfl, ?_⟩, fun h => ?_⟩, fun h => ?_⟩
    · show Q (.bl (decide ((Int.gcd p q : Int) = 1))) M
      rw [h2]
      exact hq
    · have : decide (0 < q) = false := h
      rw [decide_eq_true h1] at this
      cases this
    · cases h
theorem l_known : ∀ args M Q, sp_known args M Q → args.length = 1 ∧ b_known (fE Q) (fr0 1 args) M := fun args M Q h => by
  match args, h with
  | [.tup [.int p, .int q]], ⟨⟨h1, h2⟩, hq⟩ =>
    exact ⟨rfl, ⟨h1, h2⟩, trivial, fun h => (nomatch h), fun _ => hq⟩
end Fl

end

section
set_option exponentiation.threshold 20000
namespace Fl
open PySem PySem.Spec PyProof.Rows L2
theorem pow_e (K : Nat) : ((2 ^ K : Nat) : Int) = 2 ^ K := by rw [Int.natCast_pow]; rfl
theorem nab {x : Int} {K : Nat} (h1 : -(2 ^ K) < x) (h2 : x < 2 ^ K) : x.natAbs < 2 ^ K := by
  have := pow_e K
  omega
theorem bna {x : Int} {K : Nat} (h : x.natAbs < 2 ^ K) : -(2 ^ K) < x ∧ x < 2 ^ K := by
  have := pow_e K
  omega
theorem mul_bits {x y : Int} {K L : Nat} (hx : x.natAbs < 2 ^ K) (hy : y.natAbs < 2 ^ L) : (x * y).natAbs < 2 ^ (K + L) := by
  rw [Int.natAbs_mul, Nat.pow_add]
  exact Nat.mul_lt_mul'' hx hy
theorem bits_up {x : Int} {K L : Nat} (h : x.natAbs < 2 ^ K) (hl : K ≤ L) : x.natAbs < 2 ^ L := Nat.lt_of_lt_of_le h (Nat.pow_le_pow_right (by omega) hl)
theorem add_bits {x y : Int} {K : Nat} (hx : x.natAbs < 2 ^ K) (hy : y.natAbs < 2 ^ K) : (x + y).natAbs < 2 ^ (K + 1) := by
  rw [Nat.pow_succ]; omega
theorem sub_bits {x y : Int} {K : Nat} (hx : x.natAbs < 2 ^ K) (hy : y.natAbs < 2 ^ K) : (x - y).natAbs < 2 ^ (K + 1) := by
  rw [Nat.pow_succ]; omega
theorem LM_of {x : Int} (h : x.natAbs < 2 ^ 1300) : LM x := by
  have : (2 : Int) ^ 1300 < g_LIMIT := by unfold g_LIMIT; decide +kernel
  have := bna h
  constructor <;> omega
theorem Sm_of {x : Int} {K : Nat} (h : x.natAbs < 2 ^ K) (hK : K ≤ 4000 := by omega) : Sm x := bits_up h hK
theorem smP.q {p q : Int} (h : smP p q) : q.natAbs < 2 ^ 600 := nab (by have := h.2.1; omega) h.2.2
/-- the four products -/
theorem four {a b c d : Int} (h : smP a b) (h' : smP c d) : IntMulOk a d ∧ IntMulOk c b ∧ IntMulOk b d ∧ IntMulOk a c ∧ IntMulOk b c ∧ (a * d).natAbs < 2 ^ 1200 ∧ (c * b).natAbs < 2 ^ 1200 ∧ (b * d).natAbs < 2 ^ 1200 ∧ (a * c).natAbs < 2 ^ 1200 ∧ (b * c).natAbs < 2 ^ 1200 ∧ 0 < b * d := by
  have hb := h.q
  have hd := h'.q
  have ha := h.1
  have hc := h'.1
  have m : ∀ {x y : Int}, x.natAbs < 2 ^ 600 → y.natAbs < 2 ^ 600 → IntMulOk x y := fun hx hy => mul_b (K := 600) (by omega) hx hy
  exact ⟨m ha hd, m hc hb, m hb hd, m ha hc, m hb hc, mul_bits ha hd, mul_bits hc hb, mul_bits hb hd, mul_bits ha hc, mul_bits hb hc, Int.mul_pos h.2.1 h'.2.1⟩
theorem l_plus : ∀ args M Q, sp_plus args M Q → args.length = 2 ∧ b_plus (fE Q) (fr0 0 args) M := fun args M Q h => by
  match args, h with
  | [.tup [.int a, .int b], .tup [.int c, .int d]], ⟨⟨h1, h2⟩, hq⟩ =>
    obtain ⟨m1, m2, m3, m4, m5, s1, s2, s3, s4, s5, p⟩ := four h1 h2
    exact ⟨rfl, _, rfl, _, rfl, m1, _, rfl, _, rfl, m2, _, rfl, _, rfl, m3, ⟨by omega, LM_of (bits_up (add_bits s1 s2) (by omega)), LM_of (bits_up s3 (by omega)), fun z => absurd z (by omega)⟩, hq⟩
theorem l_minus : ∀ args M Q, sp_minus args M Q → args.length = 2 ∧ b_minus (fE Q) (fr0 0 args) M := fun args M Q h => by
  match args, h with
  | [.tup [.int a, .int b], .tup [.int c, .int d]], ⟨⟨h1, h2⟩, hq⟩ =>
    obtain ⟨m1, m2, m3, m4, m5, s1, s2, s3, s4, s5, p⟩ := four h1 h2
    exact ⟨rfl, _, rfl, _, rfl, m1, _, rfl, _, rfl, m2, _, rfl, _, rfl, m3, ⟨by omega, LM_of (bits_up (sub_bits s1 s2) (by omega)), LM_of (bits_up s3 (by omega)), fun z => absurd z (by omega)⟩, hq⟩
theorem l_times : ∀ args M Q, sp_times args M Q → args.length = 2 ∧ b_times (fE Q) (fr0 0 args) M := fun args M Q h => by
  match args, h with
  | [.tup [.int a, .int b], .tup [.int c, .int d]], ⟨⟨h1, h2⟩, hq⟩ =>
    obtain ⟨m1, m2, m3, m4, m5, s1, s2, s3, s4, s5, p⟩ := four h1 h2
    exact ⟨rfl, _, rfl, _, rfl, m4, _, rfl, _, rfl, m3, ⟨by omega, LM_of (bits_up s4 (by omega)), LM_of (bits_up s3 (by omega)), fun z => absurd z (by omega)⟩, hq⟩
theorem l_over : ∀ args M Q, sp_over args M Q → args.length = 2 ∧ b_over (fE Q) (fr0 0 args) M := fun args M Q h => by
  match args, h with
  | [.tup [.int a, .int b], .tup [.int c, .int d]], ⟨⟨h1, h2, h3⟩, hq⟩ =>
    obtain ⟨m1, m2, m3, m4, m5, s1, s2, s3, s4, s5, p⟩ := four h1 h2
    have p2 : 0 < b * c := Int.mul_pos h1.2.1 h3
    exact ⟨rfl, _, rfl, _, rfl, m1, _, rfl, _, rfl, m5, ⟨by omega, LM_of (bits_up s1 (by omega)), LM_of (bits_up s5 (by omega)), fun z => absurd z (by omega)⟩, hq⟩
theorem sgn_b (a b : Int) : b2I (cGt a b) - b2I (cLt a b) = sgn a b := by
  unfold sgn cGt cLt b2I
  by_cases h1 : b < a
  · simp [h1, show ¬ a < b by omega]
  · by_cases h2 : a < b <;> simp [h1, h2]
theorem l_compared : ∀ args M Q, sp_compared args M Q → args.length = 2 ∧ b_compared (fE Q) (fr0 2 args) M := fun args M Q h => by
  match args, h with
  | [.tup [.int a, .int b], .tup [.int c, .int d]], ⟨⟨h1, h2, h3, h4⟩, hq⟩ =>
    have hq : Q (.int (sgn (a * d) (c * b))) M := hq
    rw [← sgn_b] at hq
    exact ⟨rfl, _, rfl, _, rfl, mulS h1 h4, _, rfl, _, rfl, mulS h3 h2, hq⟩
theorem l_above_zero : ∀ args M Q, sp_above_zero args M Q → args.length = 1 ∧ b_above_zero (fE Q) (fr0 1 args) M := fun args M Q h => by
  match args, h with
  | [.tup [.int p, .int q]], ⟨⟨h1, h2, h3⟩, hq⟩ =>
    exact ⟨rfl, ⟨h2, h3⟩, _, rfl, fun h => absurd (of_decide_eq_true h : p < 1) (by omega), fun _ => hq⟩
theorem l_are_neighbours : ∀ args M Q, sp_are_neighbours args M Q → args.length = 2 ∧ b_are_neighbours (fE Q) (fr0 0 args) M := fun args M Q h => by
  match args, h with
  | [.tup [.int a, .int b], .tup [.int c, .int d]], ⟨⟨h1, h2, h3, h4⟩, hq⟩ =>
    exact ⟨rfl, _, rfl, _, rfl, mulS h3 h2, _, rfl, _, rfl, mulS h1 h4, hq⟩
theorem l_middle : ∀ args M Q, sp_middle args M Q → args.length = 2 ∧ b_middle (fE Q) (fr0 0 args) M := fun args M Q h => by
  match args, h with
  | [.tup [.int a, .int b], .tup [.int c, .int d]], ⟨⟨h1, h2, h3, h4⟩, hq⟩ =>
    refine ⟨rfl, _, rfl, _, rfl, _, rfl, _, rfl, ⟨by omega, h2, h3, fun z => absurd z (by omega)⟩, ?_⟩
    have e : lowF (a + c) (b + d) = (a + c, b + d) := by
      unfold lowF
      rw [if_neg (by omega), h4]
      simp
    show Q (pP (lowF (a + c) (b + d))) M
    rw [e]
    exact hq
theorem dvS {j : Int} (h1 : 0 < j) (h2 : j.natAbs < 2 ^ 8999) : 0 < j ∧ j.natAbs.log2 < 9000 := dvN (K := 8999) (by omega) h1 h2
theorem l__steps : ∀ args M Q, sp__steps args M Q → args.length = 3 ∧ b__steps (fE Q) (fr0 1 args) M := fun args M Q h => by
  match args, h with
  | [.tup [.int l0, .int l1], .tup [.int r0, .int r1], .tup [.int a, .int b]], ⟨⟨⟨h1, h2, h3, h4, h5, h6⟩, h7⟩, hq⟩ =>
    exact ⟨rfl, _, rfl, _, rfl, mulS h5 h2, _, rfl, _, rfl, mulS h1 h6, _, rfl, _, rfl, mulS h3 h6, _, rfl, _, rfl, mulS h5 h4, dvS h7 (bits_up (sub_bits (mul_bits h3 h6) (mul_bits h5 h4)) (by omega)), hq⟩
theorem l__steps_down : ∀ args M Q, sp__steps_down args M Q → args.length = 3 ∧ b__steps_down (fE Q) (fr0 1 args) M := fun args M Q h => by
  match args, h with
  | [.tup [.int l0, .int l1], .tup [.int r0, .int r1], .tup [.int c, .int d]], ⟨⟨⟨h1, h2, h3, h4, h5, h6⟩, h7⟩, hq⟩ =>
    exact ⟨rfl, _, rfl, _, rfl, mulS h3 h6, _, rfl, _, rfl, mulS h5 h4, _, rfl, _, rfl, mulS h5 h2, _, rfl, _, rfl, mulS h1 h6, dvS h7 (bits_up (sub_bits (mul_bits h5 h2) (mul_bits h1 h6)) (by omega)), hq⟩
/-! ways -/
theorem okS_str (s : Bool) : okE (.v (sS s)) := okD_str _ (by cases s <;> decide +kernel)
theorem eqR (s : Bool) : eqv (sS s) (.str "R") = s := by
  cases s <;> rfl
theorem eqS (s t : Bool) : eqv (sS s) (sS t) = (s == t) := by
  cases s <;> cases t <;> rfl
theorem okR : okE (.v (.str "R")) := okS_str true
theorem flipS (s : Bool) : (if s then PV.str "L" else PV.str "R") = sS (!s) := by cases s <;> rfl
theorem mapW (ws : List (Bool × Int)) (w : Bool × Int) : (ws ++ [w]).map pW = ws.map pW ++ [pW w] := by rw [List.map_append]; rfl
theorem cf_bits {l : List Int} (h : fewQ l) : (cf l).1.natAbs < 2 ^ 1200 ∧ (cf l).2.natAbs < 2 ^ 1200 := by
  obtain ⟨h1, h2⟩ := h
  obtain ⟨a1, a2, a3, a4⟩ := cf_lt (B := 131000) (by omega) h2
  have b1 : ((131000 : Int) + 1) ^ l.length ≤ (131000 + 1) ^ 70 := ipow_right (by omega) h1
  have b2 : ((131000 : Int) + 1) ^ 70 < 2 ^ 1200 := by decide +kernel
  exact ⟨nab (by omega) (by omega), nab (by omega) (by omega)⟩
theorem fewQ.tail {q : Int} {l : List Int} (h : fewQ (q :: l)) : fewQ l := ⟨by have := h.1; rw [List.length_cons] at this; omega, fun x hx => h.2 x (by simp [hx])⟩
/-- the loop of way_to -/
theorem way_loop {D : FEnds} {M : Sto} {x0 : Option EV} : ∀ (l : List Int) (s : Bool) (acc : List (Bool × Int)) (x5 : Option EV), okQ0 l → fewQ l → acc.length + l.length < 1000 →
    (∀ x1 x4 x5, D.nx [x0, x1, some (.v (.int 0)), some (.b ((acc ++ wayQ s l).map pW)), x4, x5] M) →
    whP c_way_to_1 w_way_to_1 D (l.length + 1) [x0, some (.v (.int (cf l).1)), some (.v (.int (cf l).2)), some (.b (acc.map pW)), some (.v (sS s)), x5] M
  | [], s, acc, x5, h, hm, hl, q => h.elim
  | [x], s, acc, x5, h, hm, hl, q => by
    have h : 2 ≤ x := h
    have hz := line1
    rw [cf_one]
    show whP c_way_to_1 w_way_to_1 D 2 [x0, some (.v (.int x)), some (.v (.int 1)), some (.b (acc.map pW)), some (.v (sS s)), x5] M
    have e : x / 1 = x := Int.ediv_one x
    have fin : ∀ y, whP c_way_to_1 w_way_to_1 D 1 [x0, some (.v (.int 1)), some (.v (.int 0)), some (.b (acc.map pW ++ [.tup [sS s, .int (x / 1 - 1)]])), some (.v y), some (.v (.int (x / 1 - 1)))] M := fun y =>
      ⟨fun h => (nomatch h), fun _ => by
        have q := q (some (.v (.int 1))) (some (.v y)) (some (.v (.int (x / 1 - 1))))
        rw [wayQ, mapW] at q
        rw [e] at q ⊢
        exact q⟩
    refine ⟨fun _ => ⟨⟨by omega, by decide +kernel⟩, by omega, fun _ => ⟨rfl, fun _ => ⟨by rw [List.length_map]; omega, ⟨okS_str s, okR⟩, fun h3 => fin _, fun h3 => fin _⟩, fun h2 => ?_⟩, fun h2 => ?_⟩, fun h => ?_⟩
    · have : ¬ 0 < x / 1 - 1 := of_decide_eq_false h2
      omega
    · have : ¬ x % 1 = 0 := of_decide_eq_false h2
      omega
    · cases h
  | q :: e :: r, s, acc, x5, h, hm, hl, hq => by
    have hz := line1
    have hc := okQ.cf h.2
    have hb := (cf_bits hm.tail).1
    have hq0 := h.1
    have ih := fun acc' x5 h1 => way_loop (D := D) (M := M) (x0 := x0) (e :: r) (!s) acc' x5 h.2.zero hm.tail h1
    rw [cf_cons]
    rw [wayQ] at hq
    generalize cf (e :: r) = p at *
    have ee := eu (q := q) (by omega : 0 ≤ p.2) hc.2
    show whP c_way_to_1 w_way_to_1 D ((e :: r).length + 2) [x0, some (.v (.int (q * p.1 + p.2))), some (.v (.int p.1)), some (.b (acc.map pW)), some (.v (sS s)), x5] M
    generalize q * p.1 + p.2 = n at *
    have hp : 0 < p.1 := by omega
    rw [List.length_cons] at hl
    refine ⟨fun _ => ⟨dvN (K := 1200) (by omega) hp hb, hp, fun h2 => ?_, fun h2 => ⟨hp, fun h3 => ⟨by rw [List.length_map]; omega, ⟨okS_str s, okR⟩, ?_⟩, fun h3 => ⟨⟨okS_str s, okR⟩, ?_⟩⟩⟩, fun h => ?_⟩
    · have : n % p.1 = 0 := of_decide_eq_true h2
      omega
    · have h3 : 0 < n / p.1 := of_decide_eq_true h3
      rw [ee.1] at h3
      rw [if_pos h3] at hq
      have ih := ih (acc ++ [(s, q)]) (some (.v (.int q))) (by rw [List.length_append, List.length_singleton]; omega) fun x1 x4 x5 => by
        have := hq x1 x4 x5
        rw [List.append_assoc]
        exact this
      rw [mapW, ← ee.1, ← ee.2] at ih
      refine ⟨fun h4 => ?_, fun h4 => ?_⟩
      · rw [show sS (!s) = .str "L" by rw [show s = true by rw [← eqR s]; exact h4]; rfl] at ih
        exact ih
      · rw [show sS (!s) = .str "R" by rw [show s = false by rw [← eqR s]; exact h4]; rfl] at ih
        exact ih
    · have h3 : ¬ 0 < n / p.1 := of_decide_eq_false h3
      rw [ee.1] at h3
      rw [if_neg h3] at hq
      have ih := ih acc (some (.v (.int q))) (by omega) hq
      rw [← ee.1, ← ee.2] at ih
      refine ⟨fun h4 => ?_, fun h4 => ?_⟩
      · rw [show sS (!s) = .str "L" by rw [show s = true by rw [← eqR s]; exact h4]; rfl] at ih
        exact ih
      · rw [show sS (!s) = .str "R" by rw [show s = false by rw [← eqR s]; exact h4]; rfl] at ih
        exact ih
    · have : decide (p.1 = 0) = true := nF h
      have := of_decide_eq_true this
      omega
theorem l_way_to : ∀ args M Q, sp_way_to args M Q → args.length = 1 ∧ b_way_to (fE Q) (fr0 5 args) M := fun args M Q h => by
  match args, h with
  | [.tup [.int p, .int q]], ⟨l, ⟨h1, h2, h3⟩, hq⟩ =>
    have hp := okQ0.cf h1
    have hg := cf_gcd h1
    have key := way_loop (D := { fE Q with nx := t_way_to_4 (fE Q) }) (M := M) (x0 := some (.v (.tup [.int p, .int q]))) l true [] none h1 h2 (by have := h2.1; simp; omega) fun x1 x4 x5 => hq
    rw [h3] at hp hg key
    exact ⟨rfl, ⟨hp.2, hp.1, hg⟩, rfl, _, key⟩
/-! check_way, end_of, sides -/
theorem chk_any (ws : List (Bool × Int)) (h : okW ws) : (List.zip ws ws.tail).any (fun p => p.1.1 == p.2.1) = false := by
  replace h := h.2.1
  induction ws with
  | nil => rfl
  | cons a r ih =>
    cases r with
    | nil => rfl
    | cons b r =>
      have := ih h.2
      simp only [List.tail_cons, List.zip_cons_cons, List.any_cons] at *
      rw [this]
      simpa using h.1
theorem zipV_W : ∀ (xs ys : List (Bool × Int)), zipV (xs.map pW) (ys.map pW) = (List.zip xs ys).map fun p => .tup [pW p.1, pW p.2]
  | [], ys => by cases ys <;> rfl
  | x :: xs, [] => rfl
  | x :: xs, y :: ys => by
    rw [List.map_cons, List.map_cons, zipV, zipV_W xs ys]
    rfl
theorem any_map_false {α : Type} (l : List α) (f : α → Bool) (h : ∀ x ∈ l, f x = false) : (l.map f).any id = false := by
  rw [List.any_map, List.any_eq_false]
  intro x hx
  simp [h x hx]
theorem l_check_way : ∀ args M Q, sp_check_way args M Q → args.length = 1 ∧ b_check_way (fE Q) (fr0 4 args) M := fun args M Q h => by
  match args, h with
  | [w], ⟨ws, hw, hk, hq⟩ =>
    subst hw
    have hz := line1
    have hl := hk.2.2
    refine ⟨rfl, ⟨by rw [List.length_map]; omega, lcP_all (ι := pW) (fun w => .bl (cLt w.2 1)) (fun w hw K1 K0 k => ?_) ⟨ws.map fun w => cLt w.2 1, by rw [List.map_map]; rfl, trivial, fun h => ?_, fun _ => ?_⟩⟩⟩
    · obtain ⟨s, x⟩ := w
      cases s <;> exact ⟨rfl, fun _ => ⟨⟨rfl, rfl⟩, trivial, fun h => (nomatch h), fun _ => k⟩, fun h => (nomatch h)⟩
    · exfalso
      have : (ws.map fun w => cLt w.2 1).any id = false := any_map_false _ _ fun w hw => decide_eq_false (by have := (hk.1 w hw).1; omega)
      have h : (ws.map fun w => cLt w.2 1).any id = true := h
      rw [this] at h
      cases h
    · have e : zipV (ws.map pW) (cut (ws.map pW) (some 1) none) = (List.zip ws ws.tail).map fun p => .tup [pW p.1, pW p.2] := by rw [cut_one, ← List.map_tail, zipV_W]
      have hlen : (zipV (ws.map pW) (cut (ws.map pW) (some 1) none)).length ≤ sizeLine := by
        rw [e, List.length_map, List.length_zip]
        omega
      refine ⟨hlen, lcP_eq e (lcP_all (ι := fun p : (Bool × Int) × (Bool × Int) => .tup [pW p.1, pW p.2]) (fun p => .bl (p.1.1 == p.2.1)) (fun p hp K1 K0 k => ?_) ⟨(List.zip ws ws.tail).map fun p => p.1.1 == p.2.1, by rw [List.map_map]; rfl, trivial, fun h => ?_, fun _ => hq⟩)⟩
      · refine ⟨rfl, fun _ => ⟨_, rfl, _, rfl, ⟨okS_str _, okS_str _⟩, ?_⟩, fun h => (nomatch h)⟩
        rw [← eqS] at k
        exact k
      · exfalso
        have := chk_any ws hk
        have h : ((List.zip ws ws.tail).map fun p => p.1.1 == p.2.1).any id = true := h
        rw [List.any_map] at h
        have : (List.zip ws ws.tail).any (id ∘ fun p => p.1.1 == p.2.1) = false := this
        rw [this] at h
        cases h
/-- the fold of the steps -/
theorem side_loop {D : FEnds} {M : Sto} {x0 : Option EV} : ∀ (ws : List (Bool × Int)) (st : P2 × P2) (x3 x4 : Option EV), (∀ w ∈ ws, 1 ≤ w.2 ∧ w.2 < 2 ^ 40) →
    (∀ x3 x4, D.nx [x0, some (.v (pP (ws.foldl stW st).1)), some (.v (pP (ws.foldl stW st).2)), x3, x4] M) →
    foP (gS 2 (gsCons (gN 3) (gsCons (gN 4) gsNil))) w_end_of_1 D (ws.map pW) [x0, some (.v (pP st.1)), some (.v (pP st.2)), x3, x4] M
  | [], st, x3, x4, _, q => q x3 x4
  | (s, k) :: ws, st, x3, x4, h, q => by
    have hk := h (s, k) (by simp)
    have hk1 : -(2 ^ 64) < k := by have : 1 ≤ k := hk.1; omega
    have hk2 : k < 2 ^ 64 := by have : k < 2 ^ 40 := hk.2; omega
    have ih := fun x3 x4 => side_loop (D := D) (M := M) (x0 := x0) ws (stW st (s, k)) x3 x4 (fun w hw => h w (by simp [hw])) q
    cases s
    · exact ⟨rfl, ⟨okS_str _, okR⟩, fun h => (nomatch h), fun _ => ⟨_, rfl, _, rfl, mul_l hk1 hk2, _, rfl, _, rfl, mul_l hk1 hk2, ih _ _⟩⟩
    · exact ⟨rfl, ⟨okS_str _, okR⟩, fun _ => ⟨_, rfl, _, rfl, mul_l hk1 hk2, _, rfl, _, rfl, mul_l hk1 hk2, ih _ _⟩, fun h => (nomatch h)⟩
theorem l_end_of : ∀ args M Q, sp_end_of args M Q → args.length = 1 ∧ b_end_of (fE Q) (fr0 4 args) M := fun args M Q h => by
  match args, h with
  | [w], ⟨ws, hw, hk, hq⟩ =>
    subst hw
    refine ⟨rfl, ⟨ws, rfl, hk, ?_⟩⟩
    exact ⟨rfl, side_loop (D := { fE Q with nx := t_end_of_3 (fE Q) }) ws ((0, 1), (1, 0)) none none hk.1 fun x3 x4 => ⟨_, rfl, _, rfl, _, rfl, _, rfl, hq⟩⟩
theorem l_sides : ∀ args M Q, sp_sides args M Q → args.length = 1 ∧ b_sides (fE Q) (fr0 4 args) M := fun args M Q h => by
  match args, h with
  | [w], ⟨ws, hw, hk, hq⟩ =>
    subst hw
    refine ⟨rfl, ⟨ws, rfl, hk, ?_⟩⟩
    exact ⟨rfl, side_loop (D := { fE Q with nx := t_sides_3 (fE Q) }) ws ((0, 1), (1, 0)) none none hk.1 fun x3 x4 => hq⟩
theorem l_depth : ∀ args M Q, sp_depth args M Q → args.length = 1 ∧ b_depth (fE Q) (fr0 2 args) M := fun args M Q h => by
  match args, h with
  | [.tup [.int p, .int q]], ⟨l, ⟨h1, h2, h3⟩, hq⟩ =>
    have hz := line1
    have hl := wayQ_len l true
    have hs := wayQ_sum true h1
    refine ⟨rfl, l, ⟨h1, h2, h3⟩, by rw [List.length_map]; have := h2.1; omega, lcP_all (ι := pW) (fun w => .int w.2) (fun w hw K1 K0 k => ⟨rfl, fun _ => k, fun h => (nomatch h)⟩) ⟨(wayQ true l).map (·.2), by rw [List.map_map]; rfl, ?_⟩⟩
    rw [hs]
    exact hq
end Fl

end

section
set_option exponentiation.threshold 20000
namespace Fl
open PySem PySem.Spec PyProof.Rows L2
theorem sgn_le {x y : Int} (h : sgn x y ≤ 0) : x ≤ y := by
  unfold sgn at h
  split at h
  · omega
  · omega
theorem sgn_nle {x y : Int} (h : ¬ sgn x y ≤ 0) : y < x := by
  unfold sgn at h
  split at h
  · assumption
  · split at h <;> omega
theorem sgn_ge {x y : Int} (h : 0 ≤ sgn x y) : y ≤ x := by
  unfold sgn at h
  split at h
  · omega
  · split at h <;> omega
theorem sgn_nge {x y : Int} (h : ¬ 0 ≤ sgn x y) : x < y := by
  unfold sgn at h
  split at h
  · omega
  · split at h <;> omega
theorem Two.bits {a b c d : Int} (h : Two a b c d) : a.natAbs < 2 ^ 1200 ∧ b.natAbs < 2 ^ 1200 ∧ c.natAbs < 2 ^ 1200 ∧ d.natAbs < 2 ^ 1200 := by
  obtain ⟨a0, b0, c0, d0, _, _, _, a1, b1, c1, d1⟩ := h
  exact ⟨nab (by omega) a1, nab (by omega) b1, nab (by omega) c1, nab (by omega) d1⟩
theorem ediv_bits {x y : Int} {K : Nat} (h0 : 0 ≤ x) (hx : x.natAbs < 2 ^ K) : (x / y).natAbs < 2 ^ K := by
  have h1 := Int.ediv_le_self y h0
  have h2 := bna hx
  rcases Int.lt_or_le 0 y with z | z
  · have := Int.ediv_nonneg h0 (show 0 ≤ y by omega)
    exact nab (by omega) (by omega)
  · have := Int.natAbs_ediv_le_natAbs x y
    omega
theorem SB.bits {a b c d l0 l1 r0 r1 : Int} (h : SB a b c d l0 l1 r0 r1) (t : Two a b c d) : l0.natAbs < 2 ^ 1201 ∧ l1.natAbs < 2 ^ 1201 ∧ r0.natAbs < 2 ^ 1201 ∧ r1.natAbs < 2 ^ 1201 ∧ (l0 + r0).natAbs < 2 ^ 1201 ∧ (l1 + r1).natAbs < 2 ^ 1201 := by
  have hb := h.bound t.b0 t.d0 t.lt
  obtain ⟨a0, b0, c0, d0, _, _, _, a1, b1, c1, d1⟩ := t
  obtain ⟨_, p1, p2, p3, p4, _, _⟩ := h
  have e : (2 : Int) ^ 1201 = 2 ^ 1200 + 2 ^ 1200 := by rw [Int.pow_succ]; omega
  refine ⟨nab (by omega) (by omega), nab (by omega) (by omega), nab (by omega) (by omega), nab (by omega) (by omega), nab (by omega) (by omega), nab (by omega) (by omega)⟩
theorem SB.sm {a b c d l0 l1 r0 r1 : Int} (h : SB a b c d l0 l1 r0 r1) (t : Two a b c d) : Sm l0 ∧ Sm l1 ∧ Sm r0 ∧ Sm r1 ∧ Sm (l0 + r0) ∧ Sm (l1 + r1) := by
  obtain ⟨q1, q2, q3, q4, q5, q6⟩ := h.bits t
  exact ⟨Sm_of q1, Sm_of q2, Sm_of q3, Sm_of q4, Sm_of q5, Sm_of q6⟩
theorem Two.sm {a b c d : Int} (t : Two a b c d) : Sm a ∧ Sm b ∧ Sm c ∧ Sm d := by
  obtain ⟨q1, q2, q3, q4⟩ := t.bits
  exact ⟨Sm_of q1, Sm_of q2, Sm_of q3, Sm_of q4⟩
theorem SB.leftS {a b c d l0 l1 r0 r1 : Int} (h : SB a b c d l0 l1 r0 r1) (t : Two a b c d) (hn : (l0 + r0) * b ≤ a * (l1 + r1)) :
    (∃ k, (a * l1 - l0 * b) / (r0 * b - a * r1) = k ∧ Sm k ∧ SB a b c d (l0 + k * r0) (l1 + k * r1) r0 r1 ∧ (a + b + c + d - ((l0 + k * r0) + (l1 + k * r1) + r0 + r1)).toNat < (a + b + c + d - (l0 + l1 + r0 + r1)).toNat) ∧ 0 < r0 * b - a * r1 := by
  have g0 : 0 ≤ a * l1 - l0 * b := by have := h.lo; omega
  have sk : Sm ((a * l1 - l0 * b) / (r0 * b - a * r1)) := by
    obtain ⟨ba, bb, bc, bd⟩ := t.bits
    obtain ⟨q1, q2, q3, q4, q5, q6⟩ := h.bits t
    exact Sm_of (ediv_bits (y := r0 * b - a * r1) g0 (sub_bits (bits_up (L := 2402) (mul_bits ba q2) (by decide)) (bits_up (L := 2402) (mul_bits q1 bb) (by decide))))
  obtain ⟨s1, s2, s3⟩ := h.left t.b0 t.d0 t.lt hn
  have nb := s3.bound t.b0 t.d0 t.lt
  refine ⟨⟨_, rfl, sk, s3, ?_⟩, s1⟩
  generalize (a * l1 - l0 * b) / (r0 * b - a * r1) = o at *
  have o1 : 1 * r0 ≤ o * r0 := Int.mul_le_mul_of_nonneg_right s2 (by have := h.pr0; omega)
  have o2 : 0 ≤ o * r1 := Int.mul_nonneg (by omega) h.pr1
  have hr0 := h.pr0
  omega
theorem SB.rightS {a b c d l0 l1 r0 r1 : Int} (h : SB a b c d l0 l1 r0 r1) (t : Two a b c d) (hn : c * (l1 + r1) ≤ (l0 + r0) * d) :
    (∃ k, (r0 * d - c * r1) / (c * l1 - l0 * d) = k ∧ Sm k ∧ SB a b c d l0 l1 (r0 + k * l0) (r1 + k * l1) ∧ (a + b + c + d - (l0 + l1 + (r0 + k * l0) + (r1 + k * l1))).toNat < (a + b + c + d - (l0 + l1 + r0 + r1)).toNat) ∧ 0 < c * l1 - l0 * d := by
  have g0 : 0 ≤ r0 * d - c * r1 := by have := h.hi; omega
  have sk : Sm ((r0 * d - c * r1) / (c * l1 - l0 * d)) := by
    obtain ⟨ba, bb, bc, bd⟩ := t.bits
    obtain ⟨q1, q2, q3, q4, q5, q6⟩ := h.bits t
    exact Sm_of (ediv_bits (y := c * l1 - l0 * d) g0 (sub_bits (bits_up (L := 2402) (mul_bits q3 bd) (by decide)) (bits_up (L := 2402) (mul_bits bc q4) (by decide))))
  obtain ⟨s1, s2, s3⟩ := h.right t.b0 t.d0 t.lt hn
  have nb := s3.bound t.b0 t.d0 t.lt
  refine ⟨⟨_, rfl, sk, s3, ?_⟩, s1⟩
  generalize (r0 * d - c * r1) / (c * l1 - l0 * d) = o at *
  have o1 : 1 * l1 ≤ o * l1 := Int.mul_le_mul_of_nonneg_right s2 (by have := h.pl1; omega)
  have o2 : 0 ≤ o * l0 := Int.mul_nonneg (by omega) h.pl0
  have hl1 := h.pl1
  omega
theorem plain_loop {a b c d : Int} {D : FEnds} {M : Sto} (t : Two a b c d) (hD : ∀ x y, Plain a b c d x y → D.rt (pP (x, y)) M) :
    ∀ (k : Nat) (l0 l1 r0 r1 : Int) (x4 x5 : Option EV), SB a b c d l0 l1 r0 r1 → (a + b + c + d - (l0 + l1 + r0 + r1)).toNat ≤ k →
    whP c__plainest_1 w__plainest_1 D (k + 1) [some (.v (pP (a, b))), some (.v (pP (c, d))), some (.v (pP (l0, l1))), some (.v (pP (r0, r1))), x4, x5] M
  | k, l0, l1, r0, r1, x4, x5, h, hk => by
    obtain ⟨ba, bb, bc, bd⟩ := t.sm
    obtain ⟨q1, q2, q3, q4, q5, q6⟩ := h.sm t
    refine ⟨trivial, fun _ => ⟨_, rfl, _, rfl, _, rfl, _, rfl, ⟨q5, q6, ba, bb⟩, fun h1 => ?_, fun h1 => ?_⟩, fun h => (nomatch h)⟩
    · obtain ⟨⟨o, eo, so, s3, lt⟩, s1⟩ := h.leftS t (sgn_le (of_decide_eq_true h1))
      match k, hk with
      | 0, hk => omega
      | k + 1, hk =>
        have ih := plain_loop t hD k _ _ _ _ (some (.v (pP (l0 + r0, l1 + r1)))) (some (.v (.int o))) s3 (by omega)
        subst eo
        exact ⟨⟨⟨q1, q2, q3, q4, ba, bb⟩, s1⟩, _, rfl, _, rfl, mulS so q3, _, rfl, _, rfl, mulS so q4, ih⟩
    · have h1 := sgn_nle (of_decide_eq_false h1)
      refine ⟨⟨q5, q6, bc, bd⟩, fun h2 => ?_, fun h2 => ?_⟩
      · obtain ⟨⟨o, eo, so, s3, lt⟩, s1⟩ := h.rightS t (sgn_ge (of_decide_eq_true h2))
        match k, hk with
        | 0, hk => omega
        | k + 1, hk =>
          have ih := plain_loop t hD k _ _ _ _ (some (.v (pP (l0 + r0, l1 + r1)))) (some (.v (.int o))) s3 (by omega)
          subst eo
          exact ⟨⟨⟨q1, q2, q3, q4, bc, bd⟩, s1⟩, _, rfl, _, rfl, mulS so q1, _, rfl, _, rfl, mulS so q2, ih⟩
      · have h2 := sgn_nge (of_decide_eq_false h2)
        exact hD _ _ (h.plain t.b0 t.d0 h1 h2)
theorem l__plainest : ∀ args M Q, sp__plainest args M Q → args.length = 2 ∧ b__plainest (fE Q) (fr0 4 args) M := fun args M Q h => by
  match args, h with
  | [.tup [.int a, .int b], .tup [.int c, .int d]], ⟨t, hq⟩ =>
    exact ⟨rfl, rfl, _, plain_loop (D := fE Q) (M := M) t (fun x y p => hq x y p) _ 0 1 1 0 none none (SB.start (by have := t.a0; omega) (by have := t.d0; omega)) (Nat.le_refl _)⟩
theorem l_plainest : ∀ args M Q, sp_plainest args M Q → args.length = 2 ∧ b_plainest (fE Q) (fr0 2 args) M := fun args M Q h => by
  match args, h with
  | [.tup [.int a, .int b], .tup [.int c, .int d]], ⟨t, hq⟩ =>
    refine ⟨rfl, ⟨t.a0, t.b0, t.g1⟩, ⟨t.c0, t.d0, t.g2⟩, t.sm, fun h => ?_, fun _ => ⟨t, fun x y p => hq x y p⟩⟩
    have h1 : c * b ≤ a * d := sgn_ge (of_decide_eq_true h)
    have h2 := t.lt
    omega
/-! row -/
def rowT (m : Nat) : Nat → Nat → Nat → Nat → Nat → Bool
  | 0, _, _, _, _ => false
  | n + 1, a1, a2, h1, h2 => (Nat.beq h1 1 && Nat.beq h2 1) || (Nat.blt 0 h2 && Nat.ble h2 m && Nat.ble h1 m && Nat.ble a1 ((m + a2) / h2 * h1) && Nat.ble a2 ((m + a2) / h2 * h2) && Nat.ble ((m + a2) / h2 * h2 - a2) m &&
      Nat.beq (((m + a2) / h2 * h1 - a1) * h2) (h1 * ((m + a2) / h2 * h2 - a2) + 1) && rowT m n h1 h2 ((m + a2) / h2 * h1 - a1) ((m + a2) / h2 * h2 - a2))
def cntC (u : Nat) : Nat → Nat
  | 0 => 0
  | t + 1 => (bif Nat.beq (Nat.gcd (t + 1) u) 1 then 1 else 0) + cntC u t
def cntS : Nat → Nat
  | 0 => 1
  | u + 1 => cntS u + cntC (u + 1) (u + 1)
def rowO (m : Nat) : Bool := rowT m 1200 0 1 1 m && Nat.beq ((rowL m 1200 0 1 1 m).length + 2) (cntS m)
theorem row_all : ((List.range 60).all fun i => rowO (i + 1)) = true := by decide +kernel
end Fl

end

section
set_option exponentiation.threshold 20000
namespace Fl
open PySem PySem.Spec PyProof.Rows L2
theorem rowO_ok {m : Nat} (h1 : 1 ≤ m) (h2 : m ≤ 60) : rowT m 1200 0 1 1 m = true ∧ (rowL m 1200 0 1 1 m).length + 2 = cntS m := by
  have h := List.all_eq_true.mp row_all (m - 1) (List.mem_range.mpr (by omega))
  rw [show m - 1 + 1 = m by omega] at h
  unfold rowO at h
  rw [Bool.and_eq_true] at h
  exact ⟨h.1, Nat.eq_of_beq_eq_true h.2⟩
theorem sh_pN (p : Nat × Nat) : okE (.v (pN p)) := by
  show SeqAt.shaped (toD (.tup [.int p.1, .int p.2])) = true
  simp only [toD, toDs]
  rfl
theorem eqvN (p q : Nat × Nat) : eqv (pN p) (pN q) = (Nat.beq p.1 q.1 && Nat.beq p.2 q.2) := by
  unfold pN
  rw [eqv, eqvs, eqvs, eqvs, eqv_int, eqv_int, Bool.and_true]
  have : ∀ a b : Nat, decide ((a : Int) = (b : Int)) = Nat.beq a b := fun a b => by
    by_cases h : a = b
    · subst h; simp
    · rw [decide_eq_false (by omega)]
      exact (by cases e : Nat.beq a b with
        | true => exact absurd (Nat.eq_of_beq_eq_true e) h
        | false => rfl)
  rw [this, this]
theorem mapN (l : List (Nat × Nat)) (p : Nat × Nat) : (l ++ [p]).map pN = l.map pN ++ [pN p] := by rw [List.map_append]; rfl
theorem rowT_step {m k a1 a2 h1 h2 : Nat} (ht : rowT m (k + 1) a1 a2 h1 h2 = true) (he : (Nat.beq h1 1 && Nat.beq h2 1) = false) :
    (0 < h2 ∧ h2 ≤ m ∧ h1 ≤ m ∧ a1 ≤ (m + a2) / h2 * h1 ∧ a2 ≤ (m + a2) / h2 * h2 ∧ (m + a2) / h2 * h2 - a2 ≤ m ∧ ((m + a2) / h2 * h1 - a1) * h2 = h1 * ((m + a2) / h2 * h2 - a2) + 1) ∧ rowT m k h1 h2 ((m + a2) / h2 * h1 - a1) ((m + a2) / h2 * h2 - a2) = true := by
  rw [rowT, he, Bool.false_or] at ht
  simp only [Bool.and_eq_true] at ht
  obtain ⟨⟨⟨⟨⟨⟨⟨t1, t2⟩, t3⟩, t4⟩, t5⟩, t6⟩, t7⟩, t8⟩ := ht
  exact ⟨⟨Nat.le_of_ble_eq_true t1, Nat.le_of_ble_eq_true t2, Nat.le_of_ble_eq_true t3, Nat.le_of_ble_eq_true t4, Nat.le_of_ble_eq_true t5, Nat.le_of_ble_eq_true t6, Nat.eq_of_beq_eq_true t7⟩, t8⟩
theorem castN {m a2 h2 h1 a1 : Nat} (h : a1 ≤ (m + a2) / h2 * h1) : ((m : Int) + (a2 : Int)) / (h2 : Int) * (h1 : Int) - (a1 : Int) = (((m + a2) / h2 * h1 - a1 : Nat) : Int) := by
  rw [Int.ofNat_sub h, Int.natCast_mul, Int.natCast_ediv, Int.natCast_add]
theorem row_loop {m : Nat} {D : FEnds} {M : Sto} (hm : 1 ≤ m ∧ m ≤ 60) : ∀ (k a1 a2 h1 h2 : Nat) (acc : List (Nat × Nat)) (x4 : Option EV), rowT m k a1 a2 h1 h2 = true → acc.length + k < 10000 →
    (∀ x2 x3 x4, D.nx [some (.v (.int m)), some (.b ((acc ++ rowL m k a1 a2 h1 h2).map pN)), x2, x3, x4] M) →
    whP c_row_1 w_row_1 D k [some (.v (.int m)), some (.b (acc.map pN)), some (.v (pN (a1, a2))), some (.v (pN (h1, h2))), x4] M
  | 0, a1, a2, h1, h2, acc, x4, ht, _, _ => nomatch ht
  | k + 1, a1, a2, h1, h2, acc, x4, ht, hl, q => by
    have hz := line1
    rw [rowL] at q
    cases he : (Nat.beq h1 1 && Nat.beq h2 1) with
    | true =>
      rw [he, cond_true, List.append_nil] at q
      refine ⟨⟨sh_pN (h1, h2), sh_pN (1, 1)⟩, fun z => ?_, fun _ => q _ _ _⟩
      have : eqv (pN (h1, h2)) (pN (1, 1)) = false := nT z
      rw [eqvN, he] at this
      cases this
    | false =>
      rw [he, cond_false] at q
      obtain ⟨⟨t1, t2, t3, t4, t5, t6, t7⟩, ht⟩ := rowT_step ht he
      have ih := row_loop (D := D) (M := M) hm k h1 h2 _ _ (acc ++ [(h1, h2)]) (some (.v (.int (((m : Int) + (a2 : Int)) / (h2 : Int))))) ht (by rw [List.length_append, List.length_singleton]; omega) fun x2 x3 x4 => by
        have := q x2 x3 x4
        rw [List.append_assoc]
        exact this
      rw [mapN] at ih
      unfold pN at ih
      rw [← castN t4, ← castN t5] at ih
      refine ⟨⟨sh_pN (h1, h2), sh_pN (1, 1)⟩, fun _ => ⟨by rw [List.length_map]; omega, _, rfl, _, rfl, dv (by show (0 : Int) < (h2 : Int); omega) (by show (h2 : Int) < 2 ^ 100; omega), _, rfl, mul_r (by show -(2 ^ 64) < (h1 : Int); omega) (by show (h1 : Int) < 2 ^ 64; omega), _, rfl, _, rfl, mul_r (by show -(2 ^ 64) < (h2 : Int); omega) (by show (h2 : Int) < 2 ^ 64; omega), _, rfl, ih⟩, fun z => ?_⟩
      have : eqv (pN (h1, h2)) (pN (1, 1)) = true := nF z
      rw [eqvN, he] at this
      cases this
theorem rowL_len (m : Nat) : ∀ (n a1 a2 h1 h2 : Nat), (rowL m n a1 a2 h1 h2).length ≤ n
  | 0, _, _, _, _ => Nat.le_refl _
  | n + 1, a1, a2, h1, h2 => by
    rw [rowL]
    cases (Nat.beq h1 1 && Nat.beq h2 1) with
    | true => simp
    | false =>
      rw [cond_false, List.length_cons]
      have := rowL_len m n h1 h2 ((m + a2) / h2 * h1 - a1) ((m + a2) / h2 * h2 - a2)
      omega
theorem l_row : ∀ args M Q, sp_row args M Q → args.length = 1 ∧ b_row (fE Q) (fr0 4 args) M := fun args M Q h => by
  match args, h with
  | [.int m], ⟨⟨h1, h2⟩, hq⟩ =>
    have hz := line1
    refine ⟨rfl, fun _ => ⟨fun h => ?_, fun _ => ⟨1200, ?_⟩⟩, fun h => ?_⟩
    · have h : ¬ m ≤ 60 := of_decide_eq_false (nT h)
      omega
    · have ht := (rowO_ok (m := m.toNat) (by omega) (by omega))
      have em : ((m.toNat : Nat) : Int) = m := by omega
      have key := row_loop (D := { fE Q with nx := t_row_4 (fE Q) }) (M := M) (m := m.toNat) ⟨by omega, by omega⟩ 1200 0 1 1 m.toNat [(0, 1)] none ht.1 (by simp) fun x2 x3 x4 => ⟨by
        show ((([(0, 1)] ++ rowL m.toNat 1200 0 1 1 m.toNat).map pN).length + 1) ≤ sizeLine
        rw [List.length_map, List.length_append, List.length_singleton]
        have := rowL_len m.toNat 1200 0 1 1 m.toNat
        omega, by
        have hq : Q (.tup ((rowF m.toNat).map pN)) M := hq
        rw [rowF, List.map_cons, mapN] at hq
        exact hq⟩
      unfold pN at key
      rw [em] at key
      exact key
    · have h : ¬ 1 ≤ m := of_decide_eq_false h
      omega
/-! nearest -/
theorem l__nearer : ∀ args M Q, sp__nearer args M Q → args.length = 3 ∧ b__nearer (fE Q) (fr0 2 args) M := fun args M Q h => by
  match args, h with
  | [.tup [.int p, .int q], .tup [.int l0, .int l1], .tup [.int h0, .int h1]], ⟨⟨s1, s2, s3, s4, s5, s6⟩, hq⟩ =>
    have m5 : ∀ x, IntMulOk x l1 := fun x => mul_r (by omega) (by omega)
    have m6 : ∀ x, IntMulOk x h1 := fun x => mul_r (by omega) (by omega)
    refine ⟨rfl, _, rfl, _, rfl, m5 _, _, rfl, _, rfl, mulS s3 s2, _, rfl, m6 _, _, rfl, _, rfl, mulS s4 s2, _, rfl, _, rfl, m6 _, _, rfl, m5 _, fun h => ?_, fun h => ?_⟩
    · rw [if_pos (of_decide_eq_true h)] at hq
      exact hq
    · rw [if_neg (of_decide_eq_false h)] at hq
      exact hq
theorem ns_gcd {p q m l0 l1 h0 h1 : Int} (h : NS p q m l0 l1 h0 h1) : Int.gcd l0 l1 = 1 ∧ Int.gcd h0 h1 = 1 := by
  have := h.det
  constructor
  · rw [Int.gcd_comm]
    exact gcd_one (x := h0) (y := h1) (by grind)
  · exact gcd_one (x := l1) (y := l0) (by grind)
theorem ns_sm {p q m l0 l1 h0 h1 : Int} (hp : 0 ≤ p ∧ p < 2 ^ 100) (hq : 0 < q) (hm : m ≤ 2000) (h : NS p q m l0 l1 h0 h1) (g0 : 0 ≤ l0) (g1 : 0 ≤ h0) : Sm l0 ∧ Sm h0 ∧ Sm l1 ∧ Sm h1 ∧ Sm (l0 + h0) ∧ Sm (l1 + h1) := by
  obtain ⟨det, p1, p2, ml, mh, lo, hi⟩ := h
  have e1 : l0 * 1 ≤ l0 * q := Int.mul_le_mul_of_nonneg_left hq g0
  have e2 : p * l1 ≤ p * 2000 := Int.mul_le_mul_of_nonneg_left (by omega) hp.1
  have e3 : l0 * h1 ≤ l0 * 2000 := Int.mul_le_mul_of_nonneg_left (by omega) g0
  have e4 : h0 * 1 ≤ h0 * l1 := Int.mul_le_mul_of_nonneg_left (by omega) g1
  have k : ∀ x : Int, 0 ≤ x → x < 2 ^ 200 → Sm x := fun x h1 h2 => Sm_of (K := 200) (nab (by omega) h2)
  have b0 : l0 < 2 ^ 120 := by omega
  have b1 : h0 < 2 ^ 140 := by omega
  exact ⟨k _ g0 (by omega), k _ g1 (by omega), k _ (by omega) (by omega), k _ (by omega) (by omega), k _ (by omega) (by omega), k _ (by omega) (by omega)⟩
theorem near_loop {p q m : Int} {D : FEnds} {M : Sto} {x0 x4 : Option EV} (hp : 0 ≤ p ∧ p < 2 ^ 100) (hq : 0 < q ∧ q < 2 ^ 100) (hm : 1 ≤ m ∧ m ≤ 2000)
    (hD : ∀ x y, Near p q m x y → Int.gcd x y = 1 → D.rt (pP (x, y)) M) :
    ∀ (n : Nat) (lo : Int) (l0 l1 h0 h1 : Int) (x7 x8 : Option EV), NS p q m l0 l1 h0 h1 → 1 ≤ n → m + 2 ≤ l1 + h1 + n → 0 ≤ l0 → 0 ≤ h0 →
    foP (gN 7) w_nearest_1 D (rng lo n) [x0, some (.v (.int m)), some (.v (.int p)), some (.v (.int q)), x4, some (.v (pP (l0, l1))), some (.v (pP (h0, h1))), x7, x8] M
  | 0, lo, l0, l1, h0, h1, x7, x8, h, hn, hs, b0, b1 => by omega
  | n + 1, lo, l0, l1, h0, h1, x7, x8, h, hn, hs, b0, b1 => by
    obtain ⟨c1, c2, c3, c4, c5, c6⟩ := ns_sm hp hq.1 hm.2 h b0 b1
    have sp : Sm p := Sm_of (K := 100) (nab (by omega) hp.2)
    have sq : Sm q := Sm_of (K := 100) (nab (by omega) hq.2)
    have p1 := h.pl1
    have p2 := h.ph1
    have p3 := h.ml
    have p4 := h.mh
    refine ⟨_, rfl, _, rfl, _, rfl, _, rfl, _, rfl, fun hb => ?_, fun hb => ?_⟩
    · have hb : m < l1 + h1 := of_decide_eq_true hb
      refine ⟨⟨sp, sq, c1, c2, ⟨by omega, by omega⟩, ⟨by omega, by omega⟩⟩, ?_⟩
      have g := ns_gcd h
      split
      · rename_i hd
        exact hD _ _ (h.low hq.1 hb hd) g.1
      · rename_i hd
        have hd : ¬ (p * l1 - l0 * q) * h1 ≤ (h0 * q - p * h1) * l1 := hd
        exact hD _ _ (h.high hq.1 hb (by omega)) g.2
    · have hb : ¬ m < l1 + h1 := of_decide_eq_false hb
      refine ⟨⟨sp, sq, c5, c6⟩, fun hc => ?_, fun hc => ?_⟩
      · have hc := sgn_ge (of_decide_eq_true hc)
        exact near_loop hp hq hm hD n (lo + 1) _ _ h0 h1 _ _ (h.left (by omega) hc) (by omega) (by omega) (by omega) b1
      · have hc := sgn_nge (of_decide_eq_false hc)
        exact near_loop hp hq hm hD n (lo + 1) l0 l1 _ _ _ _ (h.right (by omega) hc) (by omega) (by omega) b0 (by omega)
theorem l_nearest : ∀ args M Q, sp_nearest args M Q → args.length = 2 ∧ b_nearest (fE Q) (fr0 7 args) M := fun args M Q h => by
  match args, h with
  | [.tup [.int p, .int q], .int m], ⟨⟨h1, h2, h3, h4, h5, h6, h7⟩, hq⟩ =>
    refine ⟨rfl, ⟨h3, h5⟩, rfl, fun h => absurd (of_decide_eq_true h : p < 0) (by omega), fun _ => ⟨fun _ => ⟨fun h => ?_, fun _ => ⟨dv h3 h4, ⟨by decide, by decide⟩, ?_⟩⟩, fun h => ?_⟩⟩
    · have h : ¬ m ≤ 2000 := of_decide_eq_false (nT h)
      omega
    · have k0 : 0 ≤ p / q := Int.ediv_nonneg h1 (by omega)
      exact near_loop (D := { fE Q with nx := t_nearest_6 (fE Q) }) ⟨h1, h2⟩ ⟨h3, h4⟩ ⟨h6, h7⟩ (fun x y a b => hq x y a b) 5000 0 (p / q) 1 (p / q + 1) 1 none none (NS.start h3 h6) (by omega) (by omega) k0 (by omega)
    · have h : ¬ 1 ≤ m := of_decide_eq_false h
      omega
/-! numbers of ways -/
theorem bitsW_rev (ws : List (Bool × Int)) (w : Bool × Int) : bitsW (ws ++ [w]) = bitsW ws ++ List.replicate w.2.toNat w.1 := by
  induction ws with
  | nil => simp [bitsW]
  | cons a r ih => simp [bitsW, ih]
theorem numB_app (bs : List Bool) (s : Bool) : ∀ n : Nat, numB (List.replicate (n + 1) s ++ bs) = 2 * numB (List.replicate n s ++ bs) + bI s := fun n => rfl
theorem LIM_pow {n : Nat} (h : n ≤ 1260) : (2 : Int) ^ n < g_LIMIT := by
  have h1 : (2 : Int) ^ n ≤ 2 ^ 1260 := ipow_right (by omega) h
  have h2 : (2 : Int) ^ 1260 < g_LIMIT := by unfold g_LIMIT; decide +kernel
  omega
theorem num_in {D : FEnds} {M : Sto} {x0 x3 : Option EV} {s : Bool} {bs : List Bool} : ∀ (n : Nat) (lo : Int) (x4 : Option EV) (bs : List Bool), bs.length + n ≤ 1250 → (∀ x4, D.nx [x0, some (.v (.int (numB (List.replicate n s ++ bs)))), some (.v (sS s)), x3, x4] M) →
    foP (gN 4) w_number_of_2 D (rng lo n) [x0, some (.v (.int (numB bs))), some (.v (sS s)), x3, x4] M
  | 0, lo, x4, bs, _, q => q x4
  | n + 1, lo, x4, bs, hl, q => by
    have ih := fun x4 => num_in (D := D) (M := M) (x0 := x0) (x3 := x3) (s := s) (bs := bs) n (lo + 1) x4 (s :: bs) (by rw [List.length_cons]; omega) fun x4 => by
      have := q x4
      rw [show List.replicate n s ++ s :: bs = List.replicate (n + 1) s ++ bs by rw [List.replicate_succ', List.append_assoc]; rfl]
      exact this
    have hn := numB_pos (s :: bs)
    have hL := LIM_pow (n := (s :: bs).length + 1) (by rw [List.length_cons]; omega)
    have fin : ∀ v : Int, v = numB (s :: bs) → (cGe v g_LIMIT = true → False) := fun v e h => by
      have h : g_LIMIT ≤ v := of_decide_eq_true h
      omega
    refine ⟨mul_l (by omega) (by omega), ⟨okS_str s, okR⟩, fun h => ?_, fun h => ?_⟩
    · have hs : s = true := by rw [← eqR s]; exact h
      subst hs
      exact ⟨fun h => (fin _ rfl h).elim, fun _ => ih _⟩
    · have hs : s = false := by rw [← eqR s]; exact h
      subst hs
      exact ⟨fun h => (fin _ rfl h).elim, fun _ => ih _⟩
theorem num_out {D : FEnds} {M : Sto} {x0 : Option EV} : ∀ (ws : List (Bool × Int)) (x2 x3 x4 : Option EV) (bs : List Bool), bs.length + (bitsW ws).length ≤ 1250 → (∀ w ∈ ws, 0 ≤ w.2 ∧ w.2 < 2 ^ 40) →
    (∀ x2 x3 x4, D.nx [x0, some (.v (.int (numB (bitsW ws ++ bs)))), x2, x3, x4] M) →
    foP (gS 2 (gsCons (gN 2) (gsCons (gN 3) gsNil))) w_number_of_1 D (ws.reverse.map pW) [x0, some (.v (.int (numB bs))), x2, x3, x4] M := by
  intro ws
  generalize hr : ws.reverse = rs
  induction rs generalizing ws with
  | nil =>
    intro x2 x3 x4 bs _ _ q
    have : ws = [] := by simpa using hr
    subst this
    exact q x2 x3 x4
  | cons w rs ih =>
    intro x2 x3 x4 bs hl hw q
    obtain ⟨s, k⟩ := w
    have e : ws = rs.reverse ++ [(s, k)] := by rw [← List.reverse_reverse (as := ws), hr, List.reverse_cons]
    have hk := hw (s, k) (by rw [e]; simp)
    have hk0 : 0 ≤ k := hk.1
    have hk1 : k < 2 ^ 40 := hk.2
    have eb : bitsW ws = bitsW rs.reverse ++ List.replicate k.toNat s := by rw [e, bitsW_rev]
    rw [eb, List.length_append, List.length_replicate] at hl
    refine ⟨rfl, ⟨by show -(2 ^ 62) ≤ k; omega, by show k < 2 ^ 62; omega⟩, ?_⟩
    refine num_in (D := { D with nx := foP (gS 2 (gsCons (gN 2) (gsCons (gN 3) gsNil))) w_number_of_1 D (rs.map pW), ct := foP (gS 2 (gsCons (gN 2) (gsCons (gN 3) gsNil))) w_number_of_1 D (rs.map pW), bk := D.nx }) (s := s) (bs := bs) k.toNat 0 x4 bs (by omega) fun x4 => ?_
    refine ih rs.reverse (by rw [List.reverse_reverse]) _ _ x4 _ (by rw [List.length_append, List.length_replicate]; omega) (fun w hw' => hw w (by rw [e]; simp at hw' ⊢; exact .inl hw')) fun x2 x3 x4 => ?_
    rw [← List.append_assoc, ← eb]
    exact q x2 x3 x4
theorem l_number_of : ∀ args M Q, sp_number_of args M Q → args.length = 1 ∧ b_number_of (fE Q) (fr0 4 args) M := fun args M Q h => by
  match args, h with
  | [.tup [.int p, .int q]], ⟨l, ⟨h1, h2, h3, h4⟩, hq⟩ =>
    refine ⟨rfl, l, ⟨h1, h2, h3⟩, foP_eq (ys := (wayQ true l).reverse.map pW) (by rw [List.map_reverse]) ?_⟩
    have key := num_out (D := { fE Q with nx := t_number_of_2 (fE Q) }) (M := M) (x0 := some (.v (.tup [.int p, .int q]))) (wayQ true l) none none none [] (by simpa using h4) (fun w hw => by
      have := wayQ_mem true h1 w hw
      rcases this.2 with z | z
      · have := h2.2 _ z; omega
      · have := h2.2 _ z; omega) fun x2 x3 x4 => by
        rw [List.append_nil]
        exact hq
    exact key
end Fl

end

section
set_option exponentiation.threshold 20000
namespace Fl
open PySem PySem.Spec PyProof.Rows L2
def iB (b : Bool) : PV := .int (bI b)
theorem mapB (l : List Bool) (b : Bool) : (l ++ [b]).map iB = l.map iB ++ [iB b] := by rw [List.map_append]; rfl
theorem at_bits {D : FEnds} {M : Sto} {x0 x1 x2 x5 : Option EV} : ∀ (bs acc : List Bool), acc.length + bs.length ≤ 3000 → D.nx [x0, x1, x2, some (.b ((acc ++ bs).map iB)), some (.v (.int 1)), x5] M →
    whP c_at_number_1 w_at_number_1 D (bs.length + 1) [x0, x1, x2, some (.b (acc.map iB)), some (.v (.int (numB bs))), x5] M
  | [], acc, hl, q => by
    rw [List.append_nil] at q
    exact ⟨fun h => (nomatch h), fun _ => q⟩
  | b :: bs, acc, hl, q => by
    have hz := line1
    have hn := (numB_pos bs).1
    rw [List.length_cons] at hl
    have ih := at_bits (D := D) (M := M) (x0 := x0) (x1 := x1) (x2 := x2) (x5 := x5) bs (acc ++ [b]) (by rw [List.length_append, List.length_singleton]; omega) (by rw [List.append_assoc]; exact q)
    have e1 : numB (b :: bs) % 2 = bI b := by rw [numB]; cases b <;> simp [bI] <;> omega
    have e2 : numB (b :: bs) / 2 = numB bs := by rw [numB]; cases b <;> simp [bI] <;> omega
    have e3 : 1 < numB (b :: bs) := by rw [numB]; cases b <;> simp [bI] <;> omega
    rw [mapB, iB, ← e1, ← e2] at ih
    refine ⟨fun _ => ⟨by omega, by rw [List.length_map]; omega, dv (by omega) (by omega), ih⟩, fun h => ?_⟩
    have : ¬ 1 < numB (b :: bs) := of_decide_eq_false h
    omega
theorem at_fold {D : FEnds} {M : Sto} {x0 x3 x4 : Option EV} : ∀ (bs : List Bool) (x5 : Option EV) (r : List Bool), (∀ x5, D.nx [x0, some (.v (.int (FB (bs ++ r)).1)), some (.v (.int (FB (bs ++ r)).2)), x3, x4, x5] M) →
    foP (gN 5) w_at_number_2 D (bs.reverse.map iB) [x0, some (.v (.int (FB r).1)), some (.v (.int (FB r).2)), x3, x4, x5] M := by
  intro bs
  generalize hr : bs.reverse = rs
  induction rs generalizing bs with
  | nil =>
    intro x5 r q
    have : bs = [] := by simpa using hr
    subst this
    exact q x5
  | cons b rs ih =>
    intro x5 r q
    have e : bs = rs.reverse ++ [b] := by rw [← List.reverse_reverse (as := bs), hr, List.reverse_cons]
    have ih := fun x5 => ih rs.reverse (by rw [List.reverse_reverse]) x5 (b :: r) fun x5 => by
      have := q x5
      rw [e, List.append_assoc] at this
      exact this
    cases b
    · exact ⟨fun h => (nomatch h), fun _ => ih _⟩
    · exact ⟨fun _ => ih _, fun h => (nomatch h)⟩
theorem l_at_number : ∀ args M Q, sp_at_number args M Q → args.length = 1 ∧ b_at_number (fE Q) (fr0 5 args) M := fun args M Q h => by
  match args, h with
  | [.int n], ⟨bs, ⟨hn, hl⟩, hq⟩ =>
    subst hn
    have hp := (numB_pos bs).1
    refine ⟨rfl, fun h => absurd (of_decide_eq_true h : numB bs < 1) (by omega), fun _ => ⟨rfl, _, at_bits (D := { fE Q with nx := t_at_number_5 (fE Q) }) bs [] (by simp; omega) ?_⟩⟩
    have key := at_fold (D := { fE Q with nx := t_at_number_6 (fE Q) }) (M := M) (x0 := some (.v (.int (numB bs)))) (x3 := some (.v (.lst (bs.map iB)))) (x4 := some (.v (.int 1))) bs none [] fun x5 => by
      rw [List.append_nil]
      exact hq
    rw [List.map_reverse] at key
    rw [List.nil_append]
    exact key
theorem l_next_in_row : ∀ args M Q, sp_next_in_row args M Q → args.length = 1 ∧ b_next_in_row (fE Q) (fr0 2 args) M := fun args M Q h => by
  match args, h with
  | [.tup [.int p, .int q]], ⟨⟨h1, h2, h3, h4, h5⟩, hq⟩ =>
    have e := Int.emod_add_mul_ediv p q
    have e1 := Int.emod_lt_of_pos p h3
    have e2 := Int.emod_nonneg p (show q ≠ 0 by omega)
    have k0 : 0 ≤ p / q := Int.ediv_nonneg (by omega) (by omega)
    have k1 : p / q ≤ p := Int.ediv_le_self q (by omega)
    have eq : 2 * (p / q) * q = q * (p / q) + q * (p / q) := by grind
    have kq : 0 ≤ q * (p / q) := Int.mul_nonneg (by omega) k0
    have hg := nextF_gcd h5
    have pos : 0 < 2 * (p / q) * q + q - p := by omega
    have hb : 2 * (p / q) * q + q - p < 2 ^ 1250 := by omega
    have d1 := dvN (K := 1200) (by omega) h3 (nab (by omega) h4)
    have m1 : IntMulOk 2 (p / q) := mul_l (by omega) (by omega)
    have m2 : IntMulOk (2 * (p / q)) q := mul_b (K := 1300) (by omega) (nab (by omega) (by omega)) (nab (by omega) (by omega))
    have f1 : q ≠ 0 → 2 * (p / q) * q + q - p ≠ 0 := fun _ => by omega
    have f2 : LM q := LM_of (nab (by omega) (by omega))
    have f3 : LM (2 * (p / q) * q + q - p) := LM_of (nab (by omega) (by omega))
    have f4 : 2 * (p / q) * q + q - p < 0 → Int.gcd q (2 * (p / q) * q + q - p) < 1000 := fun z => absurd z (by omega)
    refine ⟨rfl, ⟨h1, h3, h5⟩, rfl, d1, m1, m2, ⟨f1 (by omega), f2, f3, f4⟩, ?_⟩
    have : lowF q (2 * (p / q) * q + q - p) = nextF p q := by
      unfold lowF
      have hg : Int.gcd q (2 * (p / q) * q + q - p) = 1 := hg
      rw [if_neg (by omega), hg]
      simp [nextF]
    show Q (pP (lowF q (2 * (p / q) * q + q - p))) M
    rw [this]
    exact hq
/-! the law's own -/
theorem lshared_loop {D : FEnds} {M : Sto} {x0 x1 : Option EV} : ∀ (k : Nat) (a b : Int), b.toNat ≤ k → 0 ≤ a → 0 ≤ b → D.nx [x0, x1, some (.v (.int (Int.gcd a b : Int))), some (.v (.int 0))] M →
    whP c__law_shared_1 w__law_shared_1 D (k + 1) [x0, x1, some (.v (.int a)), some (.v (.int b))] M
  | k, a, b, hk, ha, hb, q => by
    refine ⟨fun h => ?_, fun h => ?_⟩
    · have h := eqN (nT h)
      match k, hk with
      | 0, hk => omega
      | k + 1, hk =>
        have h1 := Int.emod_lt_of_pos a (show 0 < b by omega)
        have h2 := Int.emod_nonneg a h
        exact ⟨by omega, lshared_loop k b (a % b) (by omega) hb h2 (by rw [gcd_step a b (by omega)]; exact q)⟩
    · have h := eqD (nF h)
      subst h
      rw [Int.gcd_zero_right, show ((a.natAbs : Nat) : Int) = a by omega] at q
      exact q
theorem l__law_shared : ∀ args M Q, sp__law_shared args M Q → args.length = 2 ∧ b__law_shared (fE Q) (fr0 2 args) M := fun args M Q h => by
  match args, h with
  | [.int a, .int b], hq =>
    have hq : Q (.int (Int.gcd a b : Int)) M := hq
    have := lshared_loop (D := { fE Q with nx := t__law_shared_2 (fE Q) }) (M := M) (x0 := some (.v (.int a))) (x1 := some (.v (.int b))) b.natAbs (a.natAbs : Int) (b.natAbs : Int) (by omega) (by omega) (by omega) (by
      rw [show Int.gcd (a.natAbs : Int) (b.natAbs : Int) = Int.gcd a b by rw [Int.gcd_eq_natAbs_gcd_natAbs, Int.gcd_eq_natAbs_gcd_natAbs, Int.natAbs_natCast, Int.natAbs_natCast]]
      exact hq)
    rw [← abI, ← abI] at this
    exact ⟨rfl, _, this⟩
theorem l__law_low : ∀ args M Q, sp__law_low args M Q → args.length = 2 ∧ b__law_low (fE Q) (fr0 1 args) M := fun args M Q h => by
  match args, h with
  | [.int n, .int u], ⟨⟨h1, h2⟩, hq⟩ =>
    have hg := gcd_pos (a := n) (show u ≠ 0 by omega)
    have hl := gcd_le (n := n) (show u ≠ 0 by omega)
    have hd := dvN (K := 4000) (by omega) hg (show (Int.gcd n u : Int).natAbs < 2 ^ 4000 from Nat.lt_of_le_of_lt (by omega) h2)
    exact ⟨rfl, hd, hd, hq⟩
theorem lpow_loop {b : Int} {D : FEnds} {M : Sto} {x1 : Option EV} {n : Nat} (h0 : 0 ≤ b) (hb : b < 2 ^ 4000) (hn : b ^ (n + 1) < 2 ^ 4000) : ∀ (j i : Nat) (lo : Int) (x3 : Option EV), i + j = n → (∀ x3, D.nx [some (.v (.int b)), x1, some (.v (.int (b ^ n))), x3] M) →
    foP (gN 3) w__law_power_1 D (rng lo j) [some (.v (.int b)), x1, some (.v (.int (b ^ i))), x3] M
  | 0, i, lo, x3, hi, q => by
    rw [show i = n by omega]
    exact q x3
  | j + 1, i, lo, x3, hi, q => by
    have ih := lpow_loop h0 hb hn j (i + 1) (lo + 1) (some (.v (.int lo))) (by omega) q
    rw [Int.pow_succ] at ih
    exact ⟨mul_b (K := 4000) (by omega) (pow_le h0 (by omega) hn (by omega)) (nab (by omega) hb), ih⟩
theorem l__law_power : ∀ args M Q, sp__law_power args M Q → args.length = 2 ∧ b__law_power (fE Q) (fr0 2 args) M := fun args M Q h => by
  match args, h with
  | [.int b, .int e], ⟨⟨h1, h2, h3, h4, h5⟩, hq⟩ =>
    refine ⟨rfl, ⟨by omega, by omega⟩, ?_⟩
    have key := lpow_loop (D := { fE Q with nx := t__law_power_2 (fE Q) }) (M := M) (x1 := some (.v (.int e))) (n := e.toNat) h1 h5 h4 e.toNat 0 0 none (by omega) fun x3 => hq
    rw [Int.pow_zero] at key
    exact key
theorem b2one (x : Int) : (if decide (x = 0) = true then (1 : Int) else 0) = if x = 0 then 1 else 0 := by
  by_cases h : x = 0 <;> simp [h]
theorem lway_loop {D : FEnds} {M : Sto} {x0 x1 : Option EV} : ∀ (l : List Int) (s : Bool) (acc : List (Bool × Int)) (x6 : Option EV), okQ0 l → fewQ l → acc.length + l.length < 1000 →
    (∀ x3 x5 x6, D.nx [x0, x1, some (.b ((acc ++ wayQ s l).map pW)), x3, some (.v (.int 0)), x5, x6] M) →
    whP c__law_way_1 w__law_way_1 D (l.length + 1) [x0, x1, some (.b (acc.map pW)), some (.v (.int (cf l).1)), some (.v (.int (cf l).2)), some (.v (.int (bI (!s)))), x6] M
  | [], s, acc, x6, h, hm, hl, q => h.elim
  | [x], s, acc, x6, h, hm, hl, q => by
    have h : 2 ≤ x := h
    have hz := line1
    rw [cf_one]
    show whP c__law_way_1 w__law_way_1 D 2 [x0, x1, some (.b (acc.map pW)), some (.v (.int x)), some (.v (.int 1)), some (.v (.int (bI (!s)))), x6] M
    have e : x / 1 = x := Int.ediv_one x
    have e0 : x % 1 = 0 := Int.emod_one x
    have fin : ∀ y z : PV, whP c__law_way_1 w__law_way_1 D 1 [x0, x1, some (.b (acc.map pW ++ [.tup [sS s, .int (x - 1)]])), some (.v y), some (.v (.int 0)), some (.v z), some (.v (.int (x - 1)))] M := fun y z =>
      ⟨fun h => (nomatch h), fun _ => by
        have q := q (some (.v y)) (some (.v z)) (some (.v (.int (x - 1))))
        rw [wayQ, mapW] at q
        exact q⟩
    have ev : x / 1 - (if decide (x % 1 = 0) = true then (1 : Int) else 0) = x - 1 := by rw [e, e0]; rfl
    refine ⟨fun _ => ⟨⟨by omega, by decide +kernel⟩, by omega, ?_⟩, fun h => ?_⟩
    · have body : w__law_way_1_1 { D with nx := whP c__law_way_1 w__law_way_1 D 1, ct := whP c__law_way_1 w__law_way_1 D 1, bk := D.nx } [x0, x1, some (.b (acc.map pW)), some (.v (.int x)), some (.v (.int 1)), some (.v (.int (bI (!s)))), some (.v (.int (x - 1)))] M := by
        refine ⟨fun _ => ⟨sS s, by cases s <;> rfl, by rw [List.length_map]; omega, by omega, ?_⟩, fun h2 => ?_⟩
        · have f := fin (.int 1) (.int (1 - bI (!s)))
          rw [← e0] at f
          exact f
        · have : ¬ 0 < x - 1 := of_decide_eq_false h2
          omega
      rw [← ev] at body
      exact body
    · cases h
  | q :: e :: r, s, acc, x6, h, hm, hl, hq => by
    have hz := line1
    have hc := okQ.cf h.2
    have hb := (cf_bits hm.tail).1
    have hq0 := h.1
    have ih := fun acc' x6 h1 => lway_loop (D := D) (M := M) (x0 := x0) (x1 := x1) (e :: r) (!s) acc' x6 h.2.zero hm.tail h1
    rw [cf_cons]
    rw [wayQ] at hq
    generalize cf (e :: r) = p at *
    have ee := eu (q := q) (by omega : 0 ≤ p.2) hc.2
    show whP c__law_way_1 w__law_way_1 D ((e :: r).length + 2) [x0, x1, some (.b (acc.map pW)), some (.v (.int (q * p.1 + p.2))), some (.v (.int p.1)), some (.v (.int (bI (!s)))), x6] M
    generalize q * p.1 + p.2 = n at *
    have hp : 0 < p.1 := by omega
    have hne : ¬ n % p.1 = 0 := by omega
    have ev : n / p.1 - (if decide (n % p.1 = 0) = true then (1 : Int) else 0) = q := by rw [decide_eq_false hne, ee.1]; simp
    have es : (1 : Int) - bI (!s) = bI (!!s) := by cases s <;> rfl
    rw [List.length_cons] at hl
    refine ⟨fun _ => ⟨dvN (K := 1200) (by omega) hp hb, hp, ?_⟩, fun h => ?_⟩
    · have body : w__law_way_1_1 { D with nx := whP c__law_way_1 w__law_way_1 D ((e :: r).length + 1), ct := whP c__law_way_1 w__law_way_1 D ((e :: r).length + 1), bk := D.nx } [x0, x1, some (.b (acc.map pW)), some (.v (.int n)), some (.v (.int p.1)), some (.v (.int (bI (!s)))), some (.v (.int q))] M := by
        refine ⟨fun h3 => ⟨sS s, by cases s <;> rfl, by rw [List.length_map]; omega, hp, ?_⟩, fun h3 => ⟨hp, ?_⟩⟩
        · have h3 : 0 < q := of_decide_eq_true h3
          rw [if_pos h3] at hq
          have ih := ih (acc ++ [(s, q)]) (some (.v (.int q))) (by rw [List.length_append, List.length_singleton]; omega) fun x3 x5 x6 => by
            have := hq x3 x5 x6
            rw [List.append_assoc]
            exact this
          rw [mapW, ← ee.2, ← es] at ih
          exact ih
        · have h3 : ¬ 0 < q := of_decide_eq_false h3
          rw [if_neg h3] at hq
          have ih := ih acc (some (.v (.int q))) (by omega) hq
          rw [← ee.2, ← es] at ih
          exact ih
      rw [← ev] at body
      exact body
    · have : decide (p.1 = 0) = true := nF h
      have := of_decide_eq_true this
      omega
theorem l__law_way : ∀ args M Q, sp__law_way args M Q → args.length = 2 ∧ b__law_way (fE Q) (fr0 5 args) M := fun args M Q h => by
  match args, h with
  | [.int p, .int q], ⟨l, ⟨h1, h2, h3⟩, hq⟩ =>
    have key := lway_loop (D := { fE Q with nx := t__law_way_2 (fE Q) }) (M := M) (x0 := some (.v (.int p))) (x1 := some (.v (.int q))) l true [] none h1 h2 (by have := h2.1; simp; omega) fun x3 x5 x6 => hq
    rw [h3] at key
    exact ⟨rfl, rfl, rfl, rfl, rfl, rfl, _, key⟩
end Fl

end

section
set_option exponentiation.threshold 20000
namespace Fl
open PySem PySem.Spec PyProof.Rows L2
theorem quo_fold {D : FEnds} {M : Sto} {x0 : Option EV} : ∀ (l : List Int) (x3 : Option EV) (r : List Int), (∀ q ∈ l, 0 ≤ q ∧ q < 131000) → (∀ x3, D.nx [x0, some (.v (.int (cf (l ++ r)).1)), some (.v (.int (cf (l ++ r)).2)), x3] M) →
    foP (gN 3) w__law_of_quotients_1 D (l.reverse.map .int) [x0, some (.v (.int (cf r).1)), some (.v (.int (cf r).2)), x3] M := by
  intro l
  generalize hr : l.reverse = rs
  induction rs generalizing l with
  | nil =>
    intro x3 r _ q
    have : l = [] := by simpa using hr
    subst this
    exact q x3
  | cons b rs ih =>
    intro x3 r hl q
    have e : l = rs.reverse ++ [b] := by rw [← List.reverse_reverse (as := l), hr, List.reverse_cons]
    have hb := hl b (by rw [e]; simp)
    have ih := fun x3 => ih rs.reverse (by rw [List.reverse_reverse]) x3 (b :: r) (fun q hq => hl q (by rw [e]; simp at hq ⊢; exact .inl hq)) fun x3 => by
      have := q x3
      rw [e, List.append_assoc] at this
      exact this
    exact ⟨mul_l (by omega) (by omega), ih _⟩
theorem l__law_of_quotients : ∀ args M Q, sp__law_of_quotients args M Q → args.length = 1 ∧ b__law_of_quotients (fE Q) (fr0 3 args) M := fun args M Q h => by
  match args, h with
  | [.lst xs], ⟨l, hx, hl, hq⟩ =>
    subst hx
    have key := quo_fold (D := { fE Q with nx := t__law_of_quotients_2 (fE Q) }) (M := M) (x0 := some (.v (.lst (l.map .int)))) l none [] hl.2 fun x3 => by
      rw [List.append_nil]
      exact hq
    rw [List.map_reverse] at key
    exact ⟨rfl, rfl, key⟩
theorem Sm_le {x y : Int} (h0 : 0 ≤ x) (h : x ≤ y) (hy : Sm y) : Sm x := by
  unfold Sm at *
  omega
theorem l__law_plain (n : Nat) : ∀ args M Q, spr__law_plain (n + 1) args M Q → args.length = 2 ∧ b__law_plain (spr__law_plain n) (fE Q) (fr0 2 args) M := fun args M Q h => by
  match args, h with
  | [.tup [.int a, .int b], .tup [.int c, .int d]], ⟨⟨hp, sa, sb, sc, sd⟩, hq⟩ =>
    have ha := hp.a0
    have hb := hp.b0
    have hd0 := hp.d0
    have d1 := dvN (K := 4000) (by omega) hb sb
    have w0 : 0 ≤ a / b := Int.ediv_nonneg ha (by omega)
    have w1 : a / b ≤ a := Int.ediv_le_self b ha
    have sw : (a / b + 1).natAbs < 2 ^ 4001 := by
      have := bna sa
      have e : (2 : Int) ^ 4001 = 2 ^ 4000 + 2 ^ 4000 := by rw [Int.pow_succ]; omega
      exact nab (by omega) (by omega)
    have m1 : IntMulOk (a / b + 1) d := mul_b (K := 4001) (by omega) sw (bits_up sd (by omega))
    refine ⟨rfl, _, rfl, _, rfl, d1, _, rfl, m1, _, rfl, fun h => ?_, fun h => ?_⟩
    · have h : (a / b + 1) * d < c := of_decide_eq_true h
      exact hq _ _ (Plain.whole ha hb hd0 h)
    · have h : ¬ (a / b + 1) * d < c := of_decide_eq_false h
      obtain ⟨hd, hn⟩ := hp.next h
      have e1 := Int.emod_lt_of_pos a hb
      have e2 := Int.emod_nonneg a (show b ≠ 0 by omega)
      have le1 : c - a / b * d ≤ d := by
        have : (a / b + 1) * d = a / b * d + d := by grind
        omega
      have m2 : IntMulOk (a / b) d := mul_b (K := 4000) (by omega) (Sm_le w0 w1 sa) sd
      refine ⟨_, rfl, _, rfl, _, rfl, m2, _, rfl, _, rfl, _, rfl, hb, ⟨hn, sd, Sm_le (by have := hn.b0; omega) le1 sd, sb, Sm_le e2 (by omega) sb⟩, fun x y hxy => ?_⟩
      have bd := hxy.bound hn.b0 hn.d0 hn.lt
      have x0 : 0 < x := by
        have p1 := hxy.lo
        have p2 := hn.b0
        have p3 : 0 < d * y := Int.mul_pos hd hxy.y0
        exact pos_of_mul (a := c - a / b * d) (by grind) p2
      have sx : x.natAbs < 2 ^ 4001 := by
        have := bna sb
        have := bna sd
        have e : (2 : Int) ^ 4001 = 2 ^ 4000 + 2 ^ 4000 := by rw [Int.pow_succ]; omega
        exact nab (by omega) (by omega)
      have m3 : IntMulOk (a / b) x := mul_b (K := 4001) (by omega) (bits_up (Sm_le w0 w1 sa) (by omega)) sx
      exact ⟨_, rfl, m3, _, rfl, _, rfl, hq _ _ (hxy.inner ha hb hd (by omega) hp.lt)⟩
theorem no__law_plain : ∀ args M Q, ¬ spr__law_plain 0 args M Q := fun args M Q h => by
  match args, h with
  | [.tup [.int a, .int b], .tup [.int c, .int d]], ⟨⟨hp, _⟩, _⟩ => exact PD.zero hp
end Fl

end

section
set_option exponentiation.threshold 20000
namespace Fl
open PySem PySem.Spec PyProof.Rows L2
def lowP (n u : Int) : P2 := (n / (Int.gcd n u : Int), u / (Int.gcd n u : Int))
theorem lowF_pos {n u : Int} (h : 0 < u) : lowF n u = lowP n u := by
  unfold lowF lowP
  rw [if_neg (by omega)]
theorem ok_pP (p : P2) : sameOk 6 (pP p) := ⟨by show 2 ≤ 100000; omega, fun x hx => by
  have : x = .int p.1 ∨ x = .int p.2 := by simpa [pP] using hx
  rcases this with e | e <;> rw [e] <;> trivial⟩
theorem gcd_mulr {a b k : Int} (h : Int.gcd a b = 1) (hk : 0 < k) : (Int.gcd (a * k) (b * k) : Int) = k := by
  rw [Int.gcd_mul_right, h]
  omega
structure FR (a b c d : Int) : Prop where
  a0 : 0 < a
  b0 : 0 < b
  c0 : 0 < c
  d0 : 0 < d
  g1 : Int.gcd a b = 1
  sa : a < 2 ^ 300
  sb : b < 2 ^ 300
  sc : c < 2 ^ 300
  sd : d < 2 ^ 300
theorem bit300 {x : Int} (h0 : 0 < x) (h : x < 2 ^ 300) : x.natAbs < 2 ^ 300 := nab (by omega) h
theorem FR.sm {a b c d : Int} (h : FR a b c d) : smP a b ∧ smP c d ∧ smP (0 - a) b := by
  obtain ⟨a0, b0, c0, d0, g1, sa, sb, sc, sd⟩ := h
  have e : (2 : Int) ^ 300 < 2 ^ 600 := by decide +kernel
  exact ⟨⟨nab (by omega) (by omega), b0, by omega⟩, ⟨nab (by omega) (by omega), d0, by omega⟩, ⟨nab (by omega) (by omega), b0, by omega⟩⟩
def sign3 (x : Int) : Int := (if decide (0 < x) = true then 1 else 0) - (if decide (x < 0) = true then 1 else 0)
theorem sign3_sgn (x y : Int) : sgn x y = sign3 (x - y) := by
  unfold sgn sign3
  by_cases h1 : y < x
  · rw [if_pos h1, if_pos (decide_eq_true (by omega)), decide_eq_false (by omega)]; rfl
  · by_cases h2 : x < y
    · rw [if_neg h1, if_pos h2, decide_eq_false (by omega), decide_eq_true (by omega)]; rfl
    · rw [if_neg h1, if_neg h2, decide_eq_false (by omega), decide_eq_false (by omega)]; rfl
theorem neg_low {n u : Int} : lowP (-n) u = (-(lowP n u).1, (lowP n u).2) := by
  unfold lowP
  rw [Int.neg_gcd] 
  rw [Int.neg_ediv_of_dvd (Int.gcd_dvd_left ..)]
theorem due_ok {x u : Int} (hu : 0 < u) : lowF x u = ((lowP (x.natAbs : Int) u).1 * sign3 x, (lowP (x.natAbs : Int) u).2) := by
  rw [lowF_pos hu]
  unfold sign3
  rcases Int.lt_trichotomy x 0 with h | h | h
  · have e : (x.natAbs : Int) = -x := by omega
    rw [e, neg_low, decide_eq_false (by omega), decide_eq_true h]
    simp
  · subst h
    unfold lowP
    simp
  · have e : (x.natAbs : Int) = x := by omega
    rw [e, decide_eq_true h, decide_eq_false (by omega)]
    simp
theorem seven1 {a b : Int} (h : Int.gcd a b = 1) (hb : 0 < b) : lowF (0 - a * 7) (0 - b * 7) = (a, b) := by
  have g : (Int.gcd (0 - a * 7) (0 - b * 7) : Int) = 7 := by
    rw [Int.zero_sub, Int.zero_sub, Int.neg_gcd, Int.gcd_neg]
    exact gcd_mulr h (by omega)
  unfold lowF
  rw [if_pos (by omega), g]
  ext <;> simp <;> omega
theorem seven2 {a b : Int} (h : Int.gcd a b = 1) (hb : 0 < b) : lowF (a * 7) (0 - b * 7) = (0 - a, b) := by
  have g : (Int.gcd (a * 7) (0 - b * 7) : Int) = 7 := by
    rw [Int.zero_sub, Int.gcd_neg]
    exact gcd_mulr h (by omega)
  unfold lowF
  rw [if_pos (by omega), g]
  ext <;> simp <;> omega
theorem zero1 {a b : Int} (hb : 0 < b) : lowF (a * b - a * b) (b * b) = (0, 1) := by
  have p : 0 < b * b := Int.mul_pos hb hb
  rw [lowF_pos p]
  unfold lowP
  rw [Int.sub_self, Int.gcd_zero_left, show ((b * b).natAbs : Int) = b * b by omega, Int.zero_ediv, Int.ediv_self (by omega)]
theorem one1 {a b : Int} (ha : 0 < a) (hb : 0 < b) : lowF (a * b) (b * a) = (1, 1) := by
  have p : 0 < b * a := Int.mul_pos hb ha
  rw [lowF_pos p, Int.mul_comm a b]
  unfold lowP
  rw [Int.gcd_self, show ((b * a).natAbs : Int) = b * a by omega, Int.ediv_self (by omega)]
theorem neg1 {a b c d : Int} (hb : 0 < b) (hc : 0 < c) : lowF ((0 - a) * d) (b * c) = (0 - (lowP (a * d) (b * c)).1, (lowP (a * d) (b * c)).2) := by
  rw [lowF_pos (Int.mul_pos hb hc), show (0 - a) * d = -(a * d) by grind, neg_low, Int.zero_sub]
abbrev v (x : Int) : Option EV := some (.v (.int x))
section
variable {s : Addr} {a b c d n k base r e : Int} {M : Sto} {Q : PV → Sto → Prop}
/-- root and log -/
theorem fr12 {R : List PV} {x1 x2 x3 x4 x5 x6 x7 x8 x9 x15 : Option EV} (hg : Good R) (hl : R.length ≤ 50) (hn : 1 ≤ n ∧ n < 2 ^ 200) (hk : 1 ≤ k ∧ k ≤ 30) (hb : 2 ≤ base ∧ base < 2 ^ 60) (hr : 0 ≤ r ∧ r ^ k.toNat ≤ n ∧ n < (r + 1) ^ k.toNat) {e : Nat} (he : base ^ e ≤ n ∧ n < base ^ (e + 1)) (hq : Q (.bl true) M) :
    t__law_fractions_right_12 (fE Q) [some (.v (.cell s)), x1, x2, x3, x4, x5, x6, x7, x8, x9, some (.v (.lst R)), v n, v k, v base, v r, x15, v (base ^ e)] M := by
  obtain ⟨ps, e0, hps⟩ := hg
  rw [e0, List.length_map] at hl
  have r1 : 1 ≤ r := by
    rcases Int.lt_or_le r 1 with z | z
    · have : r = 0 := by omega
      have h := hr.2.2
      rw [this, Int.zero_add, Int.one_pow] at h
      omega
    · exact z
  have p1 : r ^ (k.toNat + 1) ≤ n * n := by
    have h1 : r ^ 1 ≤ r ^ k.toNat := ipow_right r1 (by omega)
    rw [Int.pow_succ r 0, Int.pow_zero, Int.one_mul] at h1
    rw [Int.pow_succ]
    exact Int.mul_le_mul hr.2.1 (by omega) (by omega) (by omega)
  have p2 : n * n ≤ 2 ^ 200 * 2 ^ 200 := Int.mul_le_mul (by omega) (by omega) (by omega) (by omega)
  have p3 : (r + 1) ^ (k.toNat + 1) ≤ (2 * r) ^ (k.toNat + 1) := ipow_left (by omega) (by omega) _
  have p4 : (2 * r) ^ (k.toNat + 1) = 2 ^ (k.toNat + 1) * r ^ (k.toNat + 1) := Int.mul_pow ..
  have p5 : (2 : Int) ^ (k.toNat + 1) ≤ 2 ^ 31 := ipow_right (by omega) (by omega)
  have p6 : (2 : Int) ^ (k.toNat + 1) * r ^ (k.toNat + 1) ≤ 2 ^ 31 * (2 ^ 200 * 2 ^ 200) := Int.mul_le_mul p5 (by omega) (Int.pow_nonneg (by omega)) (by omega)
  have p7 : (2 : Int) ^ 31 * (2 ^ 200 * 2 ^ 200) < 2 ^ 4000 := by decide +kernel
  have p8 : r ^ 1 ≤ r ^ k.toNat := ipow_right r1 (by omega)
  rw [Int.pow_succ r 0, Int.pow_zero, Int.one_mul] at p8
  have p9 : (2 : Int) ^ 200 * 2 ^ 200 < 2 ^ 4000 := by decide +kernel
  have p10 : (2 : Int) ^ 200 + 1 < 2 ^ 4000 := by decide +kernel
  have m1 : IntMulOk (base ^ e) base := mul_r (by omega) (by omega)
  refine ⟨ps, e0, by omega, hps, trivial, fun _ => ⟨⟨by omega, by omega, by omega, by omega, by omega⟩, fun _ => ⟨⟨by omega, by omega, by omega, by omega, by omega⟩, trivial, fun _ => ?_, fun h => ?_⟩, fun h => ?_⟩, fun h => (nomatch h)⟩
  · refine ⟨fun _ => ⟨m1, ?_⟩, fun h => ?_⟩
    · have : decide (n < base ^ e * base) = true := decide_eq_true (by rw [← Int.pow_succ]; exact he.2)
      show Q (.bl (decide (n < base ^ e * base))) M
      rw [this]
      exact hq
    · have h : ¬ base ^ e ≤ n := of_decide_eq_false h
      exact absurd he.1 h
  · have h : ¬ n < (r + 1) ^ k.toNat := of_decide_eq_false h
    exact absurd hr.2.2 h
  · have h : ¬ r ^ k.toNat ≤ n := of_decide_eq_false h
    exact absurd hr.2.1 h
theorem fr9 {R : List PV} {x1 x2 x3 x4 x5 x6 x7 x8 x9 : Option EV} (hg : Good R) (hl : R.length ≤ 50) (hM : okS M s) (hq : ∀ M', okS M' s → Q (.bl true) M') :
    t__law_fractions_right_9 (fE Q) [some (.v (.cell s)), x1, x2, x3, x4, x5, x6, x7, x8, x9, some (.v (.lst R)), none, none, none, none, none, none] M := by
  have w8 : ((10 : Int) ^ (8 : Int).toNat) = 10 ^ 8 := rfl
  have w50 : ((10 : Int) ^ (50 : Int).toNat) = 10 ^ 50 := rfl
  have w4 : ((10 : Int) ^ (4 : Int).toNat) = 10 ^ 4 := rfl
  refine ⟨⟨by decide, by decide, by decide⟩, hM, ⟨by decide, by decide⟩, fun r1 M1 a0 a1 hM1 => ⟨⟨by decide, by decide, by decide⟩, ?_⟩⟩
  rw [w8] at a1
  have m1 : IntMulOk r1 (10 ^ (50 : Int).toNat) := mul_l (by omega) (by omega)
  refine ⟨m1, ⟨by decide, by decide, by decide⟩, hM1, ⟨by decide, by decide⟩, fun r2 M2 b0 b1 hM2 => ?_⟩
  rw [w8] at b1
  refine ⟨hM2, ⟨by decide, by decide⟩, fun r3 M3 c0 c1 hM3 => ⟨⟨by decide, by decide, by decide⟩, hM3, ⟨by decide, by decide⟩, fun r4 M4 d0 d1 hM4 => ?_⟩⟩
  rw [w4] at d1
  have n0 : 0 ≤ r1 * 10 ^ 50 := Int.mul_nonneg a0 (by decide)
  have n1 : r1 * 10 ^ 50 ≤ 10 ^ 8 * 10 ^ 50 := Int.mul_le_mul_of_nonneg_right (by omega) (by decide)
  have n2 : (10 : Int) ^ 8 * 10 ^ 50 + 10 ^ 9 < 2 ^ 200 := by decide +kernel
  have key : ∀ n : Int, n = 1 + r1 * 10 ^ 50 + r2 → t__law_fractions_right_10 (fE Q) [some (.v (.cell s)), x1, x2, x3, x4, x5, x6, x7, x8, x9, some (.v (.lst R)), v n, v (1 + r3), v (2 + r4), none, none, none] M4 := fun n hn => by
    have hn1 : 1 ≤ n ∧ n < 2 ^ 200 := by omega
    have hb2 : (2 : Int) ^ 200 < 2 ^ 1000 := by decide +kernel
    refine ⟨⟨by omega, by omega, by omega, by omega⟩, fun r h0 h1 h2 => ⟨⟨by omega, by omega, by omega, by omega⟩, fun e g1 g2 => ?_⟩⟩
    have q1 : (2 : Int) ^ e ≤ (2 + r4) ^ e := ipow_left (by omega) (by omega) e
    have q2 : e < 200 := by
      rcases Nat.lt_or_ge e 200 with z | z
      · exact z
      · have : (2 : Int) ^ 200 ≤ 2 ^ e := ipow_right (by omega) z
        omega
    have q3 : (2 + r4) ^ (e + 1) < 2 ^ 4000 := by
      rw [Int.pow_succ]
      have : (2 + r4) ^ e * (2 + r4) ≤ 2 ^ 200 * 2 ^ 60 := Int.mul_le_mul (by omega) (by omega) (by omega) (by decide)
      have : (2 : Int) ^ 200 * 2 ^ 60 < 2 ^ 4000 := by decide +kernel
      omega
    have q4 : (2 : Int) ^ 60 < 2 ^ 4000 := by decide +kernel
    refine ⟨⟨by omega, by omega, by omega, by rw [Int.toNat_natCast]; exact q3, by omega⟩, ?_⟩
    have := fr12 (s := s) (x1 := x1) (x2 := x2) (x3 := x3) (x4 := x4) (x5 := x5) (x6 := x6) (x7 := x7) (x8 := x8) (x9 := x9) (x15 := v e) (n := n) (k := 1 + r3) (base := 2 + r4) (r := r) hg hl hn1 ⟨by omega, by omega⟩ ⟨by omega, by omega⟩ ⟨h0, h1, h2⟩ ⟨g1, g2⟩ (hq M4 hM4)
    rw [Int.toNat_natCast]
    exact this
  exact key _ rfl
end
end Fl

end

section
set_option exponentiation.threshold 20000
namespace Fl
open PySem PySem.Spec PyProof.Rows L2
section
variable {s : Addr} {a b c d : Int} {M : Sto} {Q : PV → Sto → Prop}
theorem FR.bits {a b c d : Int} (h : FR a b c d) : a.natAbs < 2 ^ 300 ∧ b.natAbs < 2 ^ 300 ∧ c.natAbs < 2 ^ 300 ∧ d.natAbs < 2 ^ 300 := ⟨bit300 h.a0 h.sa, bit300 h.b0 h.sb, bit300 h.c0 h.sc, bit300 h.d0 h.sd⟩
structure FM (a b c d : Int) : Prop where
  ad : IntMulOk a d
  cb : IntMulOk c b
  bd : IntMulOk b d
  ac : IntMulOk a c
  bc : IntMulOk b c
  nad : Sm (a * d)
  ncb : Sm (c * b)
  sbd : Sm (b * d)
  sbc : Sm (b * c)
  pbd : 0 < b * d
  pbc : 0 < b * c
theorem FR.m {a b c d : Int} (h : FR a b c d) : FM a b c d := by
  obtain ⟨q1, q2, q3, q4⟩ := h.bits
  have m : ∀ {x y : Int}, x.natAbs < 2 ^ 300 → y.natAbs < 2 ^ 300 → IntMulOk x y := fun h1 h2 => mul_b (K := 300) (by omega) h1 h2
  exact ⟨m q1 q4, m q3 q2, m q2 q4, m q1 q3, m q2 q3, Sm_of (mul_bits q1 q4), Sm_of (mul_bits q3 q2), Sm_of (mul_bits q2 q4), Sm_of (mul_bits q2 q3), Int.mul_pos h.b0 h.d0, Int.mul_pos h.b0 h.c0⟩
/-- the frame behind the first lines -/
abbrev ffr (s : Addr) (a b c d : Int) (rows : Option EV) : Fm := [some (.v (.cell s)), some (.v (pP (a, b))), some (.v (pP (c, d))), v a, v b, v c, v d, v (a * d - c * b), v (sign3 (a * d - c * b)), some (.v (pP (lowP ((a * d - c * b).natAbs : Int) (b * d)))), rows, none, none, none, none, none, none]
theorem fr8 (h : FR a b c d) {R : List PV} (hg : Good R) (hl : R.length ≤ 40) (hM : okS M s) (hq : ∀ M', okS M' s → Q (.bl true) M') : t__law_fractions_right_8 (fE Q) (ffr s a b c d (some (.v (.lst R)))) M := by
  have hz := line1
  obtain ⟨s1, s2, s3⟩ := h.sm
  have m := h.m
  have e1 : pP (lowF ((0 - a) * d) (b * c)) = .tup [.int (0 - (lowP (a * d) (b * c)).1), .int (lowP (a * d) (b * c)).2] := by rw [neg1 h.b0 h.c0]; rfl
  refine ⟨⟨s3, s2, h.c0⟩, m.ad, m.bc, ⟨m.pbc, m.sbc⟩, _, rfl, m.ad, m.bc, ⟨m.pbc, m.sbc⟩, _, rfl, ?_⟩
  exact ⟨by show R.length + 1 ≤ sizeLine; omega, fr9 (hg.app (.row e1 (ok_pP _) .nil)) (by rw [List.length_append]; show R.length + 1 ≤ 50; omega) hM hq⟩
theorem fr7 (h : FR a b c d) {R : List PV} (hg : Good R) (hl : R.length ≤ 30) (hM : okS M s) (hq : ∀ M', okS M' s → Q (.bl true) M') : t__law_fractions_right_7 (fE Q) (ffr s a b c d (some (.v (.lst R)))) M := by
  have hz := line1
  obtain ⟨s1, s2, s3⟩ := h.sm
  have m := h.m
  obtain ⟨q1, q2, q3, q4⟩ := h.bits
  have ha := h.a0
  have hb := h.b0
  have e1 : pP (lowF (0 - a * 7) (0 - b * 7)) = pP (a, b) := by rw [seven1 h.g1 h.b0]
  have e2 : pP (lowF (a * 7) (0 - b * 7)) = .tup [.int (0 - a), .int b] := by rw [seven2 h.g1 h.b0]; rfl
  have e3 : pP (lowF (a * b - a * b) (b * b)) = .tup [.int 0, .int 1] := by rw [zero1 h.b0]; rfl
  have e4 : pP (lowF (a * b) (b * a)) = .tup [.int 1, .int 1] := by rw [one1 h.a0 h.b0]; rfl
  have m7 : ∀ x : Int, IntMulOk x 7 := fun x => mul_r (by decide) (by decide)
  have b7 : ∀ x : Int, x.natAbs < 2 ^ 300 → LM (x * 7) ∧ LM (0 - x * 7) := fun x hx => by
    have h1 := bits_up (L := 1200) (mul_bits (L := 3) hx (show (7 : Int).natAbs < 2 ^ 3 by decide)) (by omega)
    have h2 : (0 : Int).natAbs < 2 ^ 1200 := by decide +kernel
    exact ⟨LM_of (bits_up h1 (by omega)), LM_of (bits_up (sub_bits h2 h1) (by omega))⟩
  have ga : ∀ u w : Int, Int.gcd (u) (w) = Int.gcd a b * 7 → Int.gcd u w < 1000 := fun u w e => by rw [e, h.g1]; omega
  have g1 : Int.gcd (0 - a * 7) (0 - b * 7) < 1000 := ga _ _ (by rw [Int.zero_sub, Int.zero_sub, Int.neg_gcd, Int.gcd_neg, Int.gcd_mul_right]; rfl)
  have g2 : Int.gcd (a * 7) (0 - b * 7) < 1000 := ga _ _ (by rw [Int.zero_sub, Int.gcd_neg, Int.gcd_mul_right]; rfl)
  have nb : 0 - b * 7 ≠ 0 := by omega
  refine ⟨m7 _, m7 _, ⟨nb, (b7 a q1).2, (b7 b q2).2, fun _ => g1⟩, m7 _, m7 _, ⟨nb, (b7 a q1).1, (b7 b q2).2, fun _ => g2⟩, ⟨s1, s1⟩, ⟨s1, s1, h.a0⟩, ?_⟩
  exact ⟨by show R.length + 4 ≤ sizeLine; omega, fr8 h (hg.app (.row e1 (ok_pP _) (.row e2 (ok_pP _) (.row e3 (ok_pP _) (.row e4 (ok_pP _) .nil))))) (by rw [List.length_append]; show R.length + 4 ≤ 40; omega) hM hq⟩
theorem fr6 (h : FR a b c d) {R : List PV} (hg : Good R) (hl : R.length ≤ 20) (hM : okS M s) (hq : ∀ M', okS M' s → Q (.bl true) M') : t__law_fractions_right_6 (fE Q) (ffr s a b c d (some (.v (.lst R)))) M := by
  have hz := line1
  obtain ⟨s1, s2, s3⟩ := h.sm
  have m := h.m
  obtain ⟨q1, q2, q3, q4⟩ := h.bits
  have e1 : pP (lowF (a * d) (b * c)) = pP (lowP (a * d) (b * c)) := by rw [lowF_pos m.pbc]
  have e2 : PV.int (sgn (a * d) (c * b)) = .int (sign3 (a * d - c * b)) := by rw [sign3_sgn]
  refine ⟨⟨s1, s2, h.c0⟩, m.ad, m.bc, ⟨m.pbc, m.sbc⟩, ⟨Sm_of q1, Sm_of q2, Sm_of q3, Sm_of q4⟩, ?_⟩
  exact ⟨by show R.length + 2 ≤ sizeLine; omega, fr7 h (hg.app (.row e1 (ok_pP _) (.row e2 trivial .nil))) (by rw [List.length_append]; show R.length + 2 ≤ 30; omega) hM hq⟩
theorem sign3_bd (x : Int) : -(2 ^ 64) < sign3 x ∧ sign3 x < 2 ^ 64 := by unfold sign3; split <;> split <;> omega
theorem fr5 (h : FR a b c d) {x10 : Option EV} (hM : okS M s) (hq : ∀ M', okS M' s → Q (.bl true) M') : t__law_fractions_right_5 (fE Q) (ffr s a b c d x10) M := by
  obtain ⟨s1, s2, s3⟩ := h.sm
  have m := h.m
  obtain ⟨q1, q2, q3, q4⟩ := h.bits
  have e1 : pP (lowF (a * d + c * b) (b * d)) = pP (lowP (a * d + c * b) (b * d)) := by rw [lowF_pos m.pbd]
  have e2 : pP (lowF (a * d - c * b) (b * d)) = .tup [.int ((lowP ((a * d - c * b).natAbs : Int) (b * d)).1 * sign3 (a * d - c * b)), .int (lowP ((a * d - c * b).natAbs : Int) (b * d)).2] := by rw [due_ok m.pbd]; rfl
  have e3 : pP (lowF (a * c) (b * d)) = pP (lowP (a * c) (b * d)) := by rw [lowF_pos m.pbd]
  have sg := sign3_bd (a * d - c * b)
  have mm : ∀ x, IntMulOk x (sign3 (a * d - c * b)) := fun x => mul_r sg.1 sg.2
  refine ⟨⟨s1, s2⟩, m.ad, m.cb, m.bd, ⟨m.pbd, m.sbd⟩, ⟨s1, s2⟩, _, rfl, mm _, _, rfl, ⟨s1, s2⟩, m.ac, m.bd, ⟨m.pbd, m.sbd⟩, ?_⟩
  exact fr6 h (.row e1 (ok_pP _) (.row e2 (ok_pP (_, _)) (.row e3 (ok_pP _) .nil))) (by show 3 ≤ 20; omega) hM hq
theorem fr1 (h : FR a b c d) (hM : okS M s) (hq : ∀ M', okS M' s → Q (.bl true) M') :
    t__law_fractions_right_1 (fE Q) [some (.v (.cell s)), some (.v (pP (a, b))), some (.v (pP (c, d))), none, none, none, none, none, none, none, none, none, none, none, none, none, none] M := by
  have m := h.m
  have key := fr5 (x10 := none) h hM hq
  refine ⟨_, rfl, _, rfl, _, rfl, _, rfl, rfl, m.ad, m.cb, m.bd, ⟨m.pbd, m.sbd⟩, ?_⟩
  have e : (if a * d - c * b < 0 then -(a * d - c * b) else a * d - c * b) = ((a * d - c * b).natAbs : Int) := abI _
  unfold ffr at key
  rw [← e] at key
  exact key
end
theorem low_FR {n u : Int} (hn : 0 < n) (hu : 0 < u) : 0 < (lowP n u).1 ∧ 0 < (lowP n u).2 ∧ (lowP n u).1 ≤ n ∧ (lowP n u).2 ≤ u ∧ Int.gcd (lowP n u).1 (lowP n u).2 = 1 := by
  have hg := gcd_pos (a := n) (show u ≠ 0 by omega)
  obtain ⟨e1, e2⟩ := low_back n u
  unfold lowP
  refine ⟨?_, ?_, Int.ediv_le_self _ (by omega), Int.ediv_le_self _ (by omega), low_gcd (by omega)⟩
  · exact pos_of_mul (a := (Int.gcd n u : Int)) (by rw [e1]; exact hn) hg
  · exact pos_of_mul (a := (Int.gcd n u : Int)) (by rw [e2]; exact hu) hg
theorem l__law_fractions_right : ∀ args M Q, sp__law_fractions_right args M Q → args.length = 1 ∧ b__law_fractions_right (fE Q) (fr0 16 args) M := fun args M Q h => by
  match args, h with
  | [.cell s], ⟨hM, hq⟩ =>
    have w8 : ((10 : Int) ^ (8 : Int).toNat) = 10 ^ 8 := rfl
    refine ⟨rfl, ⟨by decide, by decide, by decide⟩, hM, ⟨by decide, by decide⟩, fun r1 M1 a0 a1 hM1 => ⟨⟨by decide, by decide, by decide⟩, ?_⟩⟩
    rw [w8] at a1
    have m1 : IntMulOk r1 (10 ^ (40 : Int).toNat) := mul_l (by omega) (by omega)
    refine ⟨m1, ⟨by decide, by decide, by decide⟩, hM1, ⟨by decide, by decide⟩, fun r2 M2 b0 b1 hM2 => ?_⟩
    rw [w8] at b1
    have u1 : 0 < 1 + r2 := by omega
    have u2 : Sm (1 + r2) := Sm_of (K := 100) (nab (by omega) (by omega))
    refine ⟨⟨u1, u2⟩, ⟨by decide, by decide, by decide⟩, hM2, ⟨by decide, by decide⟩, fun r3 M3 c0 c1 hM3 => ⟨⟨by decide, by decide, by decide⟩, hM3, ⟨by decide, by decide⟩, fun r4 M4 d0 d1 hM4 => ⟨⟨by decide, by decide, by decide⟩, ?_⟩⟩⟩
    rw [w8] at c1 d1
    have m4 : IntMulOk r4 (10 ^ (60 : Int).toNat) := mul_l (by omega) (by omega)
    have w40 : ((10 : Int) ^ (40 : Int).toNat) = 10 ^ 40 := rfl
    have w60 : ((10 : Int) ^ (60 : Int).toNat) = 10 ^ 60 := rfl
    have n1 : 0 < 1 + r1 * 10 ^ (40 : Int).toNat ∧ 1 + r1 * 10 ^ (40 : Int).toNat < 2 ^ 300 := by
      rw [w40]
      have p0 : 0 ≤ r1 * 10 ^ 40 := Int.mul_nonneg a0 (by decide)
      have p1 : r1 * 10 ^ 40 ≤ 10 ^ 8 * 10 ^ 40 := Int.mul_le_mul_of_nonneg_right (by omega) (by decide)
      have p2 : (10 : Int) ^ 8 * 10 ^ 40 + 10 < 2 ^ 300 := by decide +kernel
      omega
    have n4 : 0 < 1 + r4 * 10 ^ (60 : Int).toNat ∧ 1 + r4 * 10 ^ (60 : Int).toNat < 2 ^ 300 := by
      rw [w60]
      have p0 : 0 ≤ r4 * 10 ^ 60 := Int.mul_nonneg d0 (by decide)
      have p1 : r4 * 10 ^ 60 ≤ 10 ^ 8 * 10 ^ 60 := Int.mul_le_mul_of_nonneg_right (by omega) (by decide)
      have p2 : (10 : Int) ^ 8 * 10 ^ 60 + 10 < 2 ^ 300 := by decide +kernel
      omega
    have e300 : (10 : Int) ^ 8 + 1 < 2 ^ 300 := by decide +kernel
    refine ⟨m4, ⟨n4.1, Sm_of (K := 300) (bit300 n4.1 n4.2)⟩, ?_⟩
    have l1 := low_FR n1.1 u1
    have l2 := low_FR (n := 1 + r3) (by omega) n4.1
    exact fr1 (a := (lowP (1 + r1 * 10 ^ (40 : Int).toNat) (1 + r2)).1) (b := (lowP (1 + r1 * 10 ^ (40 : Int).toNat) (1 + r2)).2) (c := (lowP (1 + r3) (1 + r4 * 10 ^ (60 : Int).toNat)).1) (d := (lowP (1 + r3) (1 + r4 * 10 ^ (60 : Int).toNat)).2)
      ⟨l1.1, l1.2.1, l2.1, l2.2.1, l1.2.2.2.2, by have := l1.2.2.1; omega, by have := l1.2.2.2.1; omega, by have := l2.2.2.1; omega, by have := l2.2.2.2.1; omega⟩ hM4 hq
end Fl

end

section
set_option exponentiation.threshold 20000
namespace Fl
open PySem PySem.Spec PyProof.Rows L2
/-! the row of fractions: neighbours, bottoms, count -/
def Adj (m : Nat) (a b : Nat × Nat) : Prop := b.1 * a.2 = a.1 * b.2 + 1 ∧ b.2 ≤ m ∧ b.1 ≤ 60 ∧ b.2 ≤ 60
def Ch (m : Nat) : List (Nat × Nat) → Prop
  | a :: b :: r => Adj m a b ∧ Ch m (b :: r)
  | _ => True
theorem Ch.get {m : Nat} : ∀ {l : List (Nat × Nat)}, Ch m l → ∀ i (h : i + 1 < l.length), Adj m l[i] l[i + 1]
  | [], _, i, h => absurd h (by simp)
  | [a], _, i, h => absurd h (by simp)
  | a :: b :: r, hc, 0, h => hc.1
  | a :: b :: r, hc, i + 1, h => by
    have := Ch.get hc.2 i (by simpa using h)
    simpa using this
theorem ch_row {m : Nat} (hm : 1 ≤ m ∧ m ≤ 60) : ∀ (k a1 a2 h1 h2 : Nat), rowT m k a1 a2 h1 h2 = true → h1 * a2 = a1 * h2 + 1 → h2 ≤ m → Ch m ((a1, a2) :: (rowL m k a1 a2 h1 h2 ++ [(1, 1)]))
  | 0, _, _, _, _, ht, _, _ => nomatch ht
  | k + 1, a1, a2, h1, h2, ht, hd, hl => by
    rw [rowL]
    cases he : (Nat.beq h1 1 && Nat.beq h2 1) with
    | true =>
      rw [cond_true, List.nil_append]
      rw [Bool.and_eq_true] at he
      have e1 := Nat.eq_of_beq_eq_true he.1
      have e2 := Nat.eq_of_beq_eq_true he.2
      subst e1 e2
      exact ⟨⟨hd, hl, by omega, by omega⟩, trivial⟩
    | false =>
      obtain ⟨⟨t1, t2, t3, t4, t5, t6, t7⟩, ht⟩ := rowT_step ht he
      rw [cond_false]
      exact ⟨⟨hd, hl, by show h1 ≤ 60; omega, by show h2 ≤ 60; omega⟩, ch_row hm k h1 h2 _ _ ht t7 t6⟩
theorem rowF_ch {m : Nat} (h1 : 1 ≤ m) (h2 : m ≤ 60) : Ch m (rowF m) := ch_row ⟨h1, h2⟩ 1200 0 1 1 m (rowO_ok h1 h2).1 (by omega) (Nat.le_refl m)
theorem rowF_len {m : Nat} (h1 : 1 ≤ m) (h2 : m ≤ 60) : (rowF m).length = cntS m := by
  have := (rowO_ok h1 h2).2
  rw [rowF, List.length_cons, List.length_append, List.length_singleton]
  omega
theorem rowF_len2 (m : Nat) : (rowF m).length ≤ 1202 ∧ 2 ≤ (rowF m).length := by
  have := rowL_len m 1200 0 1 1 m
  rw [rowF, List.length_cons, List.length_append, List.length_singleton]
  omega
theorem rowF_last (m : Nat) : atI ((rowF m).map pN) ((((rowF m).map pN).length : Int) - 1) = some (pN (1, 1)) := by
  have e : rowF m = ((0, 1) :: rowL m 1200 0 1 1 m) ++ [(1, 1)] := rfl
  rw [e, mapN, List.length_append, List.length_singleton]
  generalize List.map pN ((0, 1) :: rowL m 1200 0 1 1 m) = xs
  rw [show (((xs.length + 1 : Nat) : Int) - 1) = (xs.length : Int) by omega]
  exact atI_nat (by simp)
theorem rowF_at {m i : Nat} (h : i < (rowF m).length) : atI ((rowF m).map pN) (i : Int) = some (pN (rowF m)[i]) := atI_nat (by simp [h])
theorem cnt_len (u : Nat) (F : Nat → Option PV) (hF : ∀ i, (F i).isSome = Nat.beq (Nat.gcd (i + 1) u) 1) : ∀ n : Nat, ((List.range n).filterMap F).length = cntC u n
  | 0 => rfl
  | n + 1 => by
    rw [List.range_succ, List.filterMap_append, List.length_append, cnt_len u F hF n, cntC]
    have := hF n
    cases e : F n with
    | none =>
      rw [e] at this
      rw [← this]
      simp [e]
    | some p =>
      rw [e] at this
      rw [← this]
      simp [e]
      omega
theorem lcP_rng1 {g : FG} {mt : FT} {me : FE} {fw : Fm} {M : Sto} {Q : List PV → Sto → Prop} {n : Nat} (F : Nat → Option PV)
    (h : ∀ i : Nat, i < n → ∀ (K1 : PV → Sto → Prop) (K0 : Sto → Prop), (∀ p, F i = some p → K1 p M) → (F i = none → K0 M) → g (.int (((1 + i : Nat) : Int))) fw fun f2 => mt f2 M fun b M2 => (b = true → me f2 M2 fun y M3 => match y with
      | .v p => K1 p M3
      | .b _ => False) ∧ (b = false → K0 M2))
    (q : Q ((List.range n).filterMap F) M) : lcP g mt me fw (rng 1 n) [] M Q := by
  have e := rng_range n 1
  rw [show rng 1 n = rng ((1 : Nat) : Int) n from rfl, e]
  exact lcP_run F (List.range n) [] (fun d hd K1 K0 h1 h0 => h d (List.mem_range.mp hd) K1 K0 h1 h0) q
section
variable {s : Addr} {m : Nat} {M : Sto} {Q : PV → Sto → Prop}
/-- the count -/
theorem cnt_loop {D : FEnds} {x0 x1 x2 x5 x7 x8 x9 x10 x11 x12 x13 x14 : Option EV} (hm : m ≤ 60) : ∀ (n u : Nat) (x4 x6 : Option EV), u + n = m → (∀ x4 x6, D.nx [x0, x1, x2, v (cntS m), x4, x5, x6, x7, x8, x9, x10, x11, x12, x13, x14] M) →
    foP (gN 4) w__law_rows_right_1 D (rng (((1 + u : Nat) : Int)) n) [x0, x1, x2, v (cntS u), x4, x5, x6, x7, x8, x9, x10, x11, x12, x13, x14] M
  | 0, u, x4, x6, hu, q => by
    rw [show m = u by omega] at q
    exact q x4 x6
  | n + 1, u, x4, x6, hu, q => by
    have hz := line1
    have ih := fun x4 x6 => cnt_loop (D := D) (x0 := x0) (x1 := x1) (x2 := x2) (x5 := x5) (x7 := x7) (x8 := x8) (x9 := x9) (x10 := x10) (x11 := x11) (x12 := x12) (x13 := x13) (x14 := x14) hm n (u + 1) x4 x6 (by omega) q
    have e1 : (((1 + u : Nat) : Int) + 1 - 1).toNat = u + 1 := by omega
    refine ⟨⟨by decide, by decide, by omega, by omega⟩, ?_⟩
    rw [e1]
    refine ⟨by rw [rng_length]; omega, lcP_rng1 (fun i => if Nat.beq (Nat.gcd (i + 1) (u + 1)) 1 then some (.int ((1 + i : Nat) : Int)) else none) (fun i hi K1 K0 k1 k0 => ?_) ?_⟩
    · have eg : Int.gcd ((1 + i : Nat) : Int) ((1 + u : Nat) : Int) = Nat.gcd (i + 1) (u + 1) := by
        rw [Int.gcd_natCast_natCast, Nat.add_comm 1 i, Nat.add_comm 1 u]
      refine ⟨fun h => ?_, fun h => ?_⟩
      · have h : decide ((Int.gcd ((1 + i : Nat) : Int) ((1 + u : Nat) : Int) : Int) = 1) = true := h
        rw [eg] at h
        have h := of_decide_eq_true h
        exact k1 _ (if_pos (by rw [show Nat.gcd (i + 1) (u + 1) = 1 by omega]; rfl))
      · have h : decide ((Int.gcd ((1 + i : Nat) : Int) ((1 + u : Nat) : Int) : Int) = 1) = false := h
        rw [eg] at h
        have h := of_decide_eq_false h
        refine k0 (if_neg fun z => h ?_)
        have := Nat.eq_of_beq_eq_true z
        omega
    · have e := cnt_len (u + 1) (fun i => if Nat.beq (Nat.gcd (i + 1) (u + 1)) 1 then some (.int ((1 + i : Nat) : Int)) else none) (fun i => by generalize Nat.beq (Nat.gcd (i + 1) (u + 1)) 1 = z; cases z <;> rfl) (u + 1)
      have e2 : (cntS u : Int) + (cntC (u + 1) (u + 1) : Int) = (cntS (u + 1) : Int) := by rw [cntS]; omega
      have ih := ih (v ((1 + u : Nat) : Int)) x6
      rw [← e2, ← e, show (((1 + (u + 1) : Nat) : Int)) = ((1 + u : Nat) : Int) + 1 by omega] at ih
      exact ih
/-! the best one, tried out -/
theorem best_step {D : FEnds} {p q bx y h l bo : Int} {x0 x1 x2 x3 x7 x11 x12 x13 x14 : Option EV} (hp : 0 ≤ p ∧ p < 2 ^ 60) (hq : 0 < q ∧ q < 2 ^ 60) (hy : 0 < y ∧ y ≤ bo) (hl : 0 < l ∧ l ≤ bo) (hb : bo < 2 ^ 60)
    (hD : ∀ bx' y' x11 x12, 0 < y' ∧ y' ≤ bo → BE p q bx' y' bx y → BE p q bx' y' h l → D.nx [x0, x1, x2, x3, v q, v bo, v p, x7, some (.v (pP (bx', y'))), v l, v h, x11, x12, x13, x14] M) :
    w__law_rows_right_3 D [x0, x1, x2, x3, v q, v bo, v p, x7, some (.v (pP (bx, y))), v l, v h, x11, x12, x13, x14] M := by
  have mr : ∀ {x z : Int}, 0 < z → z < 2 ^ 60 → IntMulOk x z := fun h1 h2 => mul_r (by omega) (by omega)
  have ml : ∀ {x z : Int}, 0 ≤ x → x < 2 ^ 60 → IntMulOk x z := fun h1 h2 => mul_l (by omega) (by omega)
  have b1 : ∀ z, IntMulOk z l := fun z => mr hl.1 (by omega)
  have b2 : ∀ z, IntMulOk z q := fun z => mr hq.1 hq.2
  have b3 : ∀ z, IntMulOk z y := fun z => mr hy.1 (by omega)
  refine ⟨b1 p, b2 h, _, rfl, b3 _, _, rfl, b3 p, _, rfl, b2 bx, b1 _, ?_⟩
  have new : BE p q h l bx y → D.nx (st [x0, x1, x2, x3, v q, v bo, v p, x7, some (.v (pP (bx, y))), v l, v h, v (ab (p * l - h * q) * y), v (ab (p * y - bx * q) * l), x13, x14] 8 (some (.v (pP (h, l))))) M := fun z => hD h l _ _ hl z (BE.refl p q h l)
  have old : BE p q bx y h l → D.nx [x0, x1, x2, x3, v q, v bo, v p, x7, some (.v (pP (bx, y))), v l, v h, v (ab (p * l - h * q) * y), v (ab (p * y - bx * q) * l), x13, x14] M := fun z => hD bx y _ _ hy (BE.refl p q bx y) z
  refine ⟨fun h1 => ?_, fun h1 => ⟨fun h2 => ⟨_, rfl, b3 _, _, rfl, b1 _, fun h3 => ?_, fun h3 => ?_⟩, fun h2 => ?_⟩⟩
  · have h1 : ab (p * l - h * q) * y < ab (p * y - bx * q) * l := of_decide_eq_true h1
    exact ⟨fun _ => new ⟨by omega, fun e => by omega⟩, fun h => (nomatch h)⟩
  · have h2 : ab (p * l - h * q) * y = ab (p * y - bx * q) * l := of_decide_eq_true h2
    have h3 : h * y < bx * l := of_decide_eq_true h3
    exact new ⟨by omega, fun _ => by omega⟩
  · have h2 : ab (p * l - h * q) * y = ab (p * y - bx * q) * l := of_decide_eq_true h2
    have h3 : ¬ h * y < bx * l := of_decide_eq_false h3
    exact old ⟨by omega, fun _ => by omega⟩
  · have h1 : ¬ ab (p * l - h * q) * y < ab (p * y - bx * q) * l := of_decide_eq_false h1
    have h2 : ¬ ab (p * l - h * q) * y = ab (p * y - bx * q) * l := of_decide_eq_false h2
    exact ⟨fun h => (nomatch h), fun _ => old ⟨by omega, fun e => by omega⟩⟩
theorem best_loop {D : FEnds} {p q bo : Int} {x0 x1 x2 x3 x7 x13 x14 : Option EV} (hp : 0 ≤ p ∧ p < 2 ^ 60) (hq : 0 < q ∧ q < 2 ^ 60) (hb : 1 ≤ bo ∧ bo < 2 ^ 60)
    (hD : ∀ x y x9 x10 x11 x12, Near p q bo x y → D.nx [x0, x1, x2, x3, v q, v bo, v p, x7, some (.v (pP (x, y))), x9, x10, x11, x12, x13, x14] M) :
    ∀ (n : Nat) (l : Int) (bx y : Int) (x9 x10 x11 x12 : Option EV), 1 ≤ l → l + n = bo + 1 → 0 < y ∧ y ≤ bo → (∀ u w, 0 < w → w < l → BE p q bx y u w) →
    foP (gN 9) w__law_rows_right_2 D (rng l n) [x0, x1, x2, x3, v q, v bo, v p, x7, some (.v (pP (bx, y))), x9, x10, x11, x12, x13, x14] M
  | 0, l, bx, y, x9, x10, x11, x12, hl, hn, hy, h => hD bx y _ _ _ _ ⟨hy.1, hy.2, fun u w h1 h2 => h u w h1 (by omega)⟩
  | n + 1, l, bx, y, x9, x10, x11, x12, hl, hn, hy, h => by
    have m1 : IntMulOk p l := mul_r (by omega) (by omega)
    have d1 := dv hq.1 (show q < 2 ^ 100 by omega)
    refine ⟨m1, d1, m1, d1, ?_⟩
    refine best_step (bo := bo) hp hq hy ⟨by omega, by omega⟩ hb.2 fun bx1 y1 x11 x12 hy1 g1 g2 => ?_
    refine best_step (bo := bo) hp hq hy1 ⟨by omega, by omega⟩ hb.2 fun bx2 y2 x11 x12 hy2 g3 g4 => ?_
    refine best_loop hp hq hb hD n (l + 1) bx2 y2 _ _ _ _ (by omega) (by omega) hy2 fun u w hw1 hw2 => ?_
    by_cases e : w = l
    · subst e
      rcases Int.lt_or_le (p * w / q) u with z | z
      · exact g4.trans hy2.1 hw1 hw1 (BE.high hq.1 hw1 (by omega))
      · exact (g3.trans hy2.1 hy1.1 hw1 g2).trans hy2.1 hw1 hw1 (BE.low hq.1 hw1 z)
    · exact (g3.trans hy2.1 hy1.1 hy.1 g1).trans hy2.1 hy.1 hw1 (h u w hw1 (by omega))
theorem near_half {w x y : Int} (h : Near (2 * w + 1) 2 1 x y) : x = w ∧ y = 1 := by
  have hy : y = 1 := by have := h.y0; have := h.ym; omega
  subst hy
  obtain ⟨a1, a2⟩ := h.best w 1 (by omega) (by omega)
  have e1 : ab ((2 * w + 1) * 1 - w * 2) = 1 := by rw [show (2 * w + 1) * 1 - w * 2 = 1 by omega]; rfl
  rw [e1] at a1 a2
  have e2 : (2 * w + 1) * 1 - x * 2 = 1 ∨ (2 * w + 1) * 1 - x * 2 = -1 := by
    unfold ab at a1
    split at a1 <;> omega
  have e3 : ab ((2 * w + 1) * 1 - x * 2) = 1 := by rcases e2 with e | e <;> rw [e] <;> rfl
  have := a2 (by rw [e3])
  exact ⟨by omega, rfl⟩
theorem near_low {top under bo bx y x' y' : Int} (hu : 0 < under) (h : Near top under bo bx y) (h' : Near (lowP top under).1 (lowP top under).2 bo x' y') (hg : Int.gcd x' y' = 1) : pP (x', y') = pP (lowP bx y) := by
  have g0 := gcd_pos (a := top) (show under ≠ 0 by omega)
  obtain ⟨e1, e2⟩ := low_back top under
  have hs : Near (lowP top under).1 (lowP top under).2 bo bx y := by
    apply Near.scale g0
    show Near ((Int.gcd top under : Int) * (top / (Int.gcd top under : Int))) ((Int.gcd top under : Int) * (under / (Int.gcd top under : Int))) bo bx y
    rw [e1, e2]
    exact h
  have e := low_of hg h'.y0 hs.y0 (h'.same hs)
  unfold lowP
  rw [e.1, e.2]
theorem rr10 {told : List PV} {top under bo bx y : Int} {x1 x9 x10 x11 x12 : Option EV} (hu : 0 < under ∧ under < 2 ^ 60) (ht : 0 ≤ top ∧ top < 2 ^ 60) (hb : 1 ≤ bo ∧ bo ≤ 2000) (hlen : told.length = cntS m) (hl2 : told.length ≤ 2000) (hn : Near top under bo bx y) (hM : okS M s) (hq : ∀ M', okS M' s → Q (.bl true) M') :
    t__law_rows_right_10 (fE Q) [some (.v (.cell s)), x1, some (.v (.tup told)), v (cntS m), v under, v bo, v top, some (.v (pP (lowP top under))), some (.v (pP (bx, y))), x9, x10, x11, x12, none, none] M := by
  refine ⟨hM, ⟨by decide, by decide⟩, fun w M1 w0 w1 hM1 => ?_⟩
  have g := low_back top under
  have g0 := gcd_pos (a := top) (show under ≠ 0 by omega)
  have p0 : 0 ≤ (lowP top under).1 := Int.ediv_nonneg ht.1 (by omega)
  have p1 : (lowP top under).1 ≤ top := Int.ediv_le_self _ ht.1
  have q0 : 0 < (lowP top under).2 := pos_of_mul (a := (Int.gcd top under : Int)) (by unfold lowP; rw [g.2]; exact hu.1) g0
  have q1 : (lowP top under).2 ≤ under := Int.ediv_le_self _ (by omega)
  have e60 : (2 : Int) ^ 60 < 2 ^ 100 := by decide
  have sy : Sm y := Sm_of (K := 60) (nab (by have := hn.y0; omega) (by have := hn.ym; omega))
  refine ⟨⟨p0, by omega, q0, by omega, low_gcd (by omega), hb.1, hb.2⟩, fun x' y' h1 h2 => ⟨_, rfl, _, rfl, ⟨hn.y0, sy⟩, mul_l (by omega) (by omega), ⟨by omega, by omega, by decide, by decide, ?_, by decide, by decide⟩, fun x2 y2 h3 h4 => ?_⟩⟩
  · rw [Int.gcd_comm]
    exact gcd_one (x := -w) (y := -1) (by grind)
  · have e1 : PV.int (told.length : Int) = .int (cntS m : Int) := by rw [hlen]
    have e2 := near_low hu.1 hn h1 h2
    have e3 : pP (x2, y2) = .tup [.int w, .int 1] := by
      obtain ⟨z1, z2⟩ := near_half h3
      rw [z1, z2]
      rfl
    have hg : Good [.tup [.int (told.length : Int), .int (cntS m : Int)], .tup [pP (x', y'), pP (lowP bx y)], .tup [pP (x2, y2), .tup [.int w, .int 1]]] := .row e1 trivial (.row e2 (ok_pP _) (.row e3 (ok_pP _) .nil))
    obtain ⟨ps, ep, hps⟩ := hg
    have hl : ps.length = 3 := by
      have := congrArg List.length ep
      rw [List.length_map] at this
      exact this.symm
    exact ⟨ps, ep, by omega, hps, hq M1 hM1⟩
end
end Fl

end

section
set_option exponentiation.threshold 20000
namespace Fl
open PySem PySem.Spec PyProof.Rows L2
section
variable {s : Addr} {m : Nat} {M : Sto} {Q : PV → Sto → Prop}
theorem rr5 {told : List PV} {x1 x4 x6 : Option EV} (hlen : told.length = cntS m) (hl2 : told.length ≤ 2000) (hM : okS M s) (hq : ∀ M', okS M' s → Q (.bl true) M') :
    t__law_rows_right_5 (fE Q) [some (.v (.cell s)), x1, some (.v (.tup told)), v (cntS m), x4, none, x6, none, none, none, none, none, none, none, none] M := by
  have w6 : ((10 : Int) ^ (6 : Int).toNat) = 10 ^ 6 := rfl
  have w5 : ((10 : Int) ^ (5 : Int).toNat) = 10 ^ 5 := rfl
  refine ⟨hM, ⟨by decide, by decide⟩, fun r1 M1 a0 a1 hM1 => ⟨hM1, ⟨by decide, by decide⟩, fun r2 M2 b0 b1 hM2 => ⟨hM2, ⟨by decide, by decide⟩, fun i M3 i0 i1 hM3 => ?_⟩⟩⟩
  have pick : ∃ bo : Int, 1 ≤ bo ∧ bo ≤ 2000 ∧ atI [PV.int (1 + r1), PV.int (1 + r2)] i = some (.int bo) := by
    have : i = 0 ∨ i = 1 := by omega
    rcases this with e | e <;> subst e
    · exact ⟨1 + r1, by omega, by omega, rfl⟩
    · exact ⟨1 + r2, by omega, by omega, rfl⟩
  obtain ⟨bo, hb1, hb2, hb⟩ := pick
  refine ⟨.int bo, hb, ⟨by decide, by decide, by decide⟩, hM3, ⟨by decide, by decide⟩, fun top M4 t0 t1 hM4 => ⟨⟨by decide, by decide, by decide⟩, hM4, ⟨by decide, by decide⟩, fun un M5 u0 u1 hM5 => ?_⟩⟩
  rw [w6] at t1
  rw [w5] at u1
  have d1 := dv (show 0 < 1 + un by omega) (by omega)
  have low : 0 < 1 + un ∧ Sm (1 + un) := ⟨by omega, Sm_of (K := 60) (nab (by omega) (by omega))⟩
  refine ⟨rfl, low, d1, ⟨by decide, by decide, by omega, by omega⟩, ?_⟩
  refine best_loop (D := { fE Q with nx := t__law_rows_right_10 (fE Q) }) (bo := bo) ⟨t0, by omega⟩ ⟨by omega, by omega⟩ ⟨hb1, by omega⟩ (fun x y x9 x10 x11 x12 hn => ?_) (bo + 1 - 1).toNat 1 _ 1 none none none none (by omega) (by omega) ⟨by omega, hb1⟩ fun u w h1 h2 => by omega
  exact rr10 ⟨by omega, by omega⟩ ⟨t0, by omega⟩ ⟨hb1, hb2⟩ hlen hl2 hn hM5 hq
theorem l__law_rows_right : ∀ args M Q, sp__law_rows_right args M Q → args.length = 1 ∧ b__law_rows_right (fE Q) (fr0 14 args) M := fun args M Q h => by
  match args, h with
  | [.cell s], ⟨hM, hq⟩ =>
    have hz := line1
    refine ⟨rfl, hM, ⟨by decide, by decide⟩, fun r M1 r0 r1 hM1 => ⟨⟨by omega, by omega⟩, ?_⟩⟩
    have key : ∀ m : Nat, ((m : Nat) : Int) = 1 + r → t__law_rows_right_2 (fE Q) [some (.v (.cell s)), v (m : Int), some (.v (.tup ((rowF m).map pN))), none, none, none, none, none, none, none, none, none, none, none, none] M1 := fun m hm => by
      have h1 : 1 ≤ m := by omega
      have h2 : m ≤ 60 := by omega
      have hch := rowF_ch h1 h2
      have hl := rowF_len2 m
      have hlen := rowF_len h1 h2
      have rest : t__law_rows_right_3 (fE Q) [some (.v (.cell s)), v (m : Int), some (.v (.tup ((rowF m).map pN))), none, none, none, none, none, none, none, none, none, none, none, none] M1 := by
        refine ⟨⟨by decide, by decide, by omega, by omega⟩, ?_⟩
        have := cnt_loop (D := { fE Q with nx := t__law_rows_right_5 (fE Q) }) (M := M1) (m := m) (x0 := some (.v (.cell s))) (x1 := v (m : Int)) (x2 := some (.v (.tup ((rowF m).map pN)))) (x5 := none) (x7 := none) (x8 := none) (x9 := none) (x10 := none) (x11 := none) (x12 := none) (x13 := none) (x14 := none) h2 m 0 none none (by omega) fun x4 x6 => rr5 (by rw [List.length_map]; exact hlen) (by rw [List.length_map]; omega) hM1 hq
        rw [show ((m : Int) + 1 - 1).toNat = m by omega]
        exact this
      have ne0 : (!eqv (pN (0, 1)) (pN (0, 1))) = false := by rw [eqvN]; rfl
      have ne1 : (!eqv (pN (1, 1)) (pN (1, 1))) = false := by rw [eqvN]; rfl
      have at0 : atI ((rowF m).map pN) 0 = some (pN (0, 1)) := by
        have := rowF_at (m := m) (i := 0) (by omega)
        exact this
      refine ⟨pN (0, 1), at0, ⟨sh_pN (0, 1), sh_pN (0, 1)⟩, fun h => ?_, fun _ => ⟨pN (1, 1), rowF_last m, ⟨sh_pN (1, 1), sh_pN (1, 1)⟩, fun h => ?_, fun _ => ⟨⟨by decide, by decide, by rw [List.length_map]; omega, by rw [List.length_map]; omega⟩, ?_⟩⟩⟩
      · have h : (!eqv (pN (0, 1)) (pN (0, 1))) = true := h
        rw [ne0] at h
        cases h
      · have h : (!eqv (pN (1, 1)) (pN (1, 1))) = true := h
        rw [ne1] at h
        cases h
      · refine ⟨by rw [rng_length, List.length_map]; omega, lcP_rng1 (fun _ => none) (fun i hi K1 K0 k1 k0 => ?_) ?_⟩
        · have hi : i + 1 < (rowF m).length := by rw [List.length_map] at hi; omega
          obtain ⟨a1, a2, a3, a4⟩ := hch.get i hi
          have e1 : ((1 + i : Nat) : Int) - 1 = (i : Int) := by omega
          have e2 : ((1 + i : Nat) : Int) = ((i + 1 : Nat) : Int) := by omega
          have at1 := rowF_at (m := m) (i := i) (by omega)
          have at2 := rowF_at (m := m) (i := i + 1) (by omega)
          rw [← e1] at at1
          rw [← e2] at at2
          generalize ha : (rowF m)[i] = a at *
          generalize hb : (rowF m)[i + 1] = b at *
          have sa : a.1 ≤ 60 ∧ a.2 ≤ 60 := by
            cases i with
            | zero =>
              rw [← ha]
              show (0 : Nat) ≤ 60 ∧ 1 ≤ 60
              omega
            | succ i =>
              have := hch.get i (by omega)
              rw [ha] at this
              exact ⟨this.2.2.1, this.2.2.2⟩
          have sm : ∀ x : Nat, x ≤ 60 → Sm (x : Int) := fun x h => Sm_of (K := 60) (nab (by omega) (by omega))
          have d : decide ((b.1 : Int) * (a.2 : Int) - (a.1 : Int) * (b.2 : Int) = 1) = true := decide_eq_true (by
            have : ((b.1 * a.2 : Nat) : Int) = ((a.1 * b.2 + 1 : Nat) : Int) := by rw [a1]
            rw [Int.natCast_mul, Int.natCast_add, Int.natCast_mul] at this
            omega)
          refine ⟨_, at1, _, at2, ⟨sm _ sa.1, sm _ sa.2, sm _ a3, sm _ a4⟩, trivial, fun h => ?_, fun _ => ⟨_, at2, _, rfl, fun h => ?_, fun _ => k0 rfl⟩⟩
          · have h : (!decide ((b.1 : Int) * (a.2 : Int) - (a.1 : Int) * (b.2 : Int) = 1)) = true := h
            rw [d] at h
            cases h
          · have h : (m : Int) < (b.2 : Int) := of_decide_eq_true h
            omega
        · have e : (List.range ((((rowF m).map pN).length : Int) - 1).toNat).filterMap (fun _ => (none : Option PV)) = [] := by simp
          rw [e]
          exact ⟨⟨rfl, rfl⟩, fun h => (nomatch h), fun _ => rest⟩
    have em : (((1 + r).toNat : Nat) : Int) = 1 + r := by omega
    have key := key (1 + r).toNat em
    rw [em] at key
    exact key
end
end Fl

end

section
set_option exponentiation.threshold 20000
namespace Fl
open PySem PySem.Spec PyProof.Rows L2
/-- quotients as the law makes them -/
structure WQ (l : List Int) : Prop where
  ok : okQ0 l
  few : fewQ l
  len : l.length ≤ 65
theorem okQ_snoc : ∀ (ms : List Int) (x : Int), (∀ q ∈ ms, 1 ≤ q) → 2 ≤ x → okQ (ms ++ [x])
  | [], x, _, h => h
  | [a], x, hm, h => ⟨hm a (by simp), h⟩
  | a :: b :: ms, x, hm, h => ⟨hm a (by simp), okQ_snoc (b :: ms) x (fun q hq => hm q (by simp at hq ⊢; exact .inr hq)) h⟩
theorem okQ0_snoc (q : Int) (ms : List Int) (x : Int) (hq : 0 ≤ q) (hm : ∀ q ∈ ms, 1 ≤ q) (hx : 2 ≤ x) : okQ0 (q :: (ms ++ [x])) := by
  have h := okQ_snoc ms x hm hx
  match e : ms ++ [x], h with
  | [], h => exact h.elim
  | a :: r, h => exact ⟨hq, h⟩
theorem WQ.flip {l : List Int} (h : WQ l) : okQ0 (flipQ l) ∧ fewQ (flipQ l) ∧ cf (flipQ l) = ((cf l).2, (cf l).1) := by
  refine ⟨(flipQ_ok h.ok).1, ⟨?_, fun q hq => ?_⟩, (flipQ_ok h.ok).2⟩
  · have := flipQ_len l
    have := h.len
    omega
  · rcases flipQ_mem l q hq with e | e
    · omega
    · exact h.few.2 q e
theorem WQ.way {l : List Int} (h : WQ l) (s : Bool) : okW (wayQ s l) := by
  refine ⟨fun w hw => ?_, wayQ_alt s h.ok, by have := wayQ_len l s; have := h.len; omega⟩
  have := wayQ_mem s h.ok w hw
  refine ⟨this.1, ?_⟩
  rcases this.2 with z | z
  · have := h.few.2 _ z; omega
  · have := h.few.2 _ z; omega
theorem WQ.pos {l : List Int} (h : WQ l) : 0 < (cf l).1 ∧ 0 < (cf l).2 ∧ Int.gcd (cf l).1 (cf l).2 = 1 ∧ (cf l).1 < 2 ^ 1120 ∧ (cf l).2 < 2 ^ 1120 := by
  have p := okQ0.cf h.ok
  obtain ⟨a1, a2, a3, a4⟩ := cf_lt (B := 131000) (by omega) h.few.2
  have b1 : ((131000 : Int) + 1) ^ l.length ≤ (131000 + 1) ^ 65 := ipow_right (by omega) h.len
  have b2 : ((131000 : Int) + 1) ^ 65 < 2 ^ 1120 := by decide +kernel
  exact ⟨p.2, p.1, cf_gcd h.ok, by omega, by omega⟩
theorem okRL (s : Bool) : PyData.strOk (if s then "R" else "L") = true := by cases s <;> decide +kernel
theorem ok_pW (n : Nat) (w : Bool × Int) : sameOk (n + 2) (pW w) := ⟨by show 2 ≤ 100000; omega, fun x hx => by
  have : x = sS w.1 ∨ x = .int w.2 := by simpa [pW] using hx
  rcases this with e | e <;> rw [e]
  · exact okRL w.1
  · trivial⟩
theorem ok_pWs {ws : List (Bool × Int)} (h : ws.length ≤ 1000) : sameOk 6 (pWs ws) := ⟨by rw [List.length_map]; omega, fun x hx => by
  obtain ⟨w, _, e⟩ := List.mem_map.mp hx
  rw [← e]
  exact ok_pW 3 w⟩
theorem ok_pP5 (n : Nat) (p : P2) : sameOk (n + 2) (pP p) := ⟨by show 2 ≤ 100000; omega, fun x hx => by
  have : x = .int p.1 ∨ x = .int p.2 := by simpa [pP] using hx
  rcases this with e | e <;> rw [e] <;> trivial⟩
theorem ok_two (p q : P2) : sameOk 6 (.tup [pP p, pP q]) := ⟨by show 2 ≤ 100000; omega, fun x hx => by
  have : x = pP p ∨ x = pP q := by simpa using hx
  rcases this with e | e <;> rw [e] <;> exact ok_pP5 3 _⟩
section
variable {a : Addr} {l : List Int} {M : Sto} {Q : PV → Sto → Prop}
/-- the frame behind the first lines -/
abbrev fwr (a : Addr) (l : List Int) (x2 x8 x9 rows x11 x12 x13 x14 x15 : Option EV) : Fm :=
  [some (.v (.cell a)), some (.b (l.map .int)), x2, some (.v (pP (cf l))), some (.v (pWs (wayQ true l))), v (l.sum - 1), some (.v (pP (sdW (wayQ true l)).1)), some (.v (pP (sdW (wayQ true l)).2)), x8, x9, rows, x11, x12, x13, x14, x15]
variable {x2 x8 x9 x11 x12 x13 x14 x15 : Option EV} {R : List PV}
theorem wr17 (hg : Good R) (hl : R.length ≤ 60) (hM : okS M a) (hq : ∀ M', okS M' a → Q (.bl true) M') : t__law_ways_right_17 (fE Q) (fwr a l x2 x8 x9 (some (.v (.lst R))) x11 x12 x13 x14 x15) M := by
  obtain ⟨ps, e, g⟩ := hg
  rw [e, List.length_map] at hl
  exact ⟨ps, e, by omega, g, hq M hM⟩
theorem sd_eq (h : WQ l) : (sdW (wayQ true l)).1.1 + (sdW (wayQ true l)).2.1 = (cf l).1 ∧ (sdW (wayQ true l)).1.2 + (sdW (wayQ true l)).2.2 = (cf l).2 := sdW_end h.ok
theorem wr16 (h : WQ l) (hg : Good R) (hl : R.length ≤ 50) (hM : okS M a) (hq : ∀ M', okS M' a → Q (.bl true) M') : t__law_ways_right_16 (fE Q) (fwr a l x2 x8 x9 (some (.v (.lst R))) x11 x12 x13 x14 x15) M := by
  have hz := line1
  have p := h.pos
  have e := sd_eq h
  have lm1 : LM (cf l).1 := LM_of (nab (by omega) (by omega))
  have lm2 : LM (cf l).2 := LM_of (nab (by omega) (by omega))
  have nx := wr17 (l := l) (x2 := x2) (x8 := x8) (x9 := x9) (x11 := x11) (x12 := x12) (x13 := x13) (x14 := x14) (x15 := x15) hg (by omega) hM hq
  refine ⟨_, rfl, fun h1 => ⟨_, rfl, fun h2 => ⟨⟨by rw [e.2]; exact p.2.1, by rw [e.1]; exact lm1, by rw [e.2]; exact lm2, by rw [e.1, e.2]; exact p.2.2.1⟩, ?_⟩, fun h2 => nx⟩, fun h1 => ⟨fun h => (nomatch h), fun _ => nx⟩⟩
  have e1 : pP ((sdW (wayQ true l)).1.1 + (sdW (wayQ true l)).2.1, (sdW (wayQ true l)).1.2 + (sdW (wayQ true l)).2.2) = pP (cf l) := by rw [e.1, e.2]
  exact ⟨by show R.length + 1 ≤ sizeLine; omega, wr17 (l := l) (x2 := x2) (x8 := x8) (x9 := x9) (x11 := x11) (x12 := x12) (x13 := x13) (x14 := x14) (x15 := x15) (hg.app (.row e1 (ok_pP _) .nil)) (by rw [List.length_append]; show R.length + 1 ≤ 60; omega) hM hq⟩
theorem wr15 {c d : Int} (h : WQ l) (t : Two (cf l).1 (cf l).2 c d) (hg : Good R) (hl : R.length ≤ 40) (hM : okS M a) (hq : ∀ M', okS M' a → Q (.bl true) M') : t__law_ways_right_15 (fE Q) (fwr a l x2 x8 x9 (some (.v (.lst R))) x11 x12 x13 x14 (some (.v (pP (c, d))))) M := by
  have hz := line1
  obtain ⟨s1, s2, s3, s4⟩ := t.sm
  have deep : PD 75 (cf l).1 (cf l).2 c d := ⟨by have := t.a0; omega, t.b0, t.c0, by have := t.d0; omega, t.lt, .inl ⟨l.length, EL_cf h.ok, by
    have := h.len
    unfold tl
    split <;> omega⟩⟩
  refine ⟨t, fun x y h1 => ⟨⟨deep, s1, s2, s3, s4⟩, fun xx yy h2 => ?_⟩⟩
  obtain ⟨u1, u2⟩ := h1.uniq h2
  have e1 : PV.tup [.str "between", pP ((cf l).1, (cf l).2), pP (c, d), pP (x, y)] = .tup [.str "between", pP (cf l), pP (c, d), pP (xx, yy)] := by rw [u1, u2]
  have ok : sameOk 6 (PV.tup [.str "between", pP ((cf l).1, (cf l).2), pP (c, d), pP (x, y)]) := ⟨by show 4 ≤ 100000; omega, fun z hz => by
    have : z = .str "between" ∨ z = pP ((cf l).1, (cf l).2) ∨ z = pP (c, d) ∨ z = pP (x, y) := by simpa using hz
    rcases this with e | e | e | e <;> rw [e]
    · exact (by decide +kernel : PyData.strOk "between" = true)
    · exact ok_pP5 3 _
    · exact ok_pP5 3 _
    · exact ok_pP5 3 _⟩
  exact ⟨by show R.length + 1 ≤ sizeLine; omega, wr16 (l := l) (x2 := x2) (x8 := x8) (x9 := x9) (x11 := x11) (x12 := x12) (x13 := x13) (x14 := x14) (x15 := some (.v (pP (c, d)))) h (hg.app (.row e1 ok .nil)) (by rw [List.length_append]; show R.length + 1 ≤ 50; omega) hM hq⟩
theorem wr13 (h : WQ l) (hg : Good R) (hl : R.length ≤ 40) (hM : okS M a) (hq : ∀ M', okS M' a → Q (.bl true) M') : t__law_ways_right_13 (fE Q) (fwr a l x2 x8 x9 (some (.v (.lst R))) x11 x12 x13 none none) M := by
  obtain ⟨p0, q0, g, pb, qb⟩ := h.pos
  have m1 : ∀ x : Int, IntMulOk x (10 ^ (6 : Int).toNat) := fun x => mul_r (by decide) (by decide)
  refine ⟨_, rfl, ⟨by decide, by decide, by decide⟩, m1 _, ⟨by decide, by decide, by decide⟩, hM, ⟨by decide, by decide⟩, fun r M1 r0 r1 hM1 => ⟨_, rfl, ⟨by decide, by decide, by decide⟩, m1 _, _, rfl, _, rfl, ?_⟩⟩
  have T6 : (10 : Int) ^ (6 : Int).toNat = 1000000 := rfl
  have key : ∀ T : Int, T = 1000000 → r < T → ∃ c d, pP (c, d) = pP (lowP ((cf l).1 * T + 1 + r) ((cf l).2 * T)) ∧ 0 < (cf l).2 * T ∧ Sm ((cf l).2 * T) ∧ Two (cf l).1 (cf l).2 c d := fun T hT hr => by
    subst hT
    have n0 : 0 < (cf l).1 * 1000000 + 1 + r := by omega
    have u0 : 0 < (cf l).2 * 1000000 := by omega
    have ub : (cf l).2 * 1000000 < 2 ^ 1200 := by omega
    have nb : (cf l).1 * 1000000 + 1 + r < 2 ^ 1200 := by omega
    have low := low_FR n0 u0
    have bk := low_back ((cf l).1 * 1000000 + 1 + r) ((cf l).2 * 1000000)
    have gp := gcd_pos (a := (cf l).1 * 1000000 + 1 + r) (b := (cf l).2 * 1000000) (by omega)
    have up : (2 : Int) ^ 1120 < 2 ^ 1200 := by decide +kernel
    refine ⟨(lowP ((cf l).1 * 1000000 + 1 + r) ((cf l).2 * 1000000)).1, (lowP ((cf l).1 * 1000000 + 1 + r) ((cf l).2 * 1000000)).2, rfl, u0, Sm_of (K := 1200) (nab (by omega) ub), p0, q0, low.1, low.2.1, g, low.2.2.2.2, ?_, by omega, by omega, by omega, by omega⟩
    have e1 : (Int.gcd ((cf l).1 * 1000000 + 1 + r) ((cf l).2 * 1000000) : Int) * (lowP ((cf l).1 * 1000000 + 1 + r) ((cf l).2 * 1000000)).1 = (cf l).1 * 1000000 + 1 + r := bk.1
    have e2 : (Int.gcd ((cf l).1 * 1000000 + 1 + r) ((cf l).2 * 1000000) : Int) * (lowP ((cf l).1 * 1000000 + 1 + r) ((cf l).2 * 1000000)).2 = (cf l).2 * 1000000 := bk.2
    generalize (lowP ((cf l).1 * 1000000 + 1 + r) ((cf l).2 * 1000000)).1 = c at *
    generalize (lowP ((cf l).1 * 1000000 + 1 + r) ((cf l).2 * 1000000)).2 = d at *
    generalize (Int.gcd ((cf l).1 * 1000000 + 1 + r) ((cf l).2 * 1000000) : Int) = k at *
    generalize (cf l).1 = p at *
    generalize (cf l).2 = q at *
    have e3 : k * (p * d) = p * (q * 1000000) := by rw [← e2]; grind
    have e4 : k * (c * q) = (p * 1000000 + 1 + r) * q := by rw [← e1]; grind
    have e5 : p * (q * 1000000) < (p * 1000000 + 1 + r) * q := by
      have : 0 < (1 + r) * q := Int.mul_pos (by omega) q0
      grind
    exact lt_cancel (c := k) (by rw [e3, e4]; exact e5) gp
  obtain ⟨c, d, e, u0, us, t⟩ := key _ T6 r1
  have fin := wr15 (x2 := x2) (x8 := x8) (x9 := x9) (x11 := x11) (x12 := x12) (x13 := x13) (x14 := some (.v (.tup [.int ((cf l).1 * 10 ^ (6 : Int).toNat + 1 + r), .int ((cf l).2 * 10 ^ (6 : Int).toNat)]))) h t hg hl hM1 hq
  rw [e] at fin
  exact ⟨⟨u0, us⟩, fin⟩
end
end Fl

end

section
set_option exponentiation.threshold 20000
namespace Fl
open PySem PySem.Spec PyProof.Rows L2
theorem bits_len : ∀ (ws : List (Bool × Int)), (∀ w ∈ ws, 0 ≤ w.2) → ((bitsW ws).length : Int) = (ws.map (·.2)).sum
  | [], _ => rfl
  | w :: ws, h => by
    have h0 := h w (by simp)
    rw [bitsW, List.length_append, List.length_replicate, List.map_cons, List.sum_cons, ← bits_len ws fun x hx => h x (by simp [hx])]
    omega
section
variable {a : Addr} {l : List Int} {M : Sto} {Q : PV → Sto → Prop}
variable {x2 x8 x9 x11 x12 x13 x14 x15 : Option EV} {R : List PV}
/-- bits one behind the other -/
theorem bits_loop {D : FEnds} {x0 x1 x2 x3 x4 x5 x6 x7 x10 x11 x13 x14 x15 : Option EV} : ∀ (ws : List (Bool × Int)) (bs : List Bool) (x8 x9 : Option EV), (∀ w ∈ ws, 1 ≤ w.2 ∧ w.2 < 2 ^ 40) → bs.length + (bitsW ws).length ≤ 5000 →
    (∀ x8 x9, D.nx [x0, x1, x2, x3, x4, x5, x6, x7, x8, x9, x10, x11, some (.v (.lst ((bs ++ bitsW ws).map iB))), x13, x14, x15] M) →
    foP (gS 2 (gsCons (gN 8) (gsCons (gN 9) gsNil))) w__law_ways_right_3 D (ws.map pW) [x0, x1, x2, x3, x4, x5, x6, x7, x8, x9, x10, x11, some (.v (.lst (bs.map iB))), x13, x14, x15] M
  | [], bs, x8, x9, _, _, q => by
    rw [bitsW, List.append_nil] at q
    exact q x8 x9
  | (s, k) :: ws, bs, x8, x9, h, hl, q => by
    have hz := line1
    have hk := h (s, k) (by simp)
    have k1 : 1 ≤ k := hk.1
    have k2 : k < 2 ^ 40 := hk.2
    rw [bitsW, List.length_append, List.length_replicate] at hl
    have hl : bs.length + (k.toNat + (bitsW ws).length) ≤ 5000 := hl
    have ih := fun x8 x9 => bits_loop (D := D) (x0 := x0) (x1 := x1) (x2 := x2) (x3 := x3) (x4 := x4) (x5 := x5) (x6 := x6) (x7 := x7) (x10 := x10) (x11 := x11) (x13 := x13) (x14 := x14) (x15 := x15) ws (bs ++ List.replicate k.toNat s) x8 x9 (fun w hw => h w (by simp [hw])) (by rw [List.length_append, List.length_replicate]; omega) fun x8 x9 => by
      have := q x8 x9
      rw [bitsW] at this
      rw [List.append_assoc]
      exact this
    have e : ∀ b : Bool, b = s → (bs.map iB) ++ (List.replicate k.toNat [PV.int (if b = true then 1 else 0)]).flatten = (bs ++ List.replicate k.toNat s).map iB := fun b hb => by
      rw [hb, flatR, List.map_append, List.map_replicate, List.map_replicate]
      rfl
    have e2 : eqv (sS s) (.str "R") = s := eqR s
    have len : (bs.map iB).length + (List.replicate k.toNat [PV.int (if eqv (sS s) (.str "R") = true then 1 else 0)]).flatten.length ≤ sizeLine := by
      rw [List.length_map, flatR, List.length_map, List.length_replicate]
      omega
    have one : [PV.int (if eqv (sS s) (.str "R") = true then 1 else 0)].length * k.toNat ≤ sizeLine := by
      rw [List.length_singleton]
      omega
    have ih := ih (some (.v (sS s))) (some (.v (.int k)))
    rw [← e _ e2] at ih
    exact ⟨rfl, ⟨okS_str s, okR⟩, ⟨⟨by show -(2 ^ 62) ≤ k; omega, by show k < 2 ^ 62; omega⟩, one⟩, len, ih⟩
theorem num_fold {D : FEnds} {x0 x1 x2 x3 x4 x5 x6 x7 x8 x9 x10 x12 x14 x15 : Option EV} : ∀ (bs : List Bool) (x13 : Option EV) (r : List Bool),
    (∀ x13, D.nx [x0, x1, x2, x3, x4, x5, x6, x7, x8, x9, x10, v (numB (bs ++ r)), x12, x13, x14, x15] M) →
    foP (gN 13) w__law_ways_right_4 D (bs.reverse.map iB) [x0, x1, x2, x3, x4, x5, x6, x7, x8, x9, x10, v (numB r), x12, x13, x14, x15] M := by
  intro bs
  generalize hr : bs.reverse = rs
  induction rs generalizing bs with
  | nil =>
    intro x13 r q
    have : bs = [] := by simpa using hr
    subst this
    exact q x13
  | cons b rs ih =>
    intro x13 r q
    have e : bs = rs.reverse ++ [b] := by rw [← List.reverse_reverse (as := bs), hr, List.reverse_cons]
    have ih := fun x13 => ih rs.reverse (by rw [List.reverse_reverse]) x13 (b :: r) fun x13 => by
      have := q x13
      rw [e, List.append_assoc] at this
      exact this
    exact ⟨mul_l (by decide) (by decide), ih _⟩
theorem nextF_two (p : P2) : pP (nextF p.1 p.2) = pP (nextF p.1 p.2) := rfl
theorem wr12 (h : WQ l) (hg : Good R) (hl : R.length ≤ 30) (hM : okS M a) (hq : ∀ M', okS M' a → Q (.bl true) M') : t__law_ways_right_12 (fE Q) (fwr a l x2 x8 x9 (some (.v (.lst R))) none none none none none) M := by
  have hz := line1
  have hw := h.way true
  have hs := wayQ_sum true h.ok
  have hb := bits_len (wayQ true l) fun w hw' => by have := (hw.1 w hw').1; omega
  have hp := h.pos
  refine ⟨fun h1 => ?_, fun _ => wr13 (l := l) (x2 := x2) (x8 := x8) (x9 := x9) (x11 := none) (x12 := none) (x13 := none) h hg (by omega) hM hq⟩
  have h1 : l.sum - 1 ≤ 1200 := of_decide_eq_true h1
  have hlen : (bitsW (wayQ true l)).length ≤ 1200 := by rw [hs] at hb; omega
  refine bits_loop (bs := []) (wayQ true l) x8 x9 hw.1 (by rw [List.length_nil]; omega) fun x8 x9 => ?_
  rw [List.nil_append]
  have F := FB_way true h.ok
  rw [if_pos rfl] at F
  have I := FB_inc (bitsW (wayQ true l))
  rw [F] at I
  have N := numB_inc (bitsW (wayQ true l))
  have nx : ∀ x13, (sSet 10 (e2 addP (eV 10) (eF (fLst (aCons (eTup (aCons (eCall sp_number_of (aCons (eV 3) aNil)) (aCons (eV 11) aNil))) (aCons (eTup (aCons (eCall sp_at_number (aCons (eV 11) aNil)) (aCons (eV 3) aNil))) (aCons (eTup (aCons (eCall sp_at_number (aCons (e2 addP (eV 11) (eC (.int 1))) aNil)) (aCons (eCall sp_next_in_row (aCons (eV 3) aNil)) aNil))) aNil))))))) { fE Q with nx := t__law_ways_right_13 (fE Q) } (fwr a l x2 x8 x9 (some (.v (.lst R))) (v (numB (bitsW (wayQ true l)))) (some (.v (.lst ((bitsW (wayQ true l)).map iB)))) x13 none none) M := fun x13 => by
    have e2 : pP (FB (bitsW (wayQ true l))) = pP (cf l) := by rw [F]
    have e3 : pP (FB (incB (bitsW (wayQ true l)))) = pP (nextF (cf l).1 (cf l).2) := by rw [I]
    have b : (2 : Int) ^ 1120 < 2 ^ 1200 := by decide +kernel
    have li : (incB (bitsW (wayQ true l))).length ≤ 2000 := by
      have : ∀ bs, (incB bs).length ≤ bs.length + 1 := fun bs => by
        induction bs with
        | nil => simp [incB]
        | cons b r ih => cases b <;> simp [incB] <;> omega
      have := this (bitsW (wayQ true l))
      omega
    refine ⟨l, ⟨h.ok, h.few, rfl, by omega⟩, bitsW (wayQ true l), ⟨rfl, by omega⟩, incB (bitsW (wayQ true l)), ⟨N.symm, li⟩, ⟨hp.1, by omega, hp.2.1, by omega, hp.2.2.1⟩, ?_⟩
    exact ⟨by show R.length + 3 ≤ sizeLine; omega, wr13 (l := l) (x2 := x2) (x8 := x8) (x9 := x9) (x11 := v (numB (bitsW (wayQ true l)))) (x12 := some (.v (.lst ((bitsW (wayQ true l)).map iB)))) (x13 := x13) h (hg.app (.row rfl trivial (.row e2 (ok_pP _) (.row e3 (ok_pP _) .nil)))) (by rw [List.length_append]; show R.length + 3 ≤ 40; omega) hM hq⟩
  have key : foP (gN 13) w__law_ways_right_4 { fE Q with nx := fun f M => (sSet 10 (e2 addP (eV 10) (eF (fLst (aCons (eTup (aCons (eCall sp_number_of (aCons (eV 3) aNil)) (aCons (eV 11) aNil))) (aCons (eTup (aCons (eCall sp_at_number (aCons (eV 11) aNil)) (aCons (eV 3) aNil))) (aCons (eTup (aCons (eCall sp_at_number (aCons (e2 addP (eV 11) (eC (.int 1))) aNil)) (aCons (eCall sp_next_in_row (aCons (eV 3) aNil)) aNil))) aNil))))))) { fE Q with nx := t__law_ways_right_13 (fE Q) } f M } ((bitsW (wayQ true l)).reverse.map iB) (fwr a l x2 x8 x9 (some (.v (.lst R))) (v (numB [])) (some (.v (.lst ((bitsW (wayQ true l)).map iB)))) none none none) M := num_fold (bitsW (wayQ true l)) none [] fun x13 => by
    rw [List.append_nil]
    exact nx x13
  rw [List.map_reverse] at key
  exact key
theorem wr8 (h : WQ l) {x10 : Option EV} (hM : okS M a) (hq : ∀ M', okS M' a → Q (.bl true) M') : t__law_ways_right_8 (fE Q) (fwr a l x2 x8 x9 x10 none none none none none) M := by
  have hz := line1
  obtain ⟨p0, q0, g, pb, qb⟩ := h.pos
  have hw := h.way true
  have fl := h.flip
  have e := sd_eq h
  have det := detW_sd (wayQ true l)
  have nn := nnW_sd (ws := wayQ true l) fun w hw' => (hw.1 w hw').1
  have lenw : (wayQ true l).length ≤ 1000 := hw.2.2
  have e1 : pWs (wayQ true l) = pWs (wayQ true l) := rfl
  have e2 : pP ((sdW (wayQ true l)).1.1 + (sdW (wayQ true l)).2.1, (sdW (wayQ true l)).1.2 + (sdW (wayQ true l)).2.2) = pP (cf l) := by rw [e.1, e.2]
  have e5 : PV.int ((flipQ l).sum - 1) = .int (l.sum - 1) := by rw [flipQ_sum]
  have Sp : Sm (cf l).1 := Sm_of (K := 1120) (nab (by omega) pb)
  have Sq : Sm (cf l).2 := Sm_of (K := 1120) (nab (by omega) qb)
  have S1 : Sm (sdW (wayQ true l)).1.1 := Sm_le nn.1 (by have := nn.2.2.1; omega) Sp
  have S2 : Sm (sdW (wayQ true l)).1.2 := Sm_le nn.2.1 (by have := nn.2.2.2; omega) Sq
  have S3 : Sm (sdW (wayQ true l)).2.1 := Sm_le nn.2.2.1 (by have := nn.1; omega) Sp
  have S4 : Sm (sdW (wayQ true l)).2.2 := Sm_le nn.2.2.2 (by have := nn.2.1; omega) Sq
  unfold detW at det
  have d1 : (cf l).1 * (sdW (wayQ true l)).1.2 - (sdW (wayQ true l)).1.1 * (cf l).2 = 1 := by rw [← e.1, ← e.2]; grind
  have d2 : (sdW (wayQ true l)).2.1 * (cf l).2 - (cf l).1 * (sdW (wayQ true l)).2.2 = 1 := by rw [← e.1, ← e.2]; grind
  have n1 : PV.bl (decide ((cf l).1 * (sdW (wayQ true l)).1.2 - (sdW (wayQ true l)).1.1 * (cf l).2 = 1)) = .bl true := by rw [decide_eq_true d1]
  have n2 : PV.bl (decide ((sdW (wayQ true l)).2.1 * (cf l).2 - (cf l).1 * (sdW (wayQ true l)).2.2 = 1)) = .bl true := by rw [decide_eq_true d2]
  have n3 : PV.bl (decide ((sdW (wayQ true l)).1.1 * (cf l).2 - (cf l).1 * (sdW (wayQ true l)).1.2 = 1)) = .bl false := by rw [decide_eq_false (by omega)]
  -- the way of the turned fraction
  have w1 : wayQ true (flipQ l) = (wayQ true l).map fun w => (!w.1, w.2) := by rw [flipQ_way true h.ok, wayQ_not]
  have t11 : ∀ R : List PV, Good R → R.length ≤ 20 → t__law_ways_right_11 (fE Q) (fwr a l x2 x8 x9 (some (.v (.lst R))) none none none none none) M := fun R hg hl => by
    have ew : pWs (wayQ true (flipQ l)) = .tup ((wayQ true l).map fun w => pW (!w.1, w.2)) := by rw [w1, pWs, List.map_map]; rfl
    have ok : sameOk 6 (pWs (wayQ true (flipQ l))) := ok_pWs (by rw [w1, List.length_map]; exact lenw)
    refine ⟨_, rfl, _, rfl, flipQ l, fl, by rw [List.length_map]; omega, lcP_all (ι := pW) (fun w => pW (!w.1, w.2)) (fun w hw' K1 K0 k => ?_) ?_⟩
    · obtain ⟨s, n⟩ := w
      cases s
      · exact ⟨rfl, fun _ => ⟨⟨okS_str false, okR⟩, sS true, rfl, k⟩, fun h => (nomatch h)⟩
      · exact ⟨rfl, fun _ => ⟨⟨okS_str true, okR⟩, sS false, rfl, k⟩, fun h => (nomatch h)⟩
    · exact ⟨by show R.length + 1 ≤ sizeLine; omega, wr12 (l := l) (x2 := x2) (x8 := x8) (x9 := x9) h (hg.app (.row ew ok .nil)) (by rw [List.length_append]; show R.length + 1 ≤ 30; omega) hM hq⟩
  have t10 : ∀ R : List PV, Good R → R.length ≤ 10 → t__law_ways_right_10 (fE Q) (fwr a l x2 x8 x9 (some (.v (.lst R))) none none none none none) M := fun R hg hl =>
    ⟨⟨S1, S2, Sp, Sq⟩, ⟨Sp, Sq, S3, S4⟩, ⟨Sp, Sq, S1, S2⟩, by show R.length + 3 ≤ sizeLine; omega, t11 _ (hg.app (.row n1 trivial (.row n2 trivial (.row n3 trivial .nil)))) (by rw [List.length_append]; show R.length + 3 ≤ 20; omega)⟩
  have t9 : ∀ R : List PV, Good R → R.length ≤ 6 → t__law_ways_right_9 (fE Q) (fwr a l x2 x8 x9 (some (.v (.lst R))) none none none none none) M := fun R hg hl => by
    have b : (2 : Int) ^ 1120 < 2 ^ 1200 := by decide +kernel
    have k0 : 0 ≤ (cf l).1 / (cf l).2 := Int.ediv_nonneg (by omega) (by omega)
    have k1 : (cf l).1 / (cf l).2 ≤ (cf l).1 := Int.ediv_le_self _ (by omega)
    have dd := dvN (K := 1120) (by omega) q0 (nab (by omega) qb)
    have m1 : IntMulOk 2 ((cf l).1 / (cf l).2) := mul_l (by omega) (by omega)
    have m2 : IntMulOk (2 * ((cf l).1 / (cf l).2)) (cf l).2 := mul_b (K := 1200) (by omega) (nab (by omega) (by omega)) (nab (by omega) (by omega))
    have ee := Int.emod_add_mul_ediv (cf l).1 (cf l).2
    have e1 := Int.emod_lt_of_pos (cf l).1 q0
    have e2' := Int.emod_nonneg (cf l).1 (show (cf l).2 ≠ 0 by omega)
    have eq : 2 * ((cf l).1 / (cf l).2) * (cf l).2 = (cf l).2 * ((cf l).1 / (cf l).2) + (cf l).2 * ((cf l).1 / (cf l).2) := by grind
    have kq : 0 ≤ (cf l).2 * ((cf l).1 / (cf l).2) := Int.mul_nonneg (by omega) k0
    have u0 : 0 < 2 * ((cf l).1 / (cf l).2) * (cf l).2 + (cf l).2 - (cf l).1 := by omega
    have us : Sm (2 * ((cf l).1 / (cf l).2) * (cf l).2 + (cf l).2 - (cf l).1) := Sm_of (K := 1200) (nab (by omega) (by omega))
    have en : pP (nextF (cf l).1 (cf l).2) = pP (lowP (cf l).2 (2 * ((cf l).1 / (cf l).2) * (cf l).2 + (cf l).2 - (cf l).1)) := by
      have hg' : Int.gcd (cf l).2 (2 * ((cf l).1 / (cf l).2) * (cf l).2 + (cf l).2 - (cf l).1) = 1 := nextF_gcd g
      unfold lowP
      rw [hg']
      simp [nextF]
    refine ⟨⟨p0, by omega, q0, by omega, g⟩, _, rfl, _, rfl, _, rfl, dd, m1, _, rfl, m2, _, rfl, _, rfl, ⟨u0, us⟩, ?_⟩
    exact ⟨by show R.length + 1 ≤ sizeLine; omega, t10 _ (hg.app (.row en (ok_pP _) .nil)) (by rw [List.length_append]; show R.length + 1 ≤ 10; omega)⟩
  refine ⟨l, ⟨h.ok, h.few, rfl⟩, wayQ true l, rfl, hw, wayQ true l, rfl, hw, l, ⟨h.ok, h.few, rfl⟩, _, rfl, _, rfl, flipQ l, fl, ?_⟩
  exact t9 _ (.row e1 (ok_pWs lenw) (.row e2 (ok_pP _) (.row rfl (ok_two _ _) (.row rfl trivial (.row e5 trivial .nil))))) (by show 5 ≤ 6; omega)
end
end Fl

end

section
set_option exponentiation.threshold 20000
namespace Fl
open PySem PySem.Spec PyProof.Rows L2
section
variable {a : Addr} {M : Sto} {Q : PV → Sto → Prop}
theorem side_loop2 {D : FEnds} {x0 x1 x2 x3 x4 x5 x10 x11 x12 x13 x14 x15 : Option EV} : ∀ (ws : List (Bool × Int)) (st : P2 × P2) (x8 x9 : Option EV), (∀ w ∈ ws, 1 ≤ w.2 ∧ w.2 < 2 ^ 40) →
    (∀ x8 x9, D.nx [x0, x1, x2, x3, x4, x5, some (.v (pP (ws.foldl stW st).1)), some (.v (pP (ws.foldl stW st).2)), x8, x9, x10, x11, x12, x13, x14, x15] M) →
    foP (gS 2 (gsCons (gN 8) (gsCons (gN 9) gsNil))) w__law_ways_right_2 D (ws.map pW) [x0, x1, x2, x3, x4, x5, some (.v (pP st.1)), some (.v (pP st.2)), x8, x9, x10, x11, x12, x13, x14, x15] M
  | [], st, x8, x9, _, q => q x8 x9
  | (s, k) :: ws, st, x8, x9, h, q => by
    have hk := h (s, k) (by simp)
    have hk1 : -(2 ^ 64) < k := by have : 1 ≤ k := hk.1; omega
    have hk2 : k < 2 ^ 64 := by have : k < 2 ^ 40 := hk.2; omega
    have ih := fun x8 x9 => side_loop2 (D := D) (x0 := x0) (x1 := x1) (x2 := x2) (x3 := x3) (x4 := x4) (x5 := x5) (x10 := x10) (x11 := x11) (x12 := x12) (x13 := x13) (x14 := x14) (x15 := x15) ws (stW st (s, k)) x8 x9 (fun w hw => h w (by simp [hw])) q
    cases s
    · exact ⟨rfl, ⟨okS_str _, okR⟩, fun h => (nomatch h), fun _ => ⟨_, rfl, _, rfl, mul_l hk1 hk2, _, rfl, _, rfl, mul_l hk1 hk2, ih _ _⟩⟩
    · exact ⟨rfl, ⟨okS_str _, okR⟩, fun _ => ⟨_, rfl, _, rfl, mul_l hk1 hk2, _, rfl, _, rfl, mul_l hk1 hk2, ih _ _⟩, fun h => (nomatch h)⟩
theorem wr3 {l : List Int} {x2 : Option EV} (h : WQ l) (hM : okS M a) (hq : ∀ M', okS M' a → Q (.bl true) M') :
    t__law_ways_right_3 (fE Q) [some (.v (.cell a)), some (.b (l.map .int)), x2, none, none, none, none, none, none, none, none, none, none, none, none, none] M := by
  have hw := h.way true
  refine ⟨l, rfl, h.few, rfl, hM.flat, _, rfl, _, rfl, l, ⟨h.ok, h.few, rfl⟩, l, rfl, rfl, ?_⟩
  exact side_loop2 (D := { fE Q with nx := t__law_ways_right_8 (fE Q) }) (wayQ true l) ((0, 1), (1, 0)) none none hw.1 fun x8 x9 => wr8 (l := l) (x2 := x2) (x8 := x8) (x9 := x9) (x10 := none) h hM hq
theorem quo_loop {D : FEnds} : ∀ (n : Nat) (lo : Int) (q0 : Int) (ms : List Int) (x2 : Option EV) (M : Sto), okS M a → ms.length + n ≤ 60 → (∀ q ∈ ms, 1 ≤ q ∧ q < 131000) →
    (∀ ms x2 M, okS M a → ms.length ≤ 60 → (∀ q ∈ ms, 1 ≤ q ∧ q < 131000) → D.nx [some (.v (.cell a)), some (.b ((q0 :: ms).map .int)), x2, none, none, none, none, none, none, none, none, none, none, none, none, none] M) →
    foP (gN 2) w__law_ways_right_1 D (rng lo n) [some (.v (.cell a)), some (.b ((q0 :: ms).map .int)), x2, none, none, none, none, none, none, none, none, none, none, none, none, none] M
  | 0, lo, q0, ms, x2, M, hM, hn, hm, q => q ms x2 M hM (by omega) hm
  | n + 1, lo, q0, ms, x2, M, hM, hn, hm, q => by
    have hz := line1
    refine ⟨hM, ⟨by decide, by decide⟩, fun r1 M1 a0 a1 hM1 => ⟨⟨by decide, by decide, by decide⟩, hM1, ⟨by decide, by decide⟩, fun r2 M2 b0 b1 hM2 => ⟨hM2, ⟨by decide, by decide⟩, fun r3 M3 c0 c1 hM3 => ⟨⟨by decide, by decide +kernel⟩, ?_⟩⟩⟩⟩
    have w5 : ((10 : Int) ^ (5 : Int).toNat) = 100000 := rfl
    rw [w5] at b1
    have pick : ∃ z : Int, 0 ≤ z ∧ z < 100000 ∧ atI [PV.int r1, PV.int r2] (r3 / 4) = some (.int z) := by
      have : r3 / 4 = 0 ∨ r3 / 4 = 1 := by omega
      rcases this with e | e <;> rw [e]
      · exact ⟨r1, a0, by omega, rfl⟩
      · exact ⟨r2, b0, b1, rfl⟩
    obtain ⟨z, z0, z1, hz1⟩ := pick
    have ih := quo_loop n (lo + 1) q0 (ms ++ [1 + z]) (v lo) M3 hM3 (by rw [List.length_append, List.length_singleton]; omega) (fun q hq => by
      rcases List.mem_append.mp hq with e | e
      · exact hm q e
      · rw [List.mem_singleton.mp e]; omega) q
    rw [← List.cons_append, mapI] at ih
    exact ⟨.int z, hz1, by rw [List.length_map, List.length_cons]; omega, ih⟩
theorem l__law_ways_right : ∀ args M Q, sp__law_ways_right args M Q → args.length = 1 ∧ b__law_ways_right (fE Q) (fr0 15 args) M := fun args M Q h => by
  match args, h with
  | [.cell a], ⟨hM, hq⟩ =>
    have hz := line1
    refine ⟨rfl, hM, ⟨by decide, by decide⟩, fun q0 M1 a0 a1 hM1 => ⟨hM1, ⟨by decide, by decide⟩, fun n M2 b0 b1 hM2 => ⟨⟨by omega, by omega⟩, ?_⟩⟩⟩
    refine quo_loop (D := { fE Q with nx := t__law_ways_right_2 (fE Q) }) n.toNat 0 q0 [] none M2 hM2 (by rw [List.length_nil]; omega) (by simp) fun ms x2 M3 hM3 hl hm => ?_
    refine ⟨hM3, ⟨by decide, by decide⟩, fun r M4 c0 c1 hM4 => ⟨by rw [List.length_map, List.length_cons]; omega, ?_⟩⟩
    have wq : WQ (q0 :: (ms ++ [2 + r])) := by
      refine ⟨okQ0_snoc q0 ms (2 + r) a0 (fun q hq => (hm q hq).1) (by omega), ⟨by rw [List.length_cons, List.length_append, List.length_singleton]; omega, fun q hq => ?_⟩, by rw [List.length_cons, List.length_append, List.length_singleton]; omega⟩
      rcases List.mem_cons.mp hq with e | e
      · omega
      · rcases List.mem_append.mp e with e | e
        · have := hm q e; omega
        · rw [List.mem_singleton.mp e]; omega
    have key := wr3 (x2 := x2) wq hM4 hq
    rw [← List.cons_append, mapI] at key
    exact key
theorem l__law_right : ∀ args M Q, sp__law_right args M Q → args.length = 1 ∧ b__law_right (fE Q) (fr0 0 args) M := fun args M Q h => by
  match args, h with
  | [.cell a], ⟨hM, hq⟩ =>
    exact ⟨rfl, ⟨hM, fun M1 h1 => ⟨trivial, fun _ => ⟨h1, fun M2 h2 => ⟨trivial, fun _ => ⟨h2, fun M3 h3 => hq M3 h3⟩, fun h => (nomatch h)⟩⟩, fun h => (nomatch h)⟩⟩⟩
theorem law_loop {w : PV} {ns : List Int} (hw : isScript w ns) {D : FEnds} {M : Sto} (hM : ∀ a, M a = none) (hD : ∀ x, D.nx [some (.v w), x] M) : ∀ (n : Nat) (lo : Int) (x : Option EV), 0 ≤ lo → lo + n < 2 ^ 50 → foP (gN 1) w_law_1 D (rng lo n) [some (.v w), x] M
  | 0, lo, x, _, _ => hD x
  | n + 1, lo, x, h0, h1 => ⟨ns, hw, h0, fun c => ⟨hM, rfl, ⟨h0, by omega⟩, fun s0 s1 h2 h3 => ⟨rfl, fun a => ⟨⟨s0, s1, if_pos rfl, h2, h3, flat_one a s0 s1⟩, fun M' _ => ⟨true, rfl, trivial, fun h => (nomatch h), fun _ => law_loop hw hM hD n (lo + 1) _ (by omega) (by omega)⟩⟩⟩⟩⟩
theorem l_law : ∀ args M Q, sp_law args M Q → args.length = 1 ∧ b_law (fE Q) (fr0 1 args) M := fun args M Q h => by
  match args, h with
  | [w], ⟨ns, hw, hl, hM, hq⟩ =>
    refine ⟨rfl, ?_⟩
    have hl' : (ns.map PV.int).length ≤ 63 := by rw [List.length_map]; exact hl
    have fin : ∀ n : Int, -(2 ^ 62) ≤ n → n < 2 ^ 40 → (-(2 ^ 62) ≤ n ∧ n < 2 ^ 62) ∧ foP (gN 1) w_law_1 { fE Q with nx := t_law_1 (fE Q) } (rng 0 n.toNat) [some (.v w), none] M := fun n h1 h2 =>
      ⟨⟨h1, by omega⟩, law_loop (D := { fE Q with nx := t_law_1 (fE Q) }) hw hM (fun x => hq) n.toNat 0 none (by omega) (by omega)⟩
    have hw' := hw
    rcases hw with rfl | rfl
    all_goals
      have e : ∀ n : Nat, n ≤ 63 → 0 ≤ (if (4 : Int) < (n : Int) then (4 : Int) else (n : Int)) ∧ (if (4 : Int) < (n : Int) then (4 : Int) else (n : Int)) ≤ 63 := fun n h => by split <;> omega
      have e1 : ∀ g : Int, 0 ≤ g ∧ g ≤ 63 → -(2 ^ 62) ≤ g + 2 := fun g h => by omega
      have e2 : ∀ g : Int, 0 ≤ g ∧ g ≤ 63 → g + 2 < 2 ^ 40 := fun g h => by omega
      exact fin _ (e1 _ (e _ hl')) (e2 _ (e _ hl'))
end
end Fl

end

namespace Fl
open PySem PySem.Spec PyProof.Rows L2
/-! printed by gen.py: each def of the text keeps its promise -/
def topS (i : Nat) : Stmt := PySem.Challenge.pw_notewhole_k43_whole_ways_of_great_fracti.main.body.getD i (.Pass ⟨0, 0, 0, 0⟩)
structure Txt (mg : Str → Option Value) : Prop where
  n_abs : mg "abs" = none
  g_LIMIT : ∃ t, mg "LIMIT" = some (.int g_LIMIT t)
  n_len : mg "len" = none
  n_tuple : mg "tuple" = none
  n_any : mg "any" = none
  n_zip : mg "zip" = none
  n_sum : mg "sum" = none
  g_MOST_STEPS : ∃ t, mg "MOST_STEPS" = some (.int g_MOST_STEPS t)
  n_range : mg "range" = none
  n_reversed : mg "reversed" = none
  n_int : mg "int" = none
  n_isinstance : mg "isinstance" = none
  n_list : mg "list" = none
  n_bool : mg "bool" = none
  n_str : mg "str" = none
  n_min : mg "min" = none
section
variable {P : Program} {w : World} {K : PySem.W.Frag} {mg : Str → Option Value} {base : Heap}
abbrev s_power : Stmt := topS 6
abbrev N_power : List Str := ["base", "e", "result", "left", "factor"]
theorem sc_power : FnScope N_power ["base", "e"] (defScope s_power) := ⟨rfl, rfl, rfl, by decide +kernel, rfl, by decide +kernel, by decide +kernel⟩
theorem ok_power (D : Dfn K mg "power" "power" s_power ["base", "e"]) (T : Txt mg)  : Cal P w K mg base 1 "power" ["base", "e"] sp_power :=
  cal_ok (n := 3) D sc_power rfl (fun f cdv A outer s H E hr => by
    have hu := hr.u128
    exact (rs_cons (rs_if (rtc (c_ltA hu) (re_var 1) re_int) rss_never rs_nil) (rs_cons (st1 2 sc_power.nd re_int) (rs_cons (st1 3 sc_power.nd (re_var 1)) (rs_cons (st1 4 sc_power.nd (re_var 0)) (rs_cons (rs_while PassesOwn.never (rtc (c_gtA hu) (re_var 3) re_int) (rs_cons (rs_if (rtc (c_eqX hu) (re_mod (re_var 3) re_int) re_int) (rs_one (st1 2 sc_power.nd (re_mul (re_var 2) (re_var 4)))) rs_nil) (rs_cons (st1 4 sc_power.nd (re_mul (re_var 4) (re_var 4))) (rs_one (st1 3 sc_power.nd (re_div (re_var 3) re_int)))))) (rs_one (rs_ret (re_var 2))))))))) l_power
abbrev s_checked : Stmt := topS 9
abbrev N_checked : List Str := ["n"]
theorem sc_checked : FnScope N_checked ["n"] (defScope s_checked) := ⟨rfl, rfl, rfl, by decide +kernel, rfl, by decide +kernel, by decide +kernel⟩
theorem ok_checked (D : Dfn K mg "checked" "checked" s_checked ["n"]) (T : Txt mg)  : Cal P w K mg base 1 "checked" ["n"] sp_checked :=
  cal_ok (n := 0) D sc_checked rfl (fun f cdv A outer s H E hr => by
    have hu := hr.u128
    exact (rs_cons (rs_if (rtc (c_geA hu) (re_abs (by rfl) T.n_abs (ra_cons (re_var 0) ra_nil)) (re_glob (by rfl) T.g_LIMIT.choose_spec (show RelV (.int g_LIMIT) _ from ⟨_, rfl⟩) (fun _ _ _ => .int _))) rss_never rs_nil) (rs_one (rs_ret (re_var 0))))) l_checked
abbrev s_shared : Stmt := topS 10
abbrev N_shared : List Str := ["one", "other"]
theorem sc_shared : FnScope N_shared ["one", "other"] (defScope s_shared) := ⟨rfl, rfl, rfl, by decide +kernel, rfl, by decide +kernel, by decide +kernel⟩
theorem ok_shared (D : Dfn K mg "shared" "shared" s_shared ["one", "other"]) (T : Txt mg)  : Cal P w K mg base 1 "shared" ["one", "other"] sp_shared :=
  cal_ok (n := 0) D sc_shared rfl (fun f cdv A outer s H E hr => by
    have hu := hr.u128
    exact (rs_cons (st2 0 1 rfl sc_shared.nd (ra_cons (re_abs (by rfl) T.n_abs (ra_cons (re_var 0) ra_nil)) (ra_cons (re_abs (by rfl) T.n_abs (ra_cons (re_var 1) ra_nil)) ra_nil))) (rs_cons (rs_while PassesOwn.never (rtc (c_neX hu) (re_var 1) re_int) (rs_one (st2 0 1 rfl sc_shared.nd (ra_cons (re_var 1) (ra_cons (re_mod (re_var 0) (re_var 1)) ra_nil))))) (rs_one (rs_ret (re_var 0)))))) l_shared
abbrev s_log_of : Stmt := topS 11
abbrev N_log_of : List Str := ["base", "n", "e", "whole"]
theorem sc_log_of : FnScope N_log_of ["base", "n"] (defScope s_log_of) := ⟨rfl, rfl, rfl, by decide +kernel, rfl, by decide +kernel, by decide +kernel⟩
theorem ok_log_of (D : Dfn K mg "log_of" "log_of" s_log_of ["base", "n"]) (T : Txt mg)  : Cal P w K mg base 1 "log_of" ["base", "n"] sp_log_of :=
  cal_ok (n := 2) D sc_log_of rfl (fun f cdv A outer s H E hr => by
    have hu := hr.u128
    exact (rs_cons (rs_if (rw_or (rtc (c_ltA hu) (re_var 1) re_int) (rw_or1 (rtc (c_ltA hu) (re_var 0) re_int))).rt rss_never rs_nil) (rs_cons (st1 2 sc_log_of.nd re_int) (rs_cons (st1 3 sc_log_of.nd (re_var 0)) (rs_cons (rs_while PassesOwn.never (rtc (c_leA hu) (re_var 3) (re_var 1)) (rs_cons (st1 3 sc_log_of.nd (re_mul (re_var 3) (re_var 0))) (rs_one (st1 2 sc_log_of.nd (re_add (re_var 2) re_int))))) (rs_one (rs_ret (re_var 2)))))))) l_log_of
abbrev s_root_of : Stmt := topS 12
abbrev N_root_of : List Str := ["n", "k", "low", "high", "middle"]
theorem sc_root_of : FnScope N_root_of ["n", "k"] (defScope s_root_of) := ⟨rfl, rfl, rfl, by decide +kernel, rfl, by decide +kernel, by decide +kernel⟩
theorem ok_root_of (D : Dfn K mg "root_of" "root_of" s_root_of ["n", "k"]) (T : Txt mg) (c_power : Cal P w K mg base 1 "power" ["base", "e"] sp_power) : Cal P w K mg base 2 "root_of" ["n", "k"] sp_root_of :=
  cal_ok (n := 3) D sc_root_of rfl (fun f cdv A outer s H E hr => by
    have hu := hr.u128
    exact (rs_cons (rs_if (rw_or (rtc (c_ltA hu) (re_var 0) re_int) (rw_or1 (rtc (c_ltA hu) (re_var 1) re_int))).rt rss_never rs_nil) (rs_cons (rs_asg (re_tup (ra_cons re_int (ra_cons re_int ra_nil))) (tgS rfl (tgc (tg1 2 sc_root_of.nd) (tgc (tg1 3 sc_root_of.nd) rgs_nil)))) (rs_cons (rs_while PassesOwn.never (rtc (c_leA hu) (rcl c_power hr (ra_cons (re_var 3) (ra_cons (re_var 1) ra_nil))) (re_var 0)) (rs_one (st1 3 sc_root_of.nd (re_mul (re_var 3) re_int)))) (rs_cons (rs_while PassesOwn.never (rtc (c_gtA hu) (re_subA (re_var 3) (re_var 2)) re_int) (rs_cons (st1 4 sc_root_of.nd (re_div (re_add (re_var 2) (re_var 3)) re_int)) (rs_one (rs_if (rtc (c_leA hu) (rcl c_power hr (ra_cons (re_var 4) (ra_cons (re_var 1) ra_nil))) (re_var 0)) (rs_one (st1 2 sc_root_of.nd (re_var 4))) (rs_one (st1 3 sc_root_of.nd (re_var 4))))))) (rs_one (rs_ret (re_var 2)))))))) l_root_of
abbrev s_fraction : Stmt := topS 13
abbrev N_fraction : List Str := ["number", "under", "common"]
theorem sc_fraction : FnScope N_fraction ["number", "under"] (defScope s_fraction) := ⟨rfl, rfl, rfl, by decide +kernel, rfl, by decide +kernel, by decide +kernel⟩
theorem ok_fraction (D : Dfn K mg "fraction" "fraction" s_fraction ["number", "under"]) (T : Txt mg) (c_shared : Cal P w K mg base 1 "shared" ["one", "other"] sp_shared) (c_checked : Cal P w K mg base 1 "checked" ["n"] sp_checked) : Cal P w K mg base 2 "fraction" ["number", "under"] sp_fraction :=
  cal_ok (n := 1) D sc_fraction rfl (fun f cdv A outer s H E hr => by
    have hu := hr.u128
    exact (rs_cons (rs_if (rtc (c_eqX hu) (re_var 1) re_int) rss_never rs_nil) (rs_cons (st1 2 sc_fraction.nd (rcl c_shared hr (ra_cons (re_var 0) (ra_cons (re_var 1) ra_nil)))) (rs_cons (rs_if (rtc (c_ltA hu) (re_var 1) re_int) (rs_one (st1 2 sc_fraction.nd (re_neg (re_var 2)))) rs_nil) (rs_one (rs_ret (re_tup (ra_cons (rcl c_checked hr (ra_cons (re_divX (re_var 0) (re_var 2)) ra_nil)) (ra_cons (rcl c_checked hr (ra_cons (re_divX (re_var 1) (re_var 2)) ra_nil)) ra_nil))))))))) l_fraction
abbrev s_is_fraction : Stmt := topS 14
abbrev N_is_fraction : List Str := ["pair"]
theorem sc_is_fraction : FnScope N_is_fraction ["pair"] (defScope s_is_fraction) := ⟨rfl, rfl, rfl, by decide +kernel, rfl, by decide +kernel, by decide +kernel⟩
theorem ok_is_fraction (D : Dfn K mg "is_fraction" "is_fraction" s_is_fraction ["pair"]) (T : Txt mg) (c_shared : Cal P w K mg base 1 "shared" ["one", "other"] sp_shared) : Cal P w K mg base 2 "is_fraction" ["pair"] sp_is_fraction :=
  cal_ok (n := 0) D sc_is_fraction rfl (fun f cdv A outer s H E hr => by
    have hu := hr.u128
    exact (rs_one (rs_ret (re_and (rec (c_eqX hu) (re_len (by rfl) T.n_len (ra_cons (re_var 0) ra_nil)) re_int) (re_and (rec (c_gtA hu) (re_ix (re_var 0) re_int) re_int) (re_one (rec (c_eqX hu) (rcl c_shared hr (ra_cons (re_ix (re_var 0) re_int) (ra_cons (re_ix (re_var 0) re_int) ra_nil))) re_int))))))) l_is_fraction
abbrev s_known : Stmt := topS 15
abbrev N_known : List Str := ["pair", "found"]
theorem sc_known : FnScope N_known ["pair"] (defScope s_known) := ⟨rfl, rfl, rfl, by decide +kernel, rfl, by decide +kernel, by decide +kernel⟩
theorem ok_known (D : Dfn K mg "known" "known" s_known ["pair"]) (T : Txt mg) (c_is_fraction : Cal P w K mg base 2 "is_fraction" ["pair"] sp_is_fraction) : Cal P w K mg base 3 "known" ["pair"] sp_known :=
  cal_ok (n := 1) D sc_known rfl (fun f cdv A outer s H E hr => by
    exact (rs_cons (st1 1 sc_known.nd (re_tupOf (by rfl) T.n_tuple (ra_cons (re_var 0) ra_nil))) (rs_cons (rs_if (rt_not (rt_tru (rcl c_is_fraction hr (ra_cons (re_var 1) ra_nil)))) rss_never rs_nil) (rs_one (rs_ret (re_var 1)))))) l_known
abbrev s_plus : Stmt := topS 16
abbrev N_plus : List Str := ["one", "other"]
theorem sc_plus : FnScope N_plus ["one", "other"] (defScope s_plus) := ⟨rfl, rfl, rfl, by decide +kernel, rfl, by decide +kernel, by decide +kernel⟩
theorem ok_plus (D : Dfn K mg "plus" "plus" s_plus ["one", "other"]) (T : Txt mg) (c_fraction : Cal P w K mg base 2 "fraction" ["number", "under"] sp_fraction) : Cal P w K mg base 3 "plus" ["one", "other"] sp_plus :=
  cal_ok (n := 0) D sc_plus rfl (fun f cdv A outer s H E hr => by
    exact (rs_one (rs_ret (rcl c_fraction hr (ra_cons (re_add (re_mul (re_ix (re_var 0) re_int) (re_ix (re_var 1) re_int)) (re_mul (re_ix (re_var 1) re_int) (re_ix (re_var 0) re_int))) (ra_cons (re_mul (re_ix (re_var 0) re_int) (re_ix (re_var 1) re_int)) ra_nil)))))) l_plus
abbrev s_minus : Stmt := topS 17
abbrev N_minus : List Str := ["one", "other"]
theorem sc_minus : FnScope N_minus ["one", "other"] (defScope s_minus) := ⟨rfl, rfl, rfl, by decide +kernel, rfl, by decide +kernel, by decide +kernel⟩
theorem ok_minus (D : Dfn K mg "minus" "minus" s_minus ["one", "other"]) (T : Txt mg) (c_fraction : Cal P w K mg base 2 "fraction" ["number", "under"] sp_fraction) : Cal P w K mg base 3 "minus" ["one", "other"] sp_minus :=
  cal_ok (n := 0) D sc_minus rfl (fun f cdv A outer s H E hr => by
    exact (rs_one (rs_ret (rcl c_fraction hr (ra_cons (re_subA (re_mul (re_ix (re_var 0) re_int) (re_ix (re_var 1) re_int)) (re_mul (re_ix (re_var 1) re_int) (re_ix (re_var 0) re_int))) (ra_cons (re_mul (re_ix (re_var 0) re_int) (re_ix (re_var 1) re_int)) ra_nil)))))) l_minus
abbrev s_times : Stmt := topS 18
abbrev N_times : List Str := ["one", "other"]
theorem sc_times : FnScope N_times ["one", "other"] (defScope s_times) := ⟨rfl, rfl, rfl, by decide +kernel, rfl, by decide +kernel, by decide +kernel⟩
theorem ok_times (D : Dfn K mg "times" "times" s_times ["one", "other"]) (T : Txt mg) (c_fraction : Cal P w K mg base 2 "fraction" ["number", "under"] sp_fraction) : Cal P w K mg base 3 "times" ["one", "other"] sp_times :=
  cal_ok (n := 0) D sc_times rfl (fun f cdv A outer s H E hr => by
    exact (rs_one (rs_ret (rcl c_fraction hr (ra_cons (re_mul (re_ix (re_var 0) re_int) (re_ix (re_var 1) re_int)) (ra_cons (re_mul (re_ix (re_var 0) re_int) (re_ix (re_var 1) re_int)) ra_nil)))))) l_times
abbrev s_over : Stmt := topS 19
abbrev N_over : List Str := ["one", "other"]
theorem sc_over : FnScope N_over ["one", "other"] (defScope s_over) := ⟨rfl, rfl, rfl, by decide +kernel, rfl, by decide +kernel, by decide +kernel⟩
theorem ok_over (D : Dfn K mg "over" "over" s_over ["one", "other"]) (T : Txt mg) (c_fraction : Cal P w K mg base 2 "fraction" ["number", "under"] sp_fraction) : Cal P w K mg base 3 "over" ["one", "other"] sp_over :=
  cal_ok (n := 0) D sc_over rfl (fun f cdv A outer s H E hr => by
    exact (rs_one (rs_ret (rcl c_fraction hr (ra_cons (re_mul (re_ix (re_var 0) re_int) (re_ix (re_var 1) re_int)) (ra_cons (re_mul (re_ix (re_var 0) re_int) (re_ix (re_var 1) re_int)) ra_nil)))))) l_over
abbrev s_compared : Stmt := topS 20
abbrev N_compared : List Str := ["one", "other", "left", "right"]
theorem sc_compared : FnScope N_compared ["one", "other"] (defScope s_compared) := ⟨rfl, rfl, rfl, by decide +kernel, rfl, by decide +kernel, by decide +kernel⟩
theorem ok_compared (D : Dfn K mg "compared" "compared" s_compared ["one", "other"]) (T : Txt mg)  : Cal P w K mg base 1 "compared" ["one", "other"] sp_compared :=
  cal_ok (n := 2) D sc_compared rfl (fun f cdv A outer s H E hr => by
    have hu := hr.u128
    exact (rs_cons (st2 2 3 rfl sc_compared.nd (ra_cons (re_mul (re_ix (re_var 0) re_int) (re_ix (re_var 1) re_int)) (ra_cons (re_mul (re_ix (re_var 1) re_int) (re_ix (re_var 0) re_int)) ra_nil))) (rs_one (rs_ret (re_subA (rec (c_gtA hu) (re_var 2) (re_var 3)) (rec (c_ltA hu) (re_var 2) (re_var 3))))))) l_compared
abbrev s_above_zero : Stmt := topS 23
abbrev N_above_zero : List Str := ["pair", "found"]
theorem sc_above_zero : FnScope N_above_zero ["pair"] (defScope s_above_zero) := ⟨rfl, rfl, rfl, by decide +kernel, rfl, by decide +kernel, by decide +kernel⟩
theorem ok_above_zero (D : Dfn K mg "above_zero" "above_zero" s_above_zero ["pair"]) (T : Txt mg) (c_known : Cal P w K mg base 3 "known" ["pair"] sp_known) : Cal P w K mg base 4 "above_zero" ["pair"] sp_above_zero :=
  cal_ok (n := 1) D sc_above_zero rfl (fun f cdv A outer s H E hr => by
    have hu := hr.u128
    exact (rs_cons (st1 1 sc_above_zero.nd (rcl c_known hr (ra_cons (re_var 0) ra_nil))) (rs_cons (rs_if (rtc (c_ltA hu) (re_ix (re_var 1) re_int) re_int) rss_never rs_nil) (rs_one (rs_ret (re_var 1)))))) l_above_zero
abbrev s_way_to : Stmt := topS 24
abbrev N_way_to : List Str := ["pair", "number", "under", "found", "side", "often"]
theorem sc_way_to : FnScope N_way_to ["pair"] (defScope s_way_to) := ⟨rfl, rfl, rfl, by decide +kernel, rfl, by decide +kernel, by decide +kernel⟩
theorem ok_way_to (D : Dfn K mg "way_to" "way_to" s_way_to ["pair"]) (T : Txt mg) (c_above_zero : Cal P w K mg base 4 "above_zero" ["pair"] sp_above_zero) : Cal P w K mg base 5 "way_to" ["pair"] sp_way_to :=
  cal_ok (n := 5) D sc_way_to rfl (fun f cdv A outer s H E hr => by
    have hu := hr.u128
    exact (rs_cons (rs_asg (rcl c_above_zero hr (ra_cons (re_var 0) ra_nil)) (tgS rfl (tgc (tg1 1 sc_way_to.nd) (tgc (tg1 2 sc_way_to.nd) rgs_nil)))) (rs_cons (stB 3 sc_way_to.nd (rf_lst ra_nil)) (rs_cons (st1 4 sc_way_to.nd re_str) (rs_cons (rs_while PassesOwn.never (rtc (c_neX hu) (re_var 2) re_int) (rs_cons (st1 5 sc_way_to.nd (re_div (re_var 1) (re_var 2))) (rs_cons (rs_if (rtc (c_eqX hu) (re_mod (re_var 1) (re_var 2)) re_int) (rs_cons (st1 5 sc_way_to.nd (re_subA (re_var 5) re_int)) (rs_one (rs_asg (re_tup (ra_cons re_int (ra_cons re_int ra_nil))) (tgS rfl (tgc (tg1 1 sc_way_to.nd) (tgc (tg1 2 sc_way_to.nd) rgs_nil)))))) (rs_one (st2 1 2 rfl sc_way_to.nd (ra_cons (re_var 2) (ra_cons (re_mod (re_var 1) (re_var 2)) ra_nil))))) (rs_cons (rs_if (rtc (c_gtA hu) (re_var 5) re_int) (rs_one (rs_app 3 (pv 3) (re_tup (ra_cons (re_var 4) (ra_cons (re_var 5) ra_nil))))) rs_nil) (rs_one (st1 4 sc_way_to.nd (re_if (rtc (c_eqX hu) (re_var 4) re_str) re_str re_str))))))) (rs_one (rs_ret (re_tupOf (by rfl) T.n_tuple (ra_cons (re_var 3) ra_nil))))))))) l_way_to
abbrev s_end_of : Stmt := topS 25
abbrev N_end_of : List Str := ["way", "low", "high", "side", "often"]
theorem sc_end_of : FnScope N_end_of ["way"] (defScope s_end_of) := ⟨rfl, rfl, rfl, by decide +kernel, rfl, by decide +kernel, by decide +kernel⟩
theorem ok_end_of (D : Dfn K mg "end_of" "end_of" s_end_of ["way"]) (T : Txt mg) (c_check_way : Cal P w K mg base 1 "check_way" ["way"] sp_check_way) : Cal P w K mg base 2 "end_of" ["way"] sp_end_of :=
  cal_ok (n := 4) D sc_end_of rfl (fun f cdv A outer s H E hr => by
    have hu := hr.u128
    exact (rs_cons (rs_ex (rcl c_check_way hr (ra_cons (re_var 0) ra_nil))) (rs_cons (rs_asg (re_tup (ra_cons (re_tup (ra_cons re_int (ra_cons re_int ra_nil))) (ra_cons (re_tup (ra_cons re_int (ra_cons re_int ra_nil))) ra_nil))) (tgS rfl (tgc (tg1 1 sc_end_of.nd) (tgc (tg1 2 sc_end_of.nd) rgs_nil)))) (rs_cons (rs_for PassesOwn.never rfl (ri_seq (re_var 0)) (tgS rfl (tgc (tg1 3 sc_end_of.nd) (tgc (tg1 4 sc_end_of.nd) rgs_nil))) (rs_one (rs_if (rtc (c_eqX hu) (re_var 3) re_str) (rs_one (st1 1 sc_end_of.nd (re_tup (ra_cons (re_add (re_ix (re_var 1) re_int) (re_mul (re_var 4) (re_ix (re_var 2) re_int))) (ra_cons (re_add (re_ix (re_var 1) re_int) (re_mul (re_var 4) (re_ix (re_var 2) re_int))) ra_nil))))) (rs_one (st1 2 sc_end_of.nd (re_tup (ra_cons (re_add (re_ix (re_var 2) re_int) (re_mul (re_var 4) (re_ix (re_var 1) re_int))) (ra_cons (re_add (re_ix (re_var 2) re_int) (re_mul (re_var 4) (re_ix (re_var 1) re_int))) ra_nil)))))))) (rs_one (rs_ret (re_tup (ra_cons (re_add (re_ix (re_var 1) re_int) (re_ix (re_var 2) re_int)) (ra_cons (re_add (re_ix (re_var 1) re_int) (re_ix (re_var 2) re_int)) ra_nil))))))))) l_end_of
abbrev s_check_way : Stmt := topS 26
abbrev N_check_way : List Str := ["way", "side", "often", "one", "other"]
theorem sc_check_way : FnScope N_check_way ["way"] (defScope s_check_way) := ⟨rfl, rfl, rfl, by decide +kernel, rfl, by decide +kernel, by decide +kernel⟩
theorem ok_check_way (D : Dfn K mg "check_way" "check_way" s_check_way ["way"]) (T : Txt mg)  : Cal P w K mg base 1 "check_way" ["way"] sp_check_way :=
  cal_ok (n := 4) D sc_check_way rfl (fun f cdv A outer s H E hr => by
    have hu := hr.u128
    exact (rs_cons (rs_if (rt_tru (re_any rfl (by rfl) T.n_any (ra_cons (re_f (rf_lc (own := [("side", 1), ("often", 2)]) rfl sc_check_way.nd (ri_seq (re_var 0)) (blkOk_by (N := N_check_way) (sc := defScope s_check_way) (by decide +kernel)) (fun _ _ _ _ _ => (tgS rfl (tgc (tg1 1 sc_check_way.nd) (tgc (tg1 2 sc_check_way.nd) rgs_nil)))) (fun _ _ _ _ _ => rts_nil) (fun _ _ _ _ _ => (re_or (rec (c_notin hu) (re_var 1) (re_tup (ra_cons re_str (ra_cons re_str ra_nil)))) (re_one (rec (c_ltA hu) (re_var 2) re_int)))))) ra_nil))) rss_never rs_nil) (rs_one (rs_if (rt_tru (re_any rfl (by rfl) T.n_any (ra_cons (re_f (rf_lc (own := [("one", 3), ("other", 4)]) rfl sc_check_way.nd (ri_zip2 (by rfl) T.n_zip (ra_cons (re_var 0) (ra_cons (re_sl (re_var 0) (ro_some re_int) ro_none) ra_nil))) (blkOk_by (N := N_check_way) (sc := defScope s_check_way) (by decide +kernel)) (fun _ _ _ _ _ => (tgS rfl (tgc (tg1 3 sc_check_way.nd) (tgc (tg1 4 sc_check_way.nd) rgs_nil)))) (fun _ _ _ _ _ => rts_nil) (fun _ _ _ _ _ => (rec (c_eqX hu) (re_ix (re_var 3) re_int) (re_ix (re_var 4) re_int))))) ra_nil))) rss_never rs_nil)))) l_check_way
abbrev s_sides : Stmt := topS 27
abbrev N_sides : List Str := ["way", "low", "high", "side", "often"]
theorem sc_sides : FnScope N_sides ["way"] (defScope s_sides) := ⟨rfl, rfl, rfl, by decide +kernel, rfl, by decide +kernel, by decide +kernel⟩
theorem ok_sides (D : Dfn K mg "sides" "sides" s_sides ["way"]) (T : Txt mg) (c_check_way : Cal P w K mg base 1 "check_way" ["way"] sp_check_way) : Cal P w K mg base 2 "sides" ["way"] sp_sides :=
  cal_ok (n := 4) D sc_sides rfl (fun f cdv A outer s H E hr => by
    have hu := hr.u128
    exact (rs_cons (rs_ex (rcl c_check_way hr (ra_cons (re_var 0) ra_nil))) (rs_cons (rs_asg (re_tup (ra_cons (re_tup (ra_cons re_int (ra_cons re_int ra_nil))) (ra_cons (re_tup (ra_cons re_int (ra_cons re_int ra_nil))) ra_nil))) (tgS rfl (tgc (tg1 1 sc_sides.nd) (tgc (tg1 2 sc_sides.nd) rgs_nil)))) (rs_cons (rs_for PassesOwn.never rfl (ri_seq (re_var 0)) (tgS rfl (tgc (tg1 3 sc_sides.nd) (tgc (tg1 4 sc_sides.nd) rgs_nil))) (rs_one (rs_if (rtc (c_eqX hu) (re_var 3) re_str) (rs_one (st1 1 sc_sides.nd (re_tup (ra_cons (re_add (re_ix (re_var 1) re_int) (re_mul (re_var 4) (re_ix (re_var 2) re_int))) (ra_cons (re_add (re_ix (re_var 1) re_int) (re_mul (re_var 4) (re_ix (re_var 2) re_int))) ra_nil))))) (rs_one (st1 2 sc_sides.nd (re_tup (ra_cons (re_add (re_ix (re_var 2) re_int) (re_mul (re_var 4) (re_ix (re_var 1) re_int))) (ra_cons (re_add (re_ix (re_var 2) re_int) (re_mul (re_var 4) (re_ix (re_var 1) re_int))) ra_nil)))))))) (rs_one (rs_ret (re_tup (ra_cons (re_var 1) (ra_cons (re_var 2) ra_nil))))))))) l_sides
abbrev s_depth : Stmt := topS 28
abbrev N_depth : List Str := ["pair", "side", "often"]
theorem sc_depth : FnScope N_depth ["pair"] (defScope s_depth) := ⟨rfl, rfl, rfl, by decide +kernel, rfl, by decide +kernel, by decide +kernel⟩
theorem ok_depth (D : Dfn K mg "depth" "depth" s_depth ["pair"]) (T : Txt mg) (c_way_to : Cal P w K mg base 5 "way_to" ["pair"] sp_way_to) : Cal P w K mg base 6 "depth" ["pair"] sp_depth :=
  cal_ok (n := 2) D sc_depth rfl (fun f cdv A outer s H E hr => by
    exact (rs_one (rs_ret (re_sum rfl (by rfl) T.n_sum (ra_cons (re_f (rf_lc (own := [("side", 1), ("often", 2)]) rfl sc_depth.nd (ri_seq (rcl c_way_to hr (ra_cons (re_var 0) ra_nil))) (blkOk_by (N := N_depth) (sc := defScope s_depth) (by decide +kernel)) (fun _ _ _ _ _ => (tgS rfl (tgc (tg1 1 sc_depth.nd) (tgc (tg1 2 sc_depth.nd) rgs_nil)))) (fun _ _ _ _ _ => rts_nil) (fun _ _ _ _ _ => (re_var 2)))) ra_nil))))) l_depth
abbrev s_middle : Stmt := topS 29
abbrev N_middle : List Str := ["one", "other"]
theorem sc_middle : FnScope N_middle ["one", "other"] (defScope s_middle) := ⟨rfl, rfl, rfl, by decide +kernel, rfl, by decide +kernel, by decide +kernel⟩
theorem ok_middle (D : Dfn K mg "middle" "middle" s_middle ["one", "other"]) (T : Txt mg) (c_fraction : Cal P w K mg base 2 "fraction" ["number", "under"] sp_fraction) : Cal P w K mg base 3 "middle" ["one", "other"] sp_middle :=
  cal_ok (n := 0) D sc_middle rfl (fun f cdv A outer s H E hr => by
    exact (rs_one (rs_ret (rcl c_fraction hr (ra_cons (re_add (re_ix (re_var 0) re_int) (re_ix (re_var 1) re_int)) (ra_cons (re_add (re_ix (re_var 0) re_int) (re_ix (re_var 1) re_int)) ra_nil)))))) l_middle
abbrev s_are_neighbours : Stmt := topS 30
abbrev N_are_neighbours : List Str := ["one", "other"]
theorem sc_are_neighbours : FnScope N_are_neighbours ["one", "other"] (defScope s_are_neighbours) := ⟨rfl, rfl, rfl, by decide +kernel, rfl, by decide +kernel, by decide +kernel⟩
theorem ok_are_neighbours (D : Dfn K mg "are_neighbours" "are_neighbours" s_are_neighbours ["one", "other"]) (T : Txt mg)  : Cal P w K mg base 1 "are_neighbours" ["one", "other"] sp_are_neighbours :=
  cal_ok (n := 0) D sc_are_neighbours rfl (fun f cdv A outer s H E hr => by
    have hu := hr.u128
    exact (rs_one (rs_ret (rec (c_eqX hu) (re_subA (re_mul (re_ix (re_var 1) re_int) (re_ix (re_var 0) re_int)) (re_mul (re_ix (re_var 0) re_int) (re_ix (re_var 1) re_int))) re_int)))) l_are_neighbours
abbrev s_plainest : Stmt := topS 31
abbrev N_plainest : List Str := ["low", "high", "one", "other"]
theorem sc_plainest : FnScope N_plainest ["low", "high"] (defScope s_plainest) := ⟨rfl, rfl, rfl, by decide +kernel, rfl, by decide +kernel, by decide +kernel⟩
theorem ok_plainest (D : Dfn K mg "plainest" "plainest" s_plainest ["low", "high"]) (T : Txt mg) (c_above_zero : Cal P w K mg base 4 "above_zero" ["pair"] sp_above_zero) (c_compared : Cal P w K mg base 1 "compared" ["one", "other"] sp_compared) (c__plainest : Cal P w K mg base 2 "_plainest" ["one", "other"] sp__plainest) : Cal P w K mg base 5 "plainest" ["low", "high"] sp_plainest :=
  cal_ok (n := 2) D sc_plainest rfl (fun f cdv A outer s H E hr => by
    have hu := hr.u128
    exact (rs_cons (st2 2 3 rfl sc_plainest.nd (ra_cons (rcl c_above_zero hr (ra_cons (re_var 0) ra_nil)) (ra_cons (rcl c_above_zero hr (ra_cons (re_var 1) ra_nil)) ra_nil))) (rs_cons (rs_if (rtc (c_geA hu) (rcl c_compared hr (ra_cons (re_var 2) (ra_cons (re_var 3) ra_nil))) re_int) rss_never rs_nil) (rs_one (rs_ret (re_tup (ra_cons re_str (ra_cons (re_var 2) (ra_cons (re_var 3) (ra_cons (rcl c__plainest hr (ra_cons (re_var 2) (ra_cons (re_var 3) ra_nil))) ra_nil)))))))))) l_plainest
abbrev s__plainest : Stmt := topS 32
abbrev N__plainest : List Str := ["one", "other", "left", "right", "here", "often"]
theorem sc__plainest : FnScope N__plainest ["one", "other"] (defScope s__plainest) := ⟨rfl, rfl, rfl, by decide +kernel, rfl, by decide +kernel, by decide +kernel⟩
theorem ok__plainest (D : Dfn K mg "_plainest" "_plainest" s__plainest ["one", "other"]) (T : Txt mg) (c_compared : Cal P w K mg base 1 "compared" ["one", "other"] sp_compared) (c__steps : Cal P w K mg base 1 "_steps" ["left", "right", "one"] sp__steps) (c__steps_down : Cal P w K mg base 1 "_steps_down" ["left", "right", "other"] sp__steps_down) : Cal P w K mg base 2 "_plainest" ["one", "other"] sp__plainest :=
  cal_ok (n := 4) D sc__plainest rfl (fun f cdv A outer s H E hr => by
    have hu := hr.u128
    exact (rs_cons (rs_asg (re_tup (ra_cons (re_tup (ra_cons re_int (ra_cons re_int ra_nil))) (ra_cons (re_tup (ra_cons re_int (ra_cons re_int ra_nil))) ra_nil))) (tgS rfl (tgc (tg1 2 sc__plainest.nd) (tgc (tg1 3 sc__plainest.nd) rgs_nil)))) (rs_one (rs_while PassesOwn.never (rt_tru re_bl) (rs_cons (st1 4 sc__plainest.nd (re_tup (ra_cons (re_add (re_ix (re_var 2) re_int) (re_ix (re_var 3) re_int)) (ra_cons (re_add (re_ix (re_var 2) re_int) (re_ix (re_var 3) re_int)) ra_nil)))) (rs_one (rs_if (rtc (c_leA hu) (rcl c_compared hr (ra_cons (re_var 4) (ra_cons (re_var 0) ra_nil))) re_int) (rs_cons (st1 5 sc__plainest.nd (rcl c__steps hr (ra_cons (re_var 2) (ra_cons (re_var 3) (ra_cons (re_var 0) ra_nil))))) (rs_one (st1 2 sc__plainest.nd (re_tup (ra_cons (re_add (re_ix (re_var 2) re_int) (re_mul (re_var 5) (re_ix (re_var 3) re_int))) (ra_cons (re_add (re_ix (re_var 2) re_int) (re_mul (re_var 5) (re_ix (re_var 3) re_int))) ra_nil)))))) (rs_one (rs_if (rtc (c_geA hu) (rcl c_compared hr (ra_cons (re_var 4) (ra_cons (re_var 1) ra_nil))) re_int) (rs_cons (st1 5 sc__plainest.nd (rcl c__steps_down hr (ra_cons (re_var 2) (ra_cons (re_var 3) (ra_cons (re_var 1) ra_nil))))) (rs_one (st1 3 sc__plainest.nd (re_tup (ra_cons (re_add (re_ix (re_var 3) re_int) (re_mul (re_var 5) (re_ix (re_var 2) re_int))) (ra_cons (re_add (re_ix (re_var 3) re_int) (re_mul (re_var 5) (re_ix (re_var 2) re_int))) ra_nil)))))) (rs_one (rs_ret (re_var 4)))))))))))) l__plainest
abbrev s__steps : Stmt := topS 33
abbrev N__steps : List Str := ["left", "right", "one", "gap"]
theorem sc__steps : FnScope N__steps ["left", "right", "one"] (defScope s__steps) := ⟨rfl, rfl, rfl, by decide +kernel, rfl, by decide +kernel, by decide +kernel⟩
theorem ok__steps (D : Dfn K mg "_steps" "_steps" s__steps ["left", "right", "one"]) (T : Txt mg)  : Cal P w K mg base 1 "_steps" ["left", "right", "one"] sp__steps :=
  cal_ok (n := 1) D sc__steps rfl (fun f cdv A outer s H E hr => by
    exact (rs_cons (st1 3 sc__steps.nd (re_subA (re_mul (re_ix (re_var 2) re_int) (re_ix (re_var 0) re_int)) (re_mul (re_ix (re_var 0) re_int) (re_ix (re_var 2) re_int)))) (rs_one (rs_ret (re_div (re_var 3) (re_subA (re_mul (re_ix (re_var 1) re_int) (re_ix (re_var 2) re_int)) (re_mul (re_ix (re_var 2) re_int) (re_ix (re_var 1) re_int)))))))) l__steps
abbrev s__steps_down : Stmt := topS 34
abbrev N__steps_down : List Str := ["left", "right", "other", "gap"]
theorem sc__steps_down : FnScope N__steps_down ["left", "right", "other"] (defScope s__steps_down) := ⟨rfl, rfl, rfl, by decide +kernel, rfl, by decide +kernel, by decide +kernel⟩
theorem ok__steps_down (D : Dfn K mg "_steps_down" "_steps_down" s__steps_down ["left", "right", "other"]) (T : Txt mg)  : Cal P w K mg base 1 "_steps_down" ["left", "right", "other"] sp__steps_down :=
  cal_ok (n := 1) D sc__steps_down rfl (fun f cdv A outer s H E hr => by
    exact (rs_cons (st1 3 sc__steps_down.nd (re_subA (re_mul (re_ix (re_var 1) re_int) (re_ix (re_var 2) re_int)) (re_mul (re_ix (re_var 2) re_int) (re_ix (re_var 1) re_int)))) (rs_one (rs_ret (re_div (re_var 3) (re_subA (re_mul (re_ix (re_var 2) re_int) (re_ix (re_var 0) re_int)) (re_mul (re_ix (re_var 0) re_int) (re_ix (re_var 2) re_int)))))))) l__steps_down
abbrev s_row : Stmt := topS 35
abbrev N_row : List Str := ["most", "found", "ahead", "here", "often"]
theorem sc_row : FnScope N_row ["most"] (defScope s_row) := ⟨rfl, rfl, rfl, by decide +kernel, rfl, by decide +kernel, by decide +kernel⟩
theorem ok_row (D : Dfn K mg "row" "row" s_row ["most"]) (T : Txt mg)  : Cal P w K mg base 1 "row" ["most"] sp_row :=
  cal_ok (n := 4) D sc_row rfl (fun f cdv A outer s H E hr => by
    have hu := hr.u128
    exact (rs_cons (rs_if (rt_not (rtc2 (c_leA hu) (c_leA hu) re_int (re_var 0) re_int)) rss_never rs_nil) (rs_cons (stB 1 sc_row.nd (rf_lst (ra_cons (re_tup (ra_cons re_int (ra_cons re_int ra_nil))) ra_nil))) (rs_cons (st2 2 3 rfl sc_row.nd (ra_cons (re_tup (ra_cons re_int (ra_cons re_int ra_nil))) (ra_cons (re_tup (ra_cons re_int (ra_cons (re_var 0) ra_nil))) ra_nil))) (rs_cons (rs_while PassesOwn.never (rtc (c_neX hu) (re_var 3) (re_tup (ra_cons re_int (ra_cons re_int ra_nil)))) (rs_cons (rs_app 1 (pv 1) (re_var 3)) (rs_cons (st1 4 sc_row.nd (re_div (re_add (re_var 0) (re_ix (re_var 2) re_int)) (re_ix (re_var 3) re_int))) (rs_one (st2 2 3 rfl sc_row.nd (ra_cons (re_var 3) (ra_cons (re_tup (ra_cons (re_subA (re_mul (re_var 4) (re_ix (re_var 3) re_int)) (re_ix (re_var 2) re_int)) (ra_cons (re_subA (re_mul (re_var 4) (re_ix (re_var 3) re_int)) (re_ix (re_var 2) re_int)) ra_nil))) ra_nil))))))) (rs_one (rs_ret (re_tupOf (by rfl) T.n_tuple (ra_cons (re_add (re_var 1) (re_f (rf_lst (ra_cons (re_tup (ra_cons re_int (ra_cons re_int ra_nil))) ra_nil)))) ra_nil))))))))) l_row
abbrev s_nearest : Stmt := topS 36
abbrev N_nearest : List Str := ["pair", "most", "number", "under", "whole", "low", "high", "step", "here"]
theorem sc_nearest : FnScope N_nearest ["pair", "most"] (defScope s_nearest) := ⟨rfl, rfl, rfl, by decide +kernel, rfl, by decide +kernel, by decide +kernel⟩
theorem ok_nearest (D : Dfn K mg "nearest" "nearest" s_nearest ["pair", "most"]) (T : Txt mg) (c_known : Cal P w K mg base 3 "known" ["pair"] sp_known) (c__nearer : Cal P w K mg base 1 "_nearer" ["pair", "low", "high"] sp__nearer) (c_compared : Cal P w K mg base 1 "compared" ["one", "other"] sp_compared) : Cal P w K mg base 4 "nearest" ["pair", "most"] sp_nearest :=
  cal_ok (n := 7) D sc_nearest rfl (fun f cdv A outer s H E hr => by
    have hu := hr.u128
    exact (rs_cons (rs_asg (rcl c_known hr (ra_cons (re_var 0) ra_nil)) (tgS rfl (tgc (tg1 2 sc_nearest.nd) (tgc (tg1 3 sc_nearest.nd) rgs_nil)))) (rs_cons (rs_if (rtc (c_ltA hu) (re_var 2) re_int) rss_never rs_nil) (rs_cons (rs_if (rt_not (rtc2 (c_leA hu) (c_leA hu) re_int (re_var 1) re_int)) rss_never rs_nil) (rs_cons (st1 4 sc_nearest.nd (re_div (re_var 2) (re_var 3))) (rs_cons (st2 5 6 rfl sc_nearest.nd (ra_cons (re_tup (ra_cons (re_var 4) (ra_cons re_int ra_nil))) (ra_cons (re_tup (ra_cons (re_add (re_var 4) re_int) (ra_cons re_int ra_nil))) ra_nil))) (rs_cons (rs_for PassesOwn.never rfl (ri_rng1 (by rfl) T.n_range (ra_cons (re_glob (by rfl) T.g_MOST_STEPS.choose_spec (show RelV (.int g_MOST_STEPS) _ from ⟨_, rfl⟩) (fun _ _ _ => .int _)) ra_nil)) (tg1 7 sc_nearest.nd) (rs_cons (st1 8 sc_nearest.nd (re_tup (ra_cons (re_add (re_ix (re_var 5) re_int) (re_ix (re_var 6) re_int)) (ra_cons (re_add (re_ix (re_var 5) re_int) (re_ix (re_var 6) re_int)) ra_nil)))) (rs_cons (rs_if (rtc (c_gtA hu) (re_ix (re_var 8) re_int) (re_var 1)) (rs_one (rs_ret (rcl c__nearer hr (ra_cons (re_tup (ra_cons (re_var 2) (ra_cons (re_var 3) ra_nil))) (ra_cons (re_var 5) (ra_cons (re_var 6) ra_nil)))))) rs_nil) (rs_one (rs_if (rtc (c_geA hu) (rcl c_compared hr (ra_cons (re_tup (ra_cons (re_var 2) (ra_cons (re_var 3) ra_nil))) (ra_cons (re_var 8) ra_nil))) re_int) (rs_one (st1 5 sc_nearest.nd (re_var 8))) (rs_one (st1 6 sc_nearest.nd (re_var 8)))))))) (rs_one rs_never)))))))) l_nearest
abbrev s__nearer : Stmt := topS 37
abbrev N__nearer : List Str := ["pair", "low", "high", "down", "up"]
theorem sc__nearer : FnScope N__nearer ["pair", "low", "high"] (defScope s__nearer) := ⟨rfl, rfl, rfl, by decide +kernel, rfl, by decide +kernel, by decide +kernel⟩
theorem ok__nearer (D : Dfn K mg "_nearer" "_nearer" s__nearer ["pair", "low", "high"]) (T : Txt mg)  : Cal P w K mg base 1 "_nearer" ["pair", "low", "high"] sp__nearer :=
  cal_ok (n := 2) D sc__nearer rfl (fun f cdv A outer s H E hr => by
    have hu := hr.u128
    exact (rs_cons (st1 3 sc__nearer.nd (re_mul (re_subA (re_mul (re_ix (re_var 0) re_int) (re_ix (re_var 1) re_int)) (re_mul (re_ix (re_var 1) re_int) (re_ix (re_var 0) re_int))) (re_ix (re_var 2) re_int))) (rs_cons (st1 4 sc__nearer.nd (re_mul (re_subA (re_mul (re_ix (re_var 2) re_int) (re_ix (re_var 0) re_int)) (re_mul (re_ix (re_var 0) re_int) (re_ix (re_var 2) re_int))) (re_ix (re_var 1) re_int))) (rs_one (rs_ret (re_if (rtc (c_leA hu) (re_var 3) (re_var 4)) (re_var 1) (re_var 2))))))) l__nearer
abbrev s_number_of : Stmt := topS 38
abbrev N_number_of : List Str := ["pair", "whole", "side", "often", "step"]
theorem sc_number_of : FnScope N_number_of ["pair"] (defScope s_number_of) := ⟨rfl, rfl, rfl, by decide +kernel, rfl, by decide +kernel, by decide +kernel⟩
theorem ok_number_of (D : Dfn K mg "number_of" "number_of" s_number_of ["pair"]) (T : Txt mg) (c_way_to : Cal P w K mg base 5 "way_to" ["pair"] sp_way_to) : Cal P w K mg base 6 "number_of" ["pair"] sp_number_of :=
  cal_ok (n := 4) D sc_number_of rfl (fun f cdv A outer s H E hr => by
    have hu := hr.u128
    exact (rs_cons (st1 1 sc_number_of.nd re_int) (rs_cons (rs_for PassesOwn.never rfl (ri_rev (by rfl) T.n_reversed (rcl c_way_to hr (ra_cons (re_var 0) ra_nil))) (tgS rfl (tgc (tg1 2 sc_number_of.nd) (tgc (tg1 3 sc_number_of.nd) rgs_nil))) (rs_one (rs_for PassesOwn.never rfl (ri_rng1 (by rfl) T.n_range (ra_cons (re_var 3) ra_nil)) (tg1 4 sc_number_of.nd) (rs_cons (st1 1 sc_number_of.nd (re_add (re_mul re_int (re_var 1)) (re_if (rtc (c_eqX hu) (re_var 2) re_str) re_int re_int))) (rs_one (rs_if (rtc (c_geA hu) (re_var 1) (re_glob (by rfl) T.g_LIMIT.choose_spec (show RelV (.int g_LIMIT) _ from ⟨_, rfl⟩) (fun _ _ _ => .int _))) rss_never rs_nil)))))) (rs_one (rs_ret (re_var 1)))))) l_number_of
abbrev s_at_number : Stmt := topS 39
abbrev N_at_number : List Str := ["n", "one", "other", "bits", "left", "bit"]
theorem sc_at_number : FnScope N_at_number ["n"] (defScope s_at_number) := ⟨rfl, rfl, rfl, by decide +kernel, rfl, by decide +kernel, by decide +kernel⟩
theorem ok_at_number (D : Dfn K mg "at_number" "at_number" s_at_number ["n"]) (T : Txt mg)  : Cal P w K mg base 1 "at_number" ["n"] sp_at_number :=
  cal_ok (n := 5) D sc_at_number rfl (fun f cdv A outer s H E hr => by
    have hu := hr.u128
    exact (rs_cons (rs_if (rtc (c_ltA hu) (re_var 0) re_int) rss_never rs_nil) (rs_cons (rs_asg (re_tup (ra_cons re_int (ra_cons re_int ra_nil))) (tgS rfl (tgc (tg1 1 sc_at_number.nd) (tgc (tg1 2 sc_at_number.nd) rgs_nil)))) (rs_cons (stB 3 sc_at_number.nd (rf_lst ra_nil)) (rs_cons (st1 4 sc_at_number.nd (re_var 0)) (rs_cons (rs_while PassesOwn.never (rtc (c_gtA hu) (re_var 4) re_int) (rs_cons (rs_app 3 (pv 3) (re_mod (re_var 4) re_int)) (rs_one (st1 4 sc_at_number.nd (re_div (re_var 4) re_int))))) (rs_cons (rs_frz 3 (rs_for PassesOwn.never rfl (ri_rev (by rfl) T.n_reversed (re_var 3)) (tg1 5 sc_at_number.nd) (rs_one (rs_if (rtc (c_eqX hu) (re_var 5) re_int) (rs_one (st2 1 2 rfl sc_at_number.nd (ra_cons (re_add (re_var 1) (re_var 2)) (ra_cons (re_var 2) ra_nil)))) (rs_one (st2 1 2 rfl sc_at_number.nd (ra_cons (re_var 1) (ra_cons (re_add (re_var 1) (re_var 2)) ra_nil)))))))) (rs_one (rs_ret (re_tup (ra_cons (re_var 1) (ra_cons (re_var 2) ra_nil)))))))))))) l_at_number
abbrev s_next_in_row : Stmt := topS 40
abbrev N_next_in_row : List Str := ["pair", "number", "under"]
theorem sc_next_in_row : FnScope N_next_in_row ["pair"] (defScope s_next_in_row) := ⟨rfl, rfl, rfl, by decide +kernel, rfl, by decide +kernel, by decide +kernel⟩
theorem ok_next_in_row (D : Dfn K mg "next_in_row" "next_in_row" s_next_in_row ["pair"]) (T : Txt mg) (c_above_zero : Cal P w K mg base 4 "above_zero" ["pair"] sp_above_zero) (c_fraction : Cal P w K mg base 2 "fraction" ["number", "under"] sp_fraction) : Cal P w K mg base 5 "next_in_row" ["pair"] sp_next_in_row :=
  cal_ok (n := 2) D sc_next_in_row rfl (fun f cdv A outer s H E hr => by
    exact (rs_cons (rs_asg (rcl c_above_zero hr (ra_cons (re_var 0) ra_nil)) (tgS rfl (tgc (tg1 1 sc_next_in_row.nd) (tgc (tg1 2 sc_next_in_row.nd) rgs_nil)))) (rs_one (rs_ret (rcl c_fraction hr (ra_cons (re_var 2) (ra_cons (re_subA (re_add (re_mul (re_mul re_int (re_div (re_var 1) (re_var 2))) (re_var 2)) (re_var 2)) (re_var 1)) ra_nil))))))) l_next_in_row
abbrev s__law_cell : Stmt := topS 42
abbrev N__law_cell : List Str := ["script", "k"]
theorem sc__law_cell : FnScope N__law_cell ["script", "k"] (defScope s__law_cell) := ⟨rfl, rfl, rfl, by decide +kernel, rfl, by decide +kernel, by decide +kernel⟩
theorem ok__law_cell (D : Dfn K mg "_law_cell" "_law_cell" s__law_cell ["script", "k"]) (T : Txt mg)  : Cal P w K mg base 1 "_law_cell" ["script", "k"] sp__law_cell :=
  cal_ok (n := 0) D sc__law_cell rfl (fun f cdv A outer s H E hr => by
    have hu := hr.u128
    exact (rs_cons (rs_if (rtc (c_ltA hu) (re_var 1) (re_len (by rfl) T.n_len (ra_cons (re_var 0) ra_nil))) (rs_one (rs_ret (re_ix (re_var 0) (re_var 1)))) rs_nil) (rs_one (rs_ret re_int)))) l__law_cell
abbrev s__law_source : Stmt := topS 43
abbrev N__law_source : List Str := ["cell", "k"]
theorem sc__law_source : FnScope N__law_source ["cell", "k"] (defScope s__law_source) := ⟨rfl, rfl, rfl, by decide +kernel, rfl, by decide +kernel, by decide +kernel⟩
theorem ok__law_source (D : Dfn K mg "_law_source" "_law_source" s__law_source ["cell", "k"]) (T : Txt mg)  : Cal P w K mg base 1 "_law_source" ["cell", "k"] sp__law_source :=
  cal_ok (n := 0) D sc__law_source rfl (fun f cdv A outer s H E hr => by
    have hu := hr.u128
    exact (rs_cons (rs_if (rtc (c_geA hu) (re_var 0) (re_pow re_int re_int)) (rs_one (rs_ret (re_f (rf_lst (ra_cons (re_subA (re_var 0) (re_pow re_int re_int)) (ra_cons (re_add (re_var 1) re_int) ra_nil)))))) rs_nil) (rs_one (rs_ret (re_f (rf_lst (ra_cons re_int (ra_cons (re_mod (re_intc (by rfl) T.n_int (ra_cons (re_add (re_add (re_mul (re_var 0) re_int) (re_mul (re_var 1) re_int)) re_int) ra_nil)) re_int) ra_nil)))))))) l__law_source
abbrev s__law_pick : Stmt := topS 44
abbrev N__law_pick : List Str := ["source", "many", "picked", "mixed"]
theorem sc__law_pick : FnScope N__law_pick ["source", "many"] (defScope s__law_pick) := ⟨rfl, rfl, rfl, by decide +kernel, rfl, by decide +kernel, by decide +kernel⟩
theorem ok__law_pick (D : Dfn K mg "_law_pick" "_law_pick" s__law_pick ["source", "many"]) (T : Txt mg)  : Cal P w K mg base 1 "_law_pick" ["source", "many"] sp__law_pick :=
  cal_ok (n := 2) D sc__law_pick rfl (fun f cdv A outer s H E hr => by
    have hu := hr.u128
    exact (rs_cons (rs_if (rtc (c_gtA hu) (re_ix (re_var 0) re_int) re_int) (rs_cons (st1 2 sc__law_pick.nd (re_mod (re_intc (by rfl) T.n_int (ra_cons (re_ix (re_var 0) re_int) ra_nil)) (re_var 1))) (rs_cons (rs_put 0 (pv 0) re_int (re_div (re_ix (re_var 0) re_int) (re_var 1))) (rs_one (rs_ret (re_var 2))))) rs_nil) (rs_cons (rs_put 0 (pv 0) re_int (re_mod (re_intc (by rfl) T.n_int (ra_cons (re_add (re_mul (re_ix (re_var 0) re_int) re_int) re_int) ra_nil)) re_int)) (rs_cons (st1 3 sc__law_pick.nd (re_mod (re_intc (by rfl) T.n_int (ra_cons (re_add (re_add (re_mul (re_ix (re_var 0) re_int) re_int) (re_div (re_ix (re_var 0) re_int) re_int)) re_int) ra_nil)) re_int)) (rs_one (rs_ret (re_mod (re_intc (by rfl) T.n_int (ra_cons (re_div (re_var 3) re_int) ra_nil)) (re_var 1)))))))) l__law_pick
abbrev s__law_same : Stmt := topS 45
abbrev N__law_same : List Str := ["told", "due", "k"]
theorem sc__law_same : FnScope N__law_same ["told", "due"] (defScope s__law_same) := ⟨rfl, rfl, rfl, by decide +kernel, rfl, by decide +kernel, by decide +kernel⟩
theorem ok__law_same (D : Dfn K mg "_law_same" "_law_same" s__law_same ["told", "due"]) (T : Txt mg)  {k n : Nat} (hk : 0 ≤ k) (c_rec : Cal P w K mg base k "_law_same" ["told", "due"] (spr__law_same n)) : Cal P w K mg base (k + 1) "_law_same" ["told", "due"] (spr__law_same (n + 1)) :=
  cal_ok (n := 1) D sc__law_same rfl (fun f cdv A outer s H E hr => by
    have hu := hr.u128
    exact (rs_cons (rs_if (rt_tru (re_isi (T := .tuple) (by rfl) T.n_isinstance (by rfl) T.n_tuple (by decide +kernel) (re_var 1))) (rs_cons (rs_if (rw_or (rt_not (rt_tru (re_isi (T := .tuple) (by rfl) T.n_isinstance (by rfl) T.n_tuple (by decide +kernel) (re_var 0)))) (rw_or1 (rtc (c_neX hu) (re_len (by rfl) T.n_len (ra_cons (re_var 0) ra_nil)) (re_len (by rfl) T.n_len (ra_cons (re_var 1) ra_nil))))).rt (rs_one (rs_ret re_bl)) rs_nil) (rs_one (rs_ret (rec (c_eqX hu) (re_f (rf_lc (own := [("k", 2)]) rfl sc__law_same.nd (ri_rng1 (by rfl) T.n_range (ra_cons (re_len (by rfl) T.n_len (ra_cons (re_var 1) ra_nil)) ra_nil)) (blkOk_by (N := N__law_same) (sc := defScope s__law_same) (by decide +kernel)) (fun _ _ _ _ _ => (tg1 2 sc__law_same.nd)) (fun _ _ _ _ _ => (rts_one (rt_not (rt_tru (rcl c_rec hr (ra_cons (re_ix (re_var 0) (re_var 2)) (ra_cons (re_ix (re_var 1) (re_var 2)) ra_nil)) (hkj := by omega)))))) (fun _ _ _ _ _ => (re_var 2)))) (re_f (rf_lst ra_nil)))))) rs_nil) (rs_cons (rs_if (rt_tru (re_isi (T := .list) (by rfl) T.n_isinstance (by rfl) T.n_list (by decide +kernel) (re_var 1))) (rs_cons (rs_if (rw_or (rt_not (rt_tru (re_isi (T := .list) (by rfl) T.n_isinstance (by rfl) T.n_list (by decide +kernel) (re_var 0)))) (rw_or1 (rtc (c_neX hu) (re_len (by rfl) T.n_len (ra_cons (re_var 0) ra_nil)) (re_len (by rfl) T.n_len (ra_cons (re_var 1) ra_nil))))).rt (rs_one (rs_ret re_bl)) rs_nil) (rs_one (rs_ret (rec (c_eqX hu) (re_f (rf_lc (own := [("k", 2)]) rfl sc__law_same.nd (ri_rng1 (by rfl) T.n_range (ra_cons (re_len (by rfl) T.n_len (ra_cons (re_var 1) ra_nil)) ra_nil)) (blkOk_by (N := N__law_same) (sc := defScope s__law_same) (by decide +kernel)) (fun _ _ _ _ _ => (tg1 2 sc__law_same.nd)) (fun _ _ _ _ _ => (rts_one (rt_not (rt_tru (rcl c_rec hr (ra_cons (re_ix (re_var 0) (re_var 2)) (ra_cons (re_ix (re_var 1) (re_var 2)) ra_nil)) (hkj := by omega)))))) (fun _ _ _ _ _ => (re_var 2)))) (re_f (rf_lst ra_nil)))))) rs_nil) (rs_cons (rs_if (rtc c_is (re_var 1) re_non) (rs_one (rs_ret (rec c_is (re_var 0) re_non))) rs_nil) (rs_cons (rs_if (rt_tru (re_isi (T := .bool) (by rfl) T.n_isinstance (by rfl) T.n_bool (by decide +kernel) (re_var 1))) (rs_one (rs_ret (re_and (re_isi (T := .bool) (by rfl) T.n_isinstance (by rfl) T.n_bool (by decide +kernel) (re_var 0)) (re_one (rec (c_eqX hu) (re_var 0) (re_var 1)))))) rs_nil) (rs_cons (rs_if (rt_tru (re_isi (T := .int) (by rfl) T.n_isinstance (by rfl) T.n_int (by decide +kernel) (re_var 1))) (rs_one (rs_ret (re_and (re_isi (T := .int) (by rfl) T.n_isinstance (by rfl) T.n_int (by decide +kernel) (re_var 0)) (re_and (re_not (re_isi (T := .bool) (by rfl) T.n_isinstance (by rfl) T.n_bool (by decide +kernel) (re_var 0))) (re_one (rec (c_eqX hu) (re_var 0) (re_var 1))))))) rs_nil) (rs_one (rs_ret (re_and (re_isi (T := .str) (by rfl) T.n_isinstance (by rfl) T.n_str (by decide +kernel) (re_var 0)) (re_one (rec (c_eqX hu) (re_var 0) (re_var 1)))))))))))) (l__law_same n)
abbrev s__law_all_same : Stmt := topS 46
abbrev N__law_all_same : List Str := ["rows", "k"]
theorem sc__law_all_same : FnScope N__law_all_same ["rows"] (defScope s__law_all_same) := ⟨rfl, rfl, rfl, by decide +kernel, rfl, by decide +kernel, by decide +kernel⟩
theorem ok__law_all_same (D : Dfn K mg "_law_all_same" "_law_all_same" s__law_all_same ["rows"]) (T : Txt mg) (c__law_same : Cal P w K mg base 6 "_law_same" ["told", "due"] sp__law_same) : Cal P w K mg base 7 "_law_all_same" ["rows"] sp__law_all_same :=
  cal_ok (n := 1) D sc__law_all_same rfl (fun f cdv A outer s H E hr => by
    have hu := hr.u128
    exact (rs_one (rs_ret (rec (c_eqX hu) (re_f (rf_lc (own := [("k", 1)]) rfl sc__law_all_same.nd (ri_rng1 (by rfl) T.n_range (ra_cons (re_len (by rfl) T.n_len (ra_cons (re_var 0) ra_nil)) ra_nil)) (blkOk_by (N := N__law_all_same) (sc := defScope s__law_all_same) (by decide +kernel)) (fun _ _ _ _ _ => (tg1 1 sc__law_all_same.nd)) (fun _ _ _ _ _ => (rts_one (rt_not (rt_tru (rcl c__law_same hr (ra_cons (re_ix (re_ix (re_var 0) (re_var 1)) re_int) (ra_cons (re_ix (re_ix (re_var 0) (re_var 1)) re_int) ra_nil))))))) (fun _ _ _ _ _ => (re_var 1)))) (re_f (rf_lst ra_nil)))))) l__law_all_same
abbrev s__law_shared : Stmt := topS 47
abbrev N__law_shared : List Str := ["one", "other", "left", "right"]
theorem sc__law_shared : FnScope N__law_shared ["one", "other"] (defScope s__law_shared) := ⟨rfl, rfl, rfl, by decide +kernel, rfl, by decide +kernel, by decide +kernel⟩
theorem ok__law_shared (D : Dfn K mg "_law_shared" "_law_shared" s__law_shared ["one", "other"]) (T : Txt mg)  : Cal P w K mg base 1 "_law_shared" ["one", "other"] sp__law_shared :=
  cal_ok (n := 2) D sc__law_shared rfl (fun f cdv A outer s H E hr => by
    have hu := hr.u128
    exact (rs_cons (st2 2 3 rfl sc__law_shared.nd (ra_cons (re_abs (by rfl) T.n_abs (ra_cons (re_var 0) ra_nil)) (ra_cons (re_abs (by rfl) T.n_abs (ra_cons (re_var 1) ra_nil)) ra_nil))) (rs_cons (rs_while PassesOwn.never (rtc (c_neX hu) (re_var 3) re_int) (rs_one (st2 2 3 rfl sc__law_shared.nd (ra_cons (re_var 3) (ra_cons (re_mod (re_var 2) (re_var 3)) ra_nil))))) (rs_one (rs_ret (re_var 2)))))) l__law_shared
abbrev s__law_low : Stmt := topS 48
abbrev N__law_low : List Str := ["number", "under", "common"]
theorem sc__law_low : FnScope N__law_low ["number", "under"] (defScope s__law_low) := ⟨rfl, rfl, rfl, by decide +kernel, rfl, by decide +kernel, by decide +kernel⟩
theorem ok__law_low (D : Dfn K mg "_law_low" "_law_low" s__law_low ["number", "under"]) (T : Txt mg) (c__law_shared : Cal P w K mg base 1 "_law_shared" ["one", "other"] sp__law_shared) : Cal P w K mg base 2 "_law_low" ["number", "under"] sp__law_low :=
  cal_ok (n := 1) D sc__law_low rfl (fun f cdv A outer s H E hr => by
    exact (rs_cons (st1 2 sc__law_low.nd (rcl c__law_shared hr (ra_cons (re_var 0) (ra_cons (re_var 1) ra_nil)))) (rs_one (rs_ret (re_tup (ra_cons (re_div (re_var 0) (re_var 2)) (ra_cons (re_div (re_var 1) (re_var 2)) ra_nil))))))) l__law_low
abbrev s__law_power : Stmt := topS 49
abbrev N__law_power : List Str := ["base", "e", "whole", "step"]
theorem sc__law_power : FnScope N__law_power ["base", "e"] (defScope s__law_power) := ⟨rfl, rfl, rfl, by decide +kernel, rfl, by decide +kernel, by decide +kernel⟩
theorem ok__law_power (D : Dfn K mg "_law_power" "_law_power" s__law_power ["base", "e"]) (T : Txt mg)  : Cal P w K mg base 1 "_law_power" ["base", "e"] sp__law_power :=
  cal_ok (n := 2) D sc__law_power rfl (fun f cdv A outer s H E hr => by
    exact (rs_cons (st1 2 sc__law_power.nd re_int) (rs_cons (rs_for PassesOwn.never rfl (ri_rng1 (by rfl) T.n_range (ra_cons (re_var 1) ra_nil)) (tg1 3 sc__law_power.nd) (rs_one (st1 2 sc__law_power.nd (re_mul (re_var 2) (re_var 0))))) (rs_one (rs_ret (re_var 2)))))) l__law_power
abbrev s__law_way : Stmt := topS 50
abbrev N__law_way : List Str := ["number", "under", "found", "top", "low", "side", "often"]
theorem sc__law_way : FnScope N__law_way ["number", "under"] (defScope s__law_way) := ⟨rfl, rfl, rfl, by decide +kernel, rfl, by decide +kernel, by decide +kernel⟩
theorem ok__law_way (D : Dfn K mg "_law_way" "_law_way" s__law_way ["number", "under"]) (T : Txt mg)  : Cal P w K mg base 1 "_law_way" ["number", "under"] sp__law_way :=
  cal_ok (n := 5) D sc__law_way rfl (fun f cdv A outer s H E hr => by
    have hu := hr.u128
    exact (rs_cons (st4M 2 3 4 5 rfl sc__law_way.nd (rm_f (rf_lst ra_nil) (rm_v (re_var 0) (rm_v (re_var 1) (rm_v re_int rm_nil))))) (rs_cons (rs_while PassesOwn.never (rtc (c_neX hu) (re_var 4) re_int) (rs_cons (st1 6 sc__law_way.nd (re_subA (re_div (re_var 3) (re_var 4)) (re_intc (by rfl) T.n_int (ra_cons (rec (c_eqX hu) (re_mod (re_var 3) (re_var 4)) re_int) ra_nil)))) (rs_cons (rs_if (rtc (c_gtA hu) (re_var 6) re_int) (rs_one (rs_app 2 (pv 2) (re_tup (ra_cons (re_ix (re_f (rf_lst (ra_cons re_str (ra_cons re_str ra_nil)))) (re_var 5)) (ra_cons (re_var 6) ra_nil))))) rs_nil) (rs_one (st3 3 4 5 rfl sc__law_way.nd (ra_cons (re_var 4) (ra_cons (re_mod (re_var 3) (re_var 4)) (ra_cons (re_subA re_int (re_var 5)) ra_nil)))))))) (rs_one (rs_ret (re_tupOf (by rfl) T.n_tuple (ra_cons (re_var 2) ra_nil))))))) l__law_way
abbrev s__law_of_quotients : Stmt := topS 51
abbrev N__law_of_quotients : List Str := ["quotients", "top", "low", "quotient"]
theorem sc__law_of_quotients : FnScope N__law_of_quotients ["quotients"] (defScope s__law_of_quotients) := ⟨rfl, rfl, rfl, by decide +kernel, rfl, by decide +kernel, by decide +kernel⟩
theorem ok__law_of_quotients (D : Dfn K mg "_law_of_quotients" "_law_of_quotients" s__law_of_quotients ["quotients"]) (T : Txt mg)  : Cal P w K mg base 1 "_law_of_quotients" ["quotients"] sp__law_of_quotients :=
  cal_ok (n := 3) D sc__law_of_quotients rfl (fun f cdv A outer s H E hr => by
    exact (rs_cons (rs_asg (re_tup (ra_cons re_int (ra_cons re_int ra_nil))) (tgS rfl (tgc (tg1 1 sc__law_of_quotients.nd) (tgc (tg1 2 sc__law_of_quotients.nd) rgs_nil)))) (rs_cons (rs_for PassesOwn.never rfl (ri_seq (re_rev (re_var 0))) (tg1 3 sc__law_of_quotients.nd) (rs_one (st2 1 2 rfl sc__law_of_quotients.nd (ra_cons (re_add (re_mul (re_var 3) (re_var 1)) (re_var 2)) (ra_cons (re_var 1) ra_nil))))) (rs_one (rs_ret (re_tup (ra_cons (re_var 1) (ra_cons (re_var 2) ra_nil)))))))) l__law_of_quotients
abbrev s__law_plain : Stmt := topS 52
abbrev N__law_plain : List Str := ["low", "high", "whole", "inner"]
theorem sc__law_plain : FnScope N__law_plain ["low", "high"] (defScope s__law_plain) := ⟨rfl, rfl, rfl, by decide +kernel, rfl, by decide +kernel, by decide +kernel⟩
theorem ok__law_plain (D : Dfn K mg "_law_plain" "_law_plain" s__law_plain ["low", "high"]) (T : Txt mg)  {k n : Nat} (hk : 0 ≤ k) (c_rec : Cal P w K mg base k "_law_plain" ["low", "high"] (spr__law_plain n)) : Cal P w K mg base (k + 1) "_law_plain" ["low", "high"] (spr__law_plain (n + 1)) :=
  cal_ok (n := 2) D sc__law_plain rfl (fun f cdv A outer s H E hr => by
    have hu := hr.u128
    exact (rs_cons (st1 2 sc__law_plain.nd (re_div (re_ix (re_var 0) re_int) (re_ix (re_var 0) re_int))) (rs_cons (rs_if (rtc (c_ltA hu) (re_mul (re_add (re_var 2) re_int) (re_ix (re_var 1) re_int)) (re_ix (re_var 1) re_int)) (rs_one (rs_ret (re_tup (ra_cons (re_add (re_var 2) re_int) (ra_cons re_int ra_nil))))) rs_nil) (rs_cons (st1 3 sc__law_plain.nd (rcl c_rec hr (ra_cons (re_tup (ra_cons (re_ix (re_var 1) re_int) (ra_cons (re_subA (re_ix (re_var 1) re_int) (re_mul (re_var 2) (re_ix (re_var 1) re_int))) ra_nil))) (ra_cons (re_tup (ra_cons (re_ix (re_var 0) re_int) (ra_cons (re_mod (re_ix (re_var 0) re_int) (re_ix (re_var 0) re_int)) ra_nil))) ra_nil)) (hkj := by omega))) (rs_one (rs_ret (re_tup (ra_cons (re_add (re_mul (re_var 2) (re_ix (re_var 3) re_int)) (re_ix (re_var 3) re_int)) (ra_cons (re_ix (re_var 3) re_int) ra_nil))))))))) (l__law_plain n)
abbrev s__law_ways_right : Stmt := topS 53
abbrev N__law_ways_right : List Str := ["source", "quotients", "turn", "pair", "way", "steps", "low", "high", "side", "often", "rows", "number", "bits", "bit", "other", "above"]
theorem sc__law_ways_right : FnScope N__law_ways_right ["source"] (defScope s__law_ways_right) := ⟨rfl, rfl, rfl, by decide +kernel, rfl, by decide +kernel, by decide +kernel⟩
theorem ok__law_ways_right (D : Dfn K mg "_law_ways_right" "_law_ways_right" s__law_ways_right ["source"]) (T : Txt mg) (c__law_pick : Cal P w K mg base 1 "_law_pick" ["source", "many"] sp__law_pick) (c__law_of_quotients : Cal P w K mg base 1 "_law_of_quotients" ["quotients"] sp__law_of_quotients) (c__law_way : Cal P w K mg base 1 "_law_way" ["number", "under"] sp__law_way) (c_way_to : Cal P w K mg base 5 "way_to" ["pair"] sp_way_to) (c_end_of : Cal P w K mg base 2 "end_of" ["way"] sp_end_of) (c_sides : Cal P w K mg base 2 "sides" ["way"] sp_sides) (c_depth : Cal P w K mg base 6 "depth" ["pair"] sp_depth) (c_next_in_row : Cal P w K mg base 5 "next_in_row" ["pair"] sp_next_in_row) (c__law_low : Cal P w K mg base 2 "_law_low" ["number", "under"] sp__law_low) (c_are_neighbours : Cal P w K mg base 1 "are_neighbours" ["one", "other"] sp_are_neighbours) (c_number_of : Cal P w K mg base 6 "number_of" ["pair"] sp_number_of) (c_at_number : Cal P w K mg base 1 "at_number" ["n"] sp_at_number) (c_plainest : Cal P w K mg base 5 "plainest" ["low", "high"] sp_plainest) (c__law_plain : Cal P w K mg base 75 "_law_plain" ["low", "high"] sp__law_plain) (c_middle : Cal P w K mg base 3 "middle" ["one", "other"] sp_middle) (c__law_all_same : Cal P w K mg base 7 "_law_all_same" ["rows"] sp__law_all_same) : Cal P w K mg base 76 "_law_ways_right" ["source"] sp__law_ways_right :=
  cal_ok (n := 15) D sc__law_ways_right rfl (fun f cdv A outer s H E hr => by
    have hu := hr.u128
    exact (rs_cons (stB 1 sc__law_ways_right.nd (rf_lst (ra_cons (rcl c__law_pick hr (ra_cons (re_var 0) (ra_cons re_int ra_nil))) ra_nil))) (rs_cons (rs_for PassesOwn.never rfl (ri_rng1 (by rfl) T.n_range (ra_cons (rcl c__law_pick hr (ra_cons (re_var 0) (ra_cons re_int ra_nil))) ra_nil)) (tg1 2 sc__law_ways_right.nd) (rs_one (rs_app 1 (pv 1) (re_add re_int (re_ix (re_f (rf_lst (ra_cons (rcl c__law_pick hr (ra_cons (re_var 0) (ra_cons re_int ra_nil))) (ra_cons (rcl c__law_pick hr (ra_cons (re_var 0) (ra_cons (re_pow re_int re_int) ra_nil))) ra_nil)))) (re_div (rcl c__law_pick hr (ra_cons (re_var 0) (ra_cons re_int ra_nil))) re_int)))))) (rs_cons (rs_app 1 (pv 1) (re_add re_int (rcl c__law_pick hr (ra_cons (re_var 0) (ra_cons re_int ra_nil))))) (rs_cons (st1 3 sc__law_ways_right.nd (rclB c__law_of_quotients hr (ra_cons (re_var 1) ra_nil))) (rs_cons (st1 4 sc__law_ways_right.nd (rcl c__law_way hr (ra_cons (re_ix (re_var 3) re_int) (ra_cons (re_ix (re_var 3) re_int) ra_nil)))) (rs_cons (st1 5 sc__law_ways_right.nd (re_subA (re_sum rfl (by rfl) T.n_sum (ra_cons (re_var 1) ra_nil)) re_int)) (rs_cons (rs_asg (re_tup (ra_cons (re_tup (ra_cons re_int (ra_cons re_int ra_nil))) (ra_cons (re_tup (ra_cons re_int (ra_cons re_int ra_nil))) ra_nil))) (tgS rfl (tgc (tg1 6 sc__law_ways_right.nd) (tgc (tg1 7 sc__law_ways_right.nd) rgs_nil)))) (rs_cons (rs_for PassesOwn.never rfl (ri_seq (re_var 4)) (tgS rfl (tgc (tg1 8 sc__law_ways_right.nd) (tgc (tg1 9 sc__law_ways_right.nd) rgs_nil))) (rs_one (rs_if (rtc (c_eqX hu) (re_var 8) re_str) (rs_one (st1 6 sc__law_ways_right.nd (re_tup (ra_cons (re_add (re_ix (re_var 6) re_int) (re_mul (re_var 9) (re_ix (re_var 7) re_int))) (ra_cons (re_add (re_ix (re_var 6) re_int) (re_mul (re_var 9) (re_ix (re_var 7) re_int))) ra_nil))))) (rs_one (st1 7 sc__law_ways_right.nd (re_tup (ra_cons (re_add (re_ix (re_var 7) re_int) (re_mul (re_var 9) (re_ix (re_var 6) re_int))) (ra_cons (re_add (re_ix (re_var 7) re_int) (re_mul (re_var 9) (re_ix (re_var 6) re_int))) ra_nil)))))))) (rs_cons (st1 10 sc__law_ways_right.nd (re_f (rf_lst (ra_cons (re_tup (ra_cons (rcl c_way_to hr (ra_cons (re_var 3) ra_nil)) (ra_cons (re_var 4) ra_nil))) (ra_cons (re_tup (ra_cons (rcl c_end_of hr (ra_cons (re_var 4) ra_nil)) (ra_cons (re_var 3) ra_nil))) (ra_cons (re_tup (ra_cons (rcl c_sides hr (ra_cons (re_var 4) ra_nil)) (ra_cons (re_tup (ra_cons (re_var 6) (ra_cons (re_var 7) ra_nil))) ra_nil))) (ra_cons (re_tup (ra_cons (rcl c_depth hr (ra_cons (re_var 3) ra_nil)) (ra_cons (re_var 5) ra_nil))) (ra_cons (re_tup (ra_cons (rcl c_depth hr (ra_cons (re_tup (ra_cons (re_ix (re_var 3) re_int) (ra_cons (re_ix (re_var 3) re_int) ra_nil))) ra_nil)) (ra_cons (re_var 5) ra_nil))) ra_nil)))))))) (rs_cons (st1 10 sc__law_ways_right.nd (re_add (re_var 10) (re_f (rf_lst (ra_cons (re_tup (ra_cons (rcl c_next_in_row hr (ra_cons (re_var 3) ra_nil)) (ra_cons (rcl c__law_low hr (ra_cons (re_ix (re_var 3) re_int) (ra_cons (re_subA (re_add (re_mul (re_mul re_int (re_div (re_ix (re_var 3) re_int) (re_ix (re_var 3) re_int))) (re_ix (re_var 3) re_int)) (re_ix (re_var 3) re_int)) (re_ix (re_var 3) re_int)) ra_nil))) ra_nil))) ra_nil))))) (rs_cons (st1 10 sc__law_ways_right.nd (re_add (re_var 10) (re_f (rf_lst (ra_cons (re_tup (ra_cons (rcl c_are_neighbours hr (ra_cons (re_var 6) (ra_cons (re_var 3) ra_nil))) (ra_cons re_bl ra_nil))) (ra_cons (re_tup (ra_cons (rcl c_are_neighbours hr (ra_cons (re_var 3) (ra_cons (re_var 7) ra_nil))) (ra_cons re_bl ra_nil))) (ra_cons (re_tup (ra_cons (rcl c_are_neighbours hr (ra_cons (re_var 3) (ra_cons (re_var 6) ra_nil))) (ra_cons re_bl ra_nil))) ra_nil))))))) (rs_cons (st1 10 sc__law_ways_right.nd (re_add (re_var 10) (re_f (rf_lst (ra_cons (re_tup (ra_cons (rcl c_way_to hr (ra_cons (re_tup (ra_cons (re_ix (re_var 3) re_int) (ra_cons (re_ix (re_var 3) re_int) ra_nil))) ra_nil)) (ra_cons (re_tupOf (by rfl) T.n_tuple (ra_cons (re_f (rf_lc (own := [("side", 8), ("often", 9)]) rfl sc__law_ways_right.nd (ri_seq (re_var 4)) (blkOk_by (N := N__law_ways_right) (sc := defScope s__law_ways_right) (by decide +kernel)) (fun _ _ _ _ _ => (tgS rfl (tgc (tg1 8 sc__law_ways_right.nd) (tgc (tg1 9 sc__law_ways_right.nd) rgs_nil)))) (fun _ _ _ _ _ => rts_nil) (fun _ _ _ _ _ => (re_tup (ra_cons (re_ix (re_f (rf_lst (ra_cons re_str (ra_cons re_str ra_nil)))) (re_intc (by rfl) T.n_int (ra_cons (rec (c_eqX hu) (re_var 8) re_str) ra_nil))) (ra_cons (re_var 9) ra_nil)))))) ra_nil)) ra_nil))) ra_nil))))) (rs_cons (rs_if (rtc (c_leA hu) (re_var 5) re_int) (rs_cons (st2 11 12 rfl sc__law_ways_right.nd (ra_cons re_int (ra_cons (re_f (rf_lst ra_nil)) ra_nil))) (rs_cons (rs_for PassesOwn.never rfl (ri_seq (re_var 4)) (tgS rfl (tgc (tg1 8 sc__law_ways_right.nd) (tgc (tg1 9 sc__law_ways_right.nd) rgs_nil))) (rs_one (st1 12 sc__law_ways_right.nd (re_add (re_var 12) (re_mul (re_f (rf_lst (ra_cons (re_intc (by rfl) T.n_int (ra_cons (rec (c_eqX hu) (re_var 8) re_str) ra_nil)) ra_nil))) (re_var 9)))))) (rs_cons (rs_for PassesOwn.never rfl (ri_seq (re_rev (re_var 12))) (tg1 13 sc__law_ways_right.nd) (rs_one (st1 11 sc__law_ways_right.nd (re_add (re_mul re_int (re_var 11)) (re_var 13))))) (rs_one (st1 10 sc__law_ways_right.nd (re_add (re_var 10) (re_f (rf_lst (ra_cons (re_tup (ra_cons (rcl c_number_of hr (ra_cons (re_var 3) ra_nil)) (ra_cons (re_var 11) ra_nil))) (ra_cons (re_tup (ra_cons (rcl c_at_number hr (ra_cons (re_var 11) ra_nil)) (ra_cons (re_var 3) ra_nil))) (ra_cons (re_tup (ra_cons (rcl c_at_number hr (ra_cons (re_add (re_var 11) re_int) ra_nil)) (ra_cons (rcl c_next_in_row hr (ra_cons (re_var 3) ra_nil)) ra_nil))) ra_nil))))))))))) rs_nil) (rs_cons (st1 14 sc__law_ways_right.nd (re_tup (ra_cons (re_add (re_add (re_mul (re_ix (re_var 3) re_int) (re_pow re_int re_int)) re_int) (rcl c__law_pick hr (ra_cons (re_var 0) (ra_cons (re_pow re_int re_int) ra_nil)))) (ra_cons (re_mul (re_ix (re_var 3) re_int) (re_pow re_int re_int)) ra_nil)))) (rs_cons (st1 15 sc__law_ways_right.nd (rcl c__law_low hr (ra_cons (re_ix (re_var 14) re_int) (ra_cons (re_ix (re_var 14) re_int) ra_nil)))) (rs_cons (st1 10 sc__law_ways_right.nd (re_add (re_var 10) (re_f (rf_lst (ra_cons (re_tup (ra_cons (rcl c_plainest hr (ra_cons (re_var 3) (ra_cons (re_var 15) ra_nil))) (ra_cons (re_tup (ra_cons re_str (ra_cons (re_var 3) (ra_cons (re_var 15) (ra_cons (rcl c__law_plain hr (ra_cons (re_var 3) (ra_cons (re_var 15) ra_nil))) ra_nil))))) ra_nil))) ra_nil))))) (rs_cons (rs_if (rw_and (rtc (c_gtA hu) (re_ix (re_var 6) re_int) re_int) (rw_and1 (rtc (c_gtA hu) (re_ix (re_var 7) re_int) re_int))).rt (rs_one (st1 10 sc__law_ways_right.nd (re_add (re_var 10) (re_f (rf_lst (ra_cons (re_tup (ra_cons (rcl c_middle hr (ra_cons (re_var 6) (ra_cons (re_var 7) ra_nil))) (ra_cons (re_var 3) ra_nil))) ra_nil)))))) rs_nil) (rs_one (rs_ret (rcl c__law_all_same hr (ra_cons (re_var 10) ra_nil)))))))))))))))))))))) l__law_ways_right
abbrev s__law_rows_right : Stmt := topS 54
abbrev N__law_rows_right : List Str := ["source", "most", "told", "count", "under", "bottom", "top", "pair", "best", "low", "high", "far", "least", "whole", "k"]
theorem sc__law_rows_right : FnScope N__law_rows_right ["source"] (defScope s__law_rows_right) := ⟨rfl, rfl, rfl, by decide +kernel, rfl, by decide +kernel, by decide +kernel⟩
theorem ok__law_rows_right (D : Dfn K mg "_law_rows_right" "_law_rows_right" s__law_rows_right ["source"]) (T : Txt mg) (c__law_pick : Cal P w K mg base 1 "_law_pick" ["source", "many"] sp__law_pick) (c_row : Cal P w K mg base 1 "row" ["most"] sp_row) (c_are_neighbours : Cal P w K mg base 1 "are_neighbours" ["one", "other"] sp_are_neighbours) (c__law_shared : Cal P w K mg base 1 "_law_shared" ["one", "other"] sp__law_shared) (c__law_low : Cal P w K mg base 2 "_law_low" ["number", "under"] sp__law_low) (c_nearest : Cal P w K mg base 4 "nearest" ["pair", "most"] sp_nearest) (c__law_all_same : Cal P w K mg base 7 "_law_all_same" ["rows"] sp__law_all_same) : Cal P w K mg base 8 "_law_rows_right" ["source"] sp__law_rows_right :=
  cal_ok (n := 14) D sc__law_rows_right rfl (fun f cdv A outer s H E hr => by
    have hu := hr.u128
    exact (rs_cons (st1 1 sc__law_rows_right.nd (re_add re_int (rcl c__law_pick hr (ra_cons (re_var 0) (ra_cons re_int ra_nil))))) (rs_cons (st1 2 sc__law_rows_right.nd (rcl c_row hr (ra_cons (re_var 1) ra_nil))) (rs_cons (rs_if (rw_or (rtc (c_neX hu) (re_ix (re_var 2) re_int) (re_tup (ra_cons re_int (ra_cons re_int ra_nil)))) (rw_or (rtc (c_neX hu) (re_ix (re_var 2) (re_subA (re_len (by rfl) T.n_len (ra_cons (re_var 2) ra_nil)) re_int)) (re_tup (ra_cons re_int (ra_cons re_int ra_nil)))) (rw_or1 (rtc (c_neX hu) (re_f (rf_lc (own := [("k", 14)]) rfl sc__law_rows_right.nd (ri_rng2 (by rfl) T.n_range (ra_cons re_int (ra_cons (re_len (by rfl) T.n_len (ra_cons (re_var 2) ra_nil)) ra_nil))) (blkOk_by (N := N__law_rows_right) (sc := defScope s__law_rows_right) (by decide +kernel)) (fun _ _ _ _ _ => (tg1 14 sc__law_rows_right.nd)) (fun _ _ _ _ _ => (rts_one (rw_or (rt_not (rt_tru (rcl c_are_neighbours hr (ra_cons (re_ix (re_var 2) (re_subA (re_var 14) re_int)) (ra_cons (re_ix (re_var 2) (re_var 14)) ra_nil))))) (rw_or1 (rtc (c_gtA hu) (re_ix (re_ix (re_var 2) (re_var 14)) re_int) (re_var 1)))).rt)) (fun _ _ _ _ _ => (re_var 14)))) (re_f (rf_lst ra_nil)))))).rt (rs_one (rs_ret re_bl)) rs_nil) (rs_cons (st1 3 sc__law_rows_right.nd re_int) (rs_cons (rs_for PassesOwn.never rfl (ri_rng2 (by rfl) T.n_range (ra_cons re_int (ra_cons (re_add (re_var 1) re_int) ra_nil))) (tg1 4 sc__law_rows_right.nd) (rs_one (st1 3 sc__law_rows_right.nd (re_add (re_var 3) (re_len (by rfl) T.n_len (ra_cons (re_f (rf_lc (own := [("top", 6)]) rfl sc__law_rows_right.nd (ri_rng2 (by rfl) T.n_range (ra_cons re_int (ra_cons (re_add (re_var 4) re_int) ra_nil))) (blkOk_by (N := N__law_rows_right) (sc := defScope s__law_rows_right) (by decide +kernel)) (fun _ _ _ _ _ => (tg1 6 sc__law_rows_right.nd)) (fun _ _ _ _ _ => (rts_one (rtc (c_eqX hu) (rcl c__law_shared hr (ra_cons (re_var 6) (ra_cons (re_var 4) ra_nil))) re_int))) (fun _ _ _ _ _ => (re_var 6)))) ra_nil)))))) (rs_cons (st1 5 sc__law_rows_right.nd (re_ix (re_f (rf_lst (ra_cons (re_add re_int (rcl c__law_pick hr (ra_cons (re_var 0) (ra_cons re_int ra_nil)))) (ra_cons (re_add re_int (rcl c__law_pick hr (ra_cons (re_var 0) (ra_cons re_int ra_nil)))) ra_nil)))) (rcl c__law_pick hr (ra_cons (re_var 0) (ra_cons re_int ra_nil))))) (rs_cons (rs_asg (re_tup (ra_cons (rcl c__law_pick hr (ra_cons (re_var 0) (ra_cons (re_pow re_int re_int) ra_nil))) (ra_cons (re_add re_int (rcl c__law_pick hr (ra_cons (re_var 0) (ra_cons (re_pow re_int re_int) ra_nil)))) ra_nil))) (tgS rfl (tgc (tg1 6 sc__law_rows_right.nd) (tgc (tg1 4 sc__law_rows_right.nd) rgs_nil)))) (rs_cons (st1 7 sc__law_rows_right.nd (rcl c__law_low hr (ra_cons (re_var 6) (ra_cons (re_var 4) ra_nil)))) (rs_cons (st1 8 sc__law_rows_right.nd (re_tup (ra_cons (re_div (re_var 6) (re_var 4)) (ra_cons re_int ra_nil)))) (rs_cons (rs_for PassesOwn.never rfl (ri_rng2 (by rfl) T.n_range (ra_cons re_int (ra_cons (re_add (re_var 5) re_int) ra_nil))) (tg1 9 sc__law_rows_right.nd) (rs_one (rs_for PassesOwn.never rfl (ri_seq (re_tup (ra_cons (re_div (re_mul (re_var 6) (re_var 9)) (re_var 4)) (ra_cons (re_add (re_div (re_mul (re_var 6) (re_var 9)) (re_var 4)) re_int) ra_nil)))) (tg1 10 sc__law_rows_right.nd) (rs_cons (st2 11 12 rfl sc__law_rows_right.nd (ra_cons (re_mul (re_abs (by rfl) T.n_abs (ra_cons (re_subA (re_mul (re_var 6) (re_var 9)) (re_mul (re_var 10) (re_var 4))) ra_nil)) (re_ix (re_var 8) re_int)) (ra_cons (re_mul (re_abs (by rfl) T.n_abs (ra_cons (re_subA (re_mul (re_var 6) (re_ix (re_var 8) re_int)) (re_mul (re_ix (re_var 8) re_int) (re_var 4))) ra_nil)) (re_var 9)) ra_nil))) (rs_one (rs_if (rw_or (rtc (c_ltA hu) (re_var 11) (re_var 12)) (rw_or1 (rw_and (rtc (c_eqX hu) (re_var 11) (re_var 12)) (rw_and1 (rtc (c_ltA hu) (re_mul (re_var 10) (re_ix (re_var 8) re_int)) (re_mul (re_ix (re_var 8) re_int) (re_var 9))))).rt)).rt (rs_one (st1 8 sc__law_rows_right.nd (re_tup (ra_cons (re_var 10) (ra_cons (re_var 9) ra_nil))))) rs_nil)))))) (rs_cons (st1 13 sc__law_rows_right.nd (rcl c__law_pick hr (ra_cons (re_var 0) (ra_cons re_int ra_nil)))) (rs_one (rs_ret (rcl c__law_all_same hr (ra_cons (re_f (rf_lst (ra_cons (re_tup (ra_cons (re_len (by rfl) T.n_len (ra_cons (re_var 2) ra_nil)) (ra_cons (re_var 3) ra_nil))) (ra_cons (re_tup (ra_cons (rcl c_nearest hr (ra_cons (re_var 7) (ra_cons (re_var 5) ra_nil))) (ra_cons (rcl c__law_low hr (ra_cons (re_ix (re_var 8) re_int) (ra_cons (re_ix (re_var 8) re_int) ra_nil))) ra_nil))) (ra_cons (re_tup (ra_cons (rcl c_nearest hr (ra_cons (re_tup (ra_cons (re_add (re_mul re_int (re_var 13)) re_int) (ra_cons re_int ra_nil))) (ra_cons re_int ra_nil))) (ra_cons (re_tup (ra_cons (re_var 13) (ra_cons re_int ra_nil))) ra_nil))) ra_nil))))) ra_nil)))))))))))))))) l__law_rows_right
abbrev s__law_fractions_right : Stmt := topS 55
abbrev N__law_fractions_right : List Str := ["source", "one", "other", "a", "b", "c", "d", "less", "sign", "due", "rows", "n", "k", "base", "root", "e", "whole"]
theorem sc__law_fractions_right : FnScope N__law_fractions_right ["source"] (defScope s__law_fractions_right) := ⟨rfl, rfl, rfl, by decide +kernel, rfl, by decide +kernel, by decide +kernel⟩
theorem ok__law_fractions_right (D : Dfn K mg "_law_fractions_right" "_law_fractions_right" s__law_fractions_right ["source"]) (T : Txt mg) (c__law_pick : Cal P w K mg base 1 "_law_pick" ["source", "many"] sp__law_pick) (c__law_low : Cal P w K mg base 2 "_law_low" ["number", "under"] sp__law_low) (c_plus : Cal P w K mg base 3 "plus" ["one", "other"] sp_plus) (c_minus : Cal P w K mg base 3 "minus" ["one", "other"] sp_minus) (c_times : Cal P w K mg base 3 "times" ["one", "other"] sp_times) (c_over : Cal P w K mg base 3 "over" ["one", "other"] sp_over) (c_compared : Cal P w K mg base 1 "compared" ["one", "other"] sp_compared) (c_fraction : Cal P w K mg base 2 "fraction" ["number", "under"] sp_fraction) (c_root_of : Cal P w K mg base 2 "root_of" ["n", "k"] sp_root_of) (c_log_of : Cal P w K mg base 1 "log_of" ["base", "n"] sp_log_of) (c__law_power : Cal P w K mg base 1 "_law_power" ["base", "e"] sp__law_power) (c__law_all_same : Cal P w K mg base 7 "_law_all_same" ["rows"] sp__law_all_same) : Cal P w K mg base 8 "_law_fractions_right" ["source"] sp__law_fractions_right :=
  cal_ok (n := 16) D sc__law_fractions_right rfl (fun f cdv A outer s H E hr => by
    have hu := hr.u128
    exact (rs_cons (st2 1 2 rfl sc__law_fractions_right.nd (ra_cons (rcl c__law_low hr (ra_cons (re_add re_int (re_mul (rcl c__law_pick hr (ra_cons (re_var 0) (ra_cons (re_pow re_int re_int) ra_nil))) (re_pow re_int re_int))) (ra_cons (re_add re_int (rcl c__law_pick hr (ra_cons (re_var 0) (ra_cons (re_pow re_int re_int) ra_nil)))) ra_nil))) (ra_cons (rcl c__law_low hr (ra_cons (re_add re_int (rcl c__law_pick hr (ra_cons (re_var 0) (ra_cons (re_pow re_int re_int) ra_nil)))) (ra_cons (re_add re_int (re_mul (rcl c__law_pick hr (ra_cons (re_var 0) (ra_cons (re_pow re_int re_int) ra_nil))) (re_pow re_int re_int))) ra_nil))) ra_nil))) (rs_cons (rs_asg (re_tup (ra_cons (re_ix (re_var 1) re_int) (ra_cons (re_ix (re_var 1) re_int) (ra_cons (re_ix (re_var 2) re_int) (ra_cons (re_ix (re_var 2) re_int) ra_nil))))) (tgS rfl (tgc (tg1 3 sc__law_fractions_right.nd) (tgc (tg1 4 sc__law_fractions_right.nd) (tgc (tg1 5 sc__law_fractions_right.nd) (tgc (tg1 6 sc__law_fractions_right.nd) rgs_nil)))))) (rs_cons (st1 7 sc__law_fractions_right.nd (re_subA (re_mul (re_var 3) (re_var 6)) (re_mul (re_var 5) (re_var 4)))) (rs_cons (st1 8 sc__law_fractions_right.nd (re_subA (re_intc (by rfl) T.n_int (ra_cons (rec (c_gtA hu) (re_var 7) re_int) ra_nil)) (re_intc (by rfl) T.n_int (ra_cons (rec (c_ltA hu) (re_var 7) re_int) ra_nil)))) (rs_cons (st1 9 sc__law_fractions_right.nd (rcl c__law_low hr (ra_cons (re_abs (by rfl) T.n_abs (ra_cons (re_var 7) ra_nil)) (ra_cons (re_mul (re_var 4) (re_var 6)) ra_nil)))) (rs_cons (st1 10 sc__law_fractions_right.nd (re_f (rf_lst (ra_cons (re_tup (ra_cons (rcl c_plus hr (ra_cons (re_var 1) (ra_cons (re_var 2) ra_nil))) (ra_cons (rcl c__law_low hr (ra_cons (re_add (re_mul (re_var 3) (re_var 6)) (re_mul (re_var 5) (re_var 4))) (ra_cons (re_mul (re_var 4) (re_var 6)) ra_nil))) ra_nil))) (ra_cons (re_tup (ra_cons (rcl c_minus hr (ra_cons (re_var 1) (ra_cons (re_var 2) ra_nil))) (ra_cons (re_tup (ra_cons (re_mul (re_ix (re_var 9) re_int) (re_var 8)) (ra_cons (re_ix (re_var 9) re_int) ra_nil))) ra_nil))) (ra_cons (re_tup (ra_cons (rcl c_times hr (ra_cons (re_var 1) (ra_cons (re_var 2) ra_nil))) (ra_cons (rcl c__law_low hr (ra_cons (re_mul (re_var 3) (re_var 5)) (ra_cons (re_mul (re_var 4) (re_var 6)) ra_nil))) ra_nil))) ra_nil)))))) (rs_cons (st1 10 sc__law_fractions_right.nd (re_add (re_var 10) (re_f (rf_lst (ra_cons (re_tup (ra_cons (rcl c_over hr (ra_cons (re_var 1) (ra_cons (re_var 2) ra_nil))) (ra_cons (rcl c__law_low hr (ra_cons (re_mul (re_var 3) (re_var 6)) (ra_cons (re_mul (re_var 4) (re_var 5)) ra_nil))) ra_nil))) (ra_cons (re_tup (ra_cons (rcl c_compared hr (ra_cons (re_var 1) (ra_cons (re_var 2) ra_nil))) (ra_cons (re_var 8) ra_nil))) ra_nil)))))) (rs_cons (st1 10 sc__law_fractions_right.nd (re_add (re_var 10) (re_f (rf_lst (ra_cons (re_tup (ra_cons (rcl c_fraction hr (ra_cons (re_subA re_int (re_mul (re_var 3) re_int)) (ra_cons (re_subA re_int (re_mul (re_var 4) re_int)) ra_nil))) (ra_cons (re_var 1) ra_nil))) (ra_cons (re_tup (ra_cons (rcl c_fraction hr (ra_cons (re_mul (re_var 3) re_int) (ra_cons (re_subA re_int (re_mul (re_var 4) re_int)) ra_nil))) (ra_cons (re_tup (ra_cons (re_subA re_int (re_var 3)) (ra_cons (re_var 4) ra_nil))) ra_nil))) (ra_cons (re_tup (ra_cons (rcl c_minus hr (ra_cons (re_var 1) (ra_cons (re_var 1) ra_nil))) (ra_cons (re_tup (ra_cons re_int (ra_cons re_int ra_nil))) ra_nil))) (ra_cons (re_tup (ra_cons (rcl c_over hr (ra_cons (re_var 1) (ra_cons (re_var 1) ra_nil))) (ra_cons (re_tup (ra_cons re_int (ra_cons re_int ra_nil))) ra_nil))) ra_nil)))))))) (rs_cons (st1 10 sc__law_fractions_right.nd (re_add (re_var 10) (re_f (rf_lst (ra_cons (re_tup (ra_cons (rcl c_over hr (ra_cons (re_tup (ra_cons (re_subA re_int (re_var 3)) (ra_cons (re_var 4) ra_nil))) (ra_cons (re_var 2) ra_nil))) (ra_cons (re_tup (ra_cons (re_subA re_int (re_ix (rcl c__law_low hr (ra_cons (re_mul (re_var 3) (re_var 6)) (ra_cons (re_mul (re_var 4) (re_var 5)) ra_nil))) re_int)) (ra_cons (re_ix (rcl c__law_low hr (ra_cons (re_mul (re_var 3) (re_var 6)) (ra_cons (re_mul (re_var 4) (re_var 5)) ra_nil))) re_int) ra_nil))) ra_nil))) ra_nil))))) (rs_cons (st3 11 12 13 rfl sc__law_fractions_right.nd (ra_cons (re_add (re_add re_int (re_mul (rcl c__law_pick hr (ra_cons (re_var 0) (ra_cons (re_pow re_int re_int) ra_nil))) (re_pow re_int re_int))) (rcl c__law_pick hr (ra_cons (re_var 0) (ra_cons (re_pow re_int re_int) ra_nil)))) (ra_cons (re_add re_int (rcl c__law_pick hr (ra_cons (re_var 0) (ra_cons re_int ra_nil)))) (ra_cons (re_add re_int (rcl c__law_pick hr (ra_cons (re_var 0) (ra_cons (re_pow re_int re_int) ra_nil)))) ra_nil)))) (rs_cons (st2 14 15 rfl sc__law_fractions_right.nd (ra_cons (rcl c_root_of hr (ra_cons (re_var 11) (ra_cons (re_var 12) ra_nil))) (ra_cons (rcl c_log_of hr (ra_cons (re_var 13) (ra_cons (re_var 11) ra_nil))) ra_nil))) (rs_cons (st1 16 sc__law_fractions_right.nd (rcl c__law_power hr (ra_cons (re_var 13) (ra_cons (re_var 15) ra_nil)))) (rs_one (rs_ret (re_and (rcl c__law_all_same hr (ra_cons (re_var 10) ra_nil)) (re_and (rec2 (c_leA hu) (c_ltA hu) (rcl c__law_power hr (ra_cons (re_var 14) (ra_cons (re_var 12) ra_nil))) (re_var 11) (rcl c__law_power hr (ra_cons (re_add (re_var 14) re_int) (ra_cons (re_var 12) ra_nil)))) (re_one (rec2 (c_leA hu) (c_ltA hu) (re_var 16) (re_var 11) (re_mul (re_var 16) (re_var 13))))))))))))))))))))) l__law_fractions_right
abbrev s__law_right : Stmt := topS 56
abbrev N__law_right : List Str := ["source"]
theorem sc__law_right : FnScope N__law_right ["source"] (defScope s__law_right) := ⟨rfl, rfl, rfl, by decide +kernel, rfl, by decide +kernel, by decide +kernel⟩
theorem ok__law_right (D : Dfn K mg "_law_right" "_law_right" s__law_right ["source"]) (T : Txt mg) (c__law_ways_right : Cal P w K mg base 76 "_law_ways_right" ["source"] sp__law_ways_right) (c__law_rows_right : Cal P w K mg base 8 "_law_rows_right" ["source"] sp__law_rows_right) (c__law_fractions_right : Cal P w K mg base 8 "_law_fractions_right" ["source"] sp__law_fractions_right) : Cal P w K mg base 77 "_law_right" ["source"] sp__law_right :=
  cal_ok (n := 0) D sc__law_right rfl (fun f cdv A outer s H E hr => by
    exact (rs_one (rs_ret (re_and (rcl c__law_ways_right hr (ra_cons (re_var 0) ra_nil)) (re_and (rcl c__law_rows_right hr (ra_cons (re_var 0) ra_nil)) (re_one (rcl c__law_fractions_right hr (ra_cons (re_var 0) ra_nil)))))))) l__law_right
abbrev s_law : Stmt := topS 57
abbrev N_law : List Str := ["script", "k"]
theorem sc_law : FnScope N_law ["script"] (defScope s_law) := ⟨rfl, rfl, rfl, by decide +kernel, rfl, by decide +kernel, by decide +kernel⟩
theorem fn_law {f : Addr} {fd : FuncData} (F : Fun K "law" "law" s_law f fd) (T : Txt mg) (c__law_cell : Cal P w K mg base 1 "_law_cell" ["script", "k"] sp__law_cell) (c__law_right : Cal P w K mg base 77 "_law_right" ["source"] sp__law_right) (c__law_source : Cal P w K mg base 1 "_law_source" ["cell", "k"] sp__law_source) : FnOk P w K mg base CX0 78 f fd ["script"] (spOf K sp_law) :=
  fn_ok (n := 1) F sc_law rfl (fun cdv A outer s H E hr => by
    exact (rs_cons (rs_for PassesOwn.never rfl (ri_rng1 (by rfl) T.n_range (ra_cons (re_add (re_min rfl (by rfl) T.n_min (ra_cons (re_len (by rfl) T.n_len (ra_cons (re_var 0) ra_nil)) (ra_cons re_int ra_nil))) re_int) ra_nil)) (tg1 1 sc_law.nd) (rs_one (rs_if (rt_not (rt_tru (rclN c__law_right c__law_source hr (ra_cons (rcl c__law_cell hr (ra_cons (re_var 0) (ra_cons (re_var 1) ra_nil))) (ra_cons (re_var 1) ra_nil))))) (rs_one (rs_ret re_bl)) rs_nil))) (rs_one (rs_ret re_bl)))) l_law
end
end Fl

namespace Fl
open PySem PySem.Spec PyProof.Rows L2
/-! printed by mkEnd.py: the defs as they stand in the written part, and law of them all -/
theorem cal_none {P : Program} {w : World} {K : PySem.W.Frag} {mg : Str → Option Value} {base : Heap} {id name : Str} {stm : Stmt} {ps : List Str} {psp : PSp} (D : Dfn K mg id name stm ps) (no : ∀ args M Q, ¬ psp args M Q) : Cal P w K mg base 0 id ps psp := by
  obtain ⟨f, fd, F, m, b⟩ := D.ex
  have no2 : ∀ vs H Q E, ¬ spOf K psp vs H Q E := fun vs H Q E ⟨_, _, _, _, _, _, _, _, _, h, _⟩ => no _ _ _ h
  exact ⟨f, fd, ⟨fun vs H Q E h => absurd h (no2 vs H Q E), fun A outer s H args us vs Q E _ _ _ _ h => absurd h (no2 vs H Q E)⟩, m, F.kp, b⟩
section
variable {K : PySem.W.Frag} {h : Heap} {mg : Str → Option Value}
theorem dfn_power (X : K.In h) (G : h.Ns mainGlobals mg) {f : Addr} {od an : Option Addr} {sl : Array (Option Value)} {oc kV dc pm cd ct : Value} (a : PySem.W.nsIn K mainGlobals "power" = some (some (.ref f))) (l : K.lookup f = some ⟨oc, od, .func (PySem.W.fnOf "power" "power" (defArgs s_power) (defBody s_power) (defScope s_power) .none kV dc pm an cd ct), sl⟩) (c : PySem.W.codeIn K cd "power" = true) (k : PySem.W.keepIn K (.ref f) = true) : Dfn K mg "power" "power" s_power ["base", "e"] :=
  ⟨f, _, fun_mk l c k, PySem.W.mg_of X G a, (fun_mk (st := s_power) l c k).binds (ps := ["base", "e"]) fun _ _ _ _ _ _ us hl => match us, hl with | [_, _], _ => rfl⟩
theorem dfn_checked (X : K.In h) (G : h.Ns mainGlobals mg) {f : Addr} {od an : Option Addr} {sl : Array (Option Value)} {oc kV dc pm cd ct : Value} (a : PySem.W.nsIn K mainGlobals "checked" = some (some (.ref f))) (l : K.lookup f = some ⟨oc, od, .func (PySem.W.fnOf "checked" "checked" (defArgs s_checked) (defBody s_checked) (defScope s_checked) .none kV dc pm an cd ct), sl⟩) (c : PySem.W.codeIn K cd "checked" = true) (k : PySem.W.keepIn K (.ref f) = true) : Dfn K mg "checked" "checked" s_checked ["n"] :=
  ⟨f, _, fun_mk l c k, PySem.W.mg_of X G a, (fun_mk (st := s_checked) l c k).binds (ps := ["n"]) fun _ _ _ _ _ _ us hl => match us, hl with | [_], _ => rfl⟩
theorem dfn_shared (X : K.In h) (G : h.Ns mainGlobals mg) {f : Addr} {od an : Option Addr} {sl : Array (Option Value)} {oc kV dc pm cd ct : Value} (a : PySem.W.nsIn K mainGlobals "shared" = some (some (.ref f))) (l : K.lookup f = some ⟨oc, od, .func (PySem.W.fnOf "shared" "shared" (defArgs s_shared) (defBody s_shared) (defScope s_shared) .none kV dc pm an cd ct), sl⟩) (c : PySem.W.codeIn K cd "shared" = true) (k : PySem.W.keepIn K (.ref f) = true) : Dfn K mg "shared" "shared" s_shared ["one", "other"] :=
  ⟨f, _, fun_mk l c k, PySem.W.mg_of X G a, (fun_mk (st := s_shared) l c k).binds (ps := ["one", "other"]) fun _ _ _ _ _ _ us hl => match us, hl with | [_, _], _ => rfl⟩
theorem dfn_log_of (X : K.In h) (G : h.Ns mainGlobals mg) {f : Addr} {od an : Option Addr} {sl : Array (Option Value)} {oc kV dc pm cd ct : Value} (a : PySem.W.nsIn K mainGlobals "log_of" = some (some (.ref f))) (l : K.lookup f = some ⟨oc, od, .func (PySem.W.fnOf "log_of" "log_of" (defArgs s_log_of) (defBody s_log_of) (defScope s_log_of) .none kV dc pm an cd ct), sl⟩) (c : PySem.W.codeIn K cd "log_of" = true) (k : PySem.W.keepIn K (.ref f) = true) : Dfn K mg "log_of" "log_of" s_log_of ["base", "n"] :=
  ⟨f, _, fun_mk l c k, PySem.W.mg_of X G a, (fun_mk (st := s_log_of) l c k).binds (ps := ["base", "n"]) fun _ _ _ _ _ _ us hl => match us, hl with | [_, _], _ => rfl⟩
theorem dfn_root_of (X : K.In h) (G : h.Ns mainGlobals mg) {f : Addr} {od an : Option Addr} {sl : Array (Option Value)} {oc kV dc pm cd ct : Value} (a : PySem.W.nsIn K mainGlobals "root_of" = some (some (.ref f))) (l : K.lookup f = some ⟨oc, od, .func (PySem.W.fnOf "root_of" "root_of" (defArgs s_root_of) (defBody s_root_of) (defScope s_root_of) .none kV dc pm an cd ct), sl⟩) (c : PySem.W.codeIn K cd "root_of" = true) (k : PySem.W.keepIn K (.ref f) = true) : Dfn K mg "root_of" "root_of" s_root_of ["n", "k"] :=
  ⟨f, _, fun_mk l c k, PySem.W.mg_of X G a, (fun_mk (st := s_root_of) l c k).binds (ps := ["n", "k"]) fun _ _ _ _ _ _ us hl => match us, hl with | [_, _], _ => rfl⟩
theorem dfn_fraction (X : K.In h) (G : h.Ns mainGlobals mg) {f : Addr} {od an : Option Addr} {sl : Array (Option Value)} {oc kV dc pm cd ct : Value} (a : PySem.W.nsIn K mainGlobals "fraction" = some (some (.ref f))) (l : K.lookup f = some ⟨oc, od, .func (PySem.W.fnOf "fraction" "fraction" (defArgs s_fraction) (defBody s_fraction) (defScope s_fraction) .none kV dc pm an cd ct), sl⟩) (c : PySem.W.codeIn K cd "fraction" = true) (k : PySem.W.keepIn K (.ref f) = true) : Dfn K mg "fraction" "fraction" s_fraction ["number", "under"] :=
  ⟨f, _, fun_mk l c k, PySem.W.mg_of X G a, (fun_mk (st := s_fraction) l c k).binds (ps := ["number", "under"]) fun _ _ _ _ _ _ us hl => match us, hl with | [_, _], _ => rfl⟩
theorem dfn_is_fraction (X : K.In h) (G : h.Ns mainGlobals mg) {f : Addr} {od an : Option Addr} {sl : Array (Option Value)} {oc kV dc pm cd ct : Value} (a : PySem.W.nsIn K mainGlobals "is_fraction" = some (some (.ref f))) (l : K.lookup f = some ⟨oc, od, .func (PySem.W.fnOf "is_fraction" "is_fraction" (defArgs s_is_fraction) (defBody s_is_fraction) (defScope s_is_fraction) .none kV dc pm an cd ct), sl⟩) (c : PySem.W.codeIn K cd "is_fraction" = true) (k : PySem.W.keepIn K (.ref f) = true) : Dfn K mg "is_fraction" "is_fraction" s_is_fraction ["pair"] :=
  ⟨f, _, fun_mk l c k, PySem.W.mg_of X G a, (fun_mk (st := s_is_fraction) l c k).binds (ps := ["pair"]) fun _ _ _ _ _ _ us hl => match us, hl with | [_], _ => rfl⟩
theorem dfn_known (X : K.In h) (G : h.Ns mainGlobals mg) {f : Addr} {od an : Option Addr} {sl : Array (Option Value)} {oc kV dc pm cd ct : Value} (a : PySem.W.nsIn K mainGlobals "known" = some (some (.ref f))) (l : K.lookup f = some ⟨oc, od, .func (PySem.W.fnOf "known" "known" (defArgs s_known) (defBody s_known) (defScope s_known) .none kV dc pm an cd ct), sl⟩) (c : PySem.W.codeIn K cd "known" = true) (k : PySem.W.keepIn K (.ref f) = true) : Dfn K mg "known" "known" s_known ["pair"] :=
  ⟨f, _, fun_mk l c k, PySem.W.mg_of X G a, (fun_mk (st := s_known) l c k).binds (ps := ["pair"]) fun _ _ _ _ _ _ us hl => match us, hl with | [_], _ => rfl⟩
theorem dfn_plus (X : K.In h) (G : h.Ns mainGlobals mg) {f : Addr} {od an : Option Addr} {sl : Array (Option Value)} {oc kV dc pm cd ct : Value} (a : PySem.W.nsIn K mainGlobals "plus" = some (some (.ref f))) (l : K.lookup f = some ⟨oc, od, .func (PySem.W.fnOf "plus" "plus" (defArgs s_plus) (defBody s_plus) (defScope s_plus) .none kV dc pm an cd ct), sl⟩) (c : PySem.W.codeIn K cd "plus" = true) (k : PySem.W.keepIn K (.ref f) = true) : Dfn K mg "plus" "plus" s_plus ["one", "other"] :=
  ⟨f, _, fun_mk l c k, PySem.W.mg_of X G a, (fun_mk (st := s_plus) l c k).binds (ps := ["one", "other"]) fun _ _ _ _ _ _ us hl => match us, hl with | [_, _], _ => rfl⟩
theorem dfn_minus (X : K.In h) (G : h.Ns mainGlobals mg) {f : Addr} {od an : Option Addr} {sl : Array (Option Value)} {oc kV dc pm cd ct : Value} (a : PySem.W.nsIn K mainGlobals "minus" = some (some (.ref f))) (l : K.lookup f = some ⟨oc, od, .func (PySem.W.fnOf "minus" "minus" (defArgs s_minus) (defBody s_minus) (defScope s_minus) .none kV dc pm an cd ct), sl⟩) (c : PySem.W.codeIn K cd "minus" = true) (k : PySem.W.keepIn K (.ref f) = true) : Dfn K mg "minus" "minus" s_minus ["one", "other"] :=
  ⟨f, _, fun_mk l c k, PySem.W.mg_of X G a, (fun_mk (st := s_minus) l c k).binds (ps := ["one", "other"]) fun _ _ _ _ _ _ us hl => match us, hl with | [_, _], _ => rfl⟩
theorem dfn_times (X : K.In h) (G : h.Ns mainGlobals mg) {f : Addr} {od an : Option Addr} {sl : Array (Option Value)} {oc kV dc pm cd ct : Value} (a : PySem.W.nsIn K mainGlobals "times" = some (some (.ref f))) (l : K.lookup f = some ⟨oc, od, .func (PySem.W.fnOf "times" "times" (defArgs s_times) (defBody s_times) (defScope s_times) .none kV dc pm an cd ct), sl⟩) (c : PySem.W.codeIn K cd "times" = true) (k : PySem.W.keepIn K (.ref f) = true) : Dfn K mg "times" "times" s_times ["one", "other"] :=
  ⟨f, _, fun_mk l c k, PySem.W.mg_of X G a, (fun_mk (st := s_times) l c k).binds (ps := ["one", "other"]) fun _ _ _ _ _ _ us hl => match us, hl with | [_, _], _ => rfl⟩
theorem dfn_over (X : K.In h) (G : h.Ns mainGlobals mg) {f : Addr} {od an : Option Addr} {sl : Array (Option Value)} {oc kV dc pm cd ct : Value} (a : PySem.W.nsIn K mainGlobals "over" = some (some (.ref f))) (l : K.lookup f = some ⟨oc, od, .func (PySem.W.fnOf "over" "over" (defArgs s_over) (defBody s_over) (defScope s_over) .none kV dc pm an cd ct), sl⟩) (c : PySem.W.codeIn K cd "over" = true) (k : PySem.W.keepIn K (.ref f) = true) : Dfn K mg "over" "over" s_over ["one", "other"] :=
  ⟨f, _, fun_mk l c k, PySem.W.mg_of X G a, (fun_mk (st := s_over) l c k).binds (ps := ["one", "other"]) fun _ _ _ _ _ _ us hl => match us, hl with | [_, _], _ => rfl⟩
theorem dfn_compared (X : K.In h) (G : h.Ns mainGlobals mg) {f : Addr} {od an : Option Addr} {sl : Array (Option Value)} {oc kV dc pm cd ct : Value} (a : PySem.W.nsIn K mainGlobals "compared" = some (some (.ref f))) (l : K.lookup f = some ⟨oc, od, .func (PySem.W.fnOf "compared" "compared" (defArgs s_compared) (defBody s_compared) (defScope s_compared) .none kV dc pm an cd ct), sl⟩) (c : PySem.W.codeIn K cd "compared" = true) (k : PySem.W.keepIn K (.ref f) = true) : Dfn K mg "compared" "compared" s_compared ["one", "other"] :=
  ⟨f, _, fun_mk l c k, PySem.W.mg_of X G a, (fun_mk (st := s_compared) l c k).binds (ps := ["one", "other"]) fun _ _ _ _ _ _ us hl => match us, hl with | [_, _], _ => rfl⟩
theorem dfn_above_zero (X : K.In h) (G : h.Ns mainGlobals mg) {f : Addr} {od an : Option Addr} {sl : Array (Option Value)} {oc kV dc pm cd ct : Value} (a : PySem.W.nsIn K mainGlobals "above_zero" = some (some (.ref f))) (l : K.lookup f = some ⟨oc, od, .func (PySem.W.fnOf "above_zero" "above_zero" (defArgs s_above_zero) (defBody s_above_zero) (defScope s_above_zero) .none kV dc pm an cd ct), sl⟩) (c : PySem.W.codeIn K cd "above_zero" = true) (k : PySem.W.keepIn K (.ref f) = true) : Dfn K mg "above_zero" "above_zero" s_above_zero ["pair"] :=
  ⟨f, _, fun_mk l c k, PySem.W.mg_of X G a, (fun_mk (st := s_above_zero) l c k).binds (ps := ["pair"]) fun _ _ _ _ _ _ us hl => match us, hl with | [_], _ => rfl⟩
theorem dfn_way_to (X : K.In h) (G : h.Ns mainGlobals mg) {f : Addr} {od an : Option Addr} {sl : Array (Option Value)} {oc kV dc pm cd ct : Value} (a : PySem.W.nsIn K mainGlobals "way_to" = some (some (.ref f))) (l : K.lookup f = some ⟨oc, od, .func (PySem.W.fnOf "way_to" "way_to" (defArgs s_way_to) (defBody s_way_to) (defScope s_way_to) .none kV dc pm an cd ct), sl⟩) (c : PySem.W.codeIn K cd "way_to" = true) (k : PySem.W.keepIn K (.ref f) = true) : Dfn K mg "way_to" "way_to" s_way_to ["pair"] :=
  ⟨f, _, fun_mk l c k, PySem.W.mg_of X G a, (fun_mk (st := s_way_to) l c k).binds (ps := ["pair"]) fun _ _ _ _ _ _ us hl => match us, hl with | [_], _ => rfl⟩
theorem dfn_check_way (X : K.In h) (G : h.Ns mainGlobals mg) {f : Addr} {od an : Option Addr} {sl : Array (Option Value)} {oc kV dc pm cd ct : Value} (a : PySem.W.nsIn K mainGlobals "check_way" = some (some (.ref f))) (l : K.lookup f = some ⟨oc, od, .func (PySem.W.fnOf "check_way" "check_way" (defArgs s_check_way) (defBody s_check_way) (defScope s_check_way) .none kV dc pm an cd ct), sl⟩) (c : PySem.W.codeIn K cd "check_way" = true) (k : PySem.W.keepIn K (.ref f) = true) : Dfn K mg "check_way" "check_way" s_check_way ["way"] :=
  ⟨f, _, fun_mk l c k, PySem.W.mg_of X G a, (fun_mk (st := s_check_way) l c k).binds (ps := ["way"]) fun _ _ _ _ _ _ us hl => match us, hl with | [_], _ => rfl⟩
theorem dfn_end_of (X : K.In h) (G : h.Ns mainGlobals mg) {f : Addr} {od an : Option Addr} {sl : Array (Option Value)} {oc kV dc pm cd ct : Value} (a : PySem.W.nsIn K mainGlobals "end_of" = some (some (.ref f))) (l : K.lookup f = some ⟨oc, od, .func (PySem.W.fnOf "end_of" "end_of" (defArgs s_end_of) (defBody s_end_of) (defScope s_end_of) .none kV dc pm an cd ct), sl⟩) (c : PySem.W.codeIn K cd "end_of" = true) (k : PySem.W.keepIn K (.ref f) = true) : Dfn K mg "end_of" "end_of" s_end_of ["way"] :=
  ⟨f, _, fun_mk l c k, PySem.W.mg_of X G a, (fun_mk (st := s_end_of) l c k).binds (ps := ["way"]) fun _ _ _ _ _ _ us hl => match us, hl with | [_], _ => rfl⟩
theorem dfn_sides (X : K.In h) (G : h.Ns mainGlobals mg) {f : Addr} {od an : Option Addr} {sl : Array (Option Value)} {oc kV dc pm cd ct : Value} (a : PySem.W.nsIn K mainGlobals "sides" = some (some (.ref f))) (l : K.lookup f = some ⟨oc, od, .func (PySem.W.fnOf "sides" "sides" (defArgs s_sides) (defBody s_sides) (defScope s_sides) .none kV dc pm an cd ct), sl⟩) (c : PySem.W.codeIn K cd "sides" = true) (k : PySem.W.keepIn K (.ref f) = true) : Dfn K mg "sides" "sides" s_sides ["way"] :=
  ⟨f, _, fun_mk l c k, PySem.W.mg_of X G a, (fun_mk (st := s_sides) l c k).binds (ps := ["way"]) fun _ _ _ _ _ _ us hl => match us, hl with | [_], _ => rfl⟩
theorem dfn_depth (X : K.In h) (G : h.Ns mainGlobals mg) {f : Addr} {od an : Option Addr} {sl : Array (Option Value)} {oc kV dc pm cd ct : Value} (a : PySem.W.nsIn K mainGlobals "depth" = some (some (.ref f))) (l : K.lookup f = some ⟨oc, od, .func (PySem.W.fnOf "depth" "depth" (defArgs s_depth) (defBody s_depth) (defScope s_depth) .none kV dc pm an cd ct), sl⟩) (c : PySem.W.codeIn K cd "depth" = true) (k : PySem.W.keepIn K (.ref f) = true) : Dfn K mg "depth" "depth" s_depth ["pair"] :=
  ⟨f, _, fun_mk l c k, PySem.W.mg_of X G a, (fun_mk (st := s_depth) l c k).binds (ps := ["pair"]) fun _ _ _ _ _ _ us hl => match us, hl with | [_], _ => rfl⟩
theorem dfn_middle (X : K.In h) (G : h.Ns mainGlobals mg) {f : Addr} {od an : Option Addr} {sl : Array (Option Value)} {oc kV dc pm cd ct : Value} (a : PySem.W.nsIn K mainGlobals "middle" = some (some (.ref f))) (l : K.lookup f = some ⟨oc, od, .func (PySem.W.fnOf "middle" "middle" (defArgs s_middle) (defBody s_middle) (defScope s_middle) .none kV dc pm an cd ct), sl⟩) (c : PySem.W.codeIn K cd "middle" = true) (k : PySem.W.keepIn K (.ref f) = true) : Dfn K mg "middle" "middle" s_middle ["one", "other"] :=
  ⟨f, _, fun_mk l c k, PySem.W.mg_of X G a, (fun_mk (st := s_middle) l c k).binds (ps := ["one", "other"]) fun _ _ _ _ _ _ us hl => match us, hl with | [_, _], _ => rfl⟩
theorem dfn_are_neighbours (X : K.In h) (G : h.Ns mainGlobals mg) {f : Addr} {od an : Option Addr} {sl : Array (Option Value)} {oc kV dc pm cd ct : Value} (a : PySem.W.nsIn K mainGlobals "are_neighbours" = some (some (.ref f))) (l : K.lookup f = some ⟨oc, od, .func (PySem.W.fnOf "are_neighbours" "are_neighbours" (defArgs s_are_neighbours) (defBody s_are_neighbours) (defScope s_are_neighbours) .none kV dc pm an cd ct), sl⟩) (c : PySem.W.codeIn K cd "are_neighbours" = true) (k : PySem.W.keepIn K (.ref f) = true) : Dfn K mg "are_neighbours" "are_neighbours" s_are_neighbours ["one", "other"] :=
  ⟨f, _, fun_mk l c k, PySem.W.mg_of X G a, (fun_mk (st := s_are_neighbours) l c k).binds (ps := ["one", "other"]) fun _ _ _ _ _ _ us hl => match us, hl with | [_, _], _ => rfl⟩
theorem dfn__steps (X : K.In h) (G : h.Ns mainGlobals mg) {f : Addr} {od an : Option Addr} {sl : Array (Option Value)} {oc kV dc pm cd ct : Value} (a : PySem.W.nsIn K mainGlobals "_steps" = some (some (.ref f))) (l : K.lookup f = some ⟨oc, od, .func (PySem.W.fnOf "_steps" "_steps" (defArgs s__steps) (defBody s__steps) (defScope s__steps) .none kV dc pm an cd ct), sl⟩) (c : PySem.W.codeIn K cd "_steps" = true) (k : PySem.W.keepIn K (.ref f) = true) : Dfn K mg "_steps" "_steps" s__steps ["left", "right", "one"] :=
  ⟨f, _, fun_mk l c k, PySem.W.mg_of X G a, (fun_mk (st := s__steps) l c k).binds (ps := ["left", "right", "one"]) fun _ _ _ _ _ _ us hl => match us, hl with | [_, _, _], _ => rfl⟩
theorem dfn__steps_down (X : K.In h) (G : h.Ns mainGlobals mg) {f : Addr} {od an : Option Addr} {sl : Array (Option Value)} {oc kV dc pm cd ct : Value} (a : PySem.W.nsIn K mainGlobals "_steps_down" = some (some (.ref f))) (l : K.lookup f = some ⟨oc, od, .func (PySem.W.fnOf "_steps_down" "_steps_down" (defArgs s__steps_down) (defBody s__steps_down) (defScope s__steps_down) .none kV dc pm an cd ct), sl⟩) (c : PySem.W.codeIn K cd "_steps_down" = true) (k : PySem.W.keepIn K (.ref f) = true) : Dfn K mg "_steps_down" "_steps_down" s__steps_down ["left", "right", "other"] :=
  ⟨f, _, fun_mk l c k, PySem.W.mg_of X G a, (fun_mk (st := s__steps_down) l c k).binds (ps := ["left", "right", "other"]) fun _ _ _ _ _ _ us hl => match us, hl with | [_, _, _], _ => rfl⟩
theorem dfn__plainest (X : K.In h) (G : h.Ns mainGlobals mg) {f : Addr} {od an : Option Addr} {sl : Array (Option Value)} {oc kV dc pm cd ct : Value} (a : PySem.W.nsIn K mainGlobals "_plainest" = some (some (.ref f))) (l : K.lookup f = some ⟨oc, od, .func (PySem.W.fnOf "_plainest" "_plainest" (defArgs s__plainest) (defBody s__plainest) (defScope s__plainest) .none kV dc pm an cd ct), sl⟩) (c : PySem.W.codeIn K cd "_plainest" = true) (k : PySem.W.keepIn K (.ref f) = true) : Dfn K mg "_plainest" "_plainest" s__plainest ["one", "other"] :=
  ⟨f, _, fun_mk l c k, PySem.W.mg_of X G a, (fun_mk (st := s__plainest) l c k).binds (ps := ["one", "other"]) fun _ _ _ _ _ _ us hl => match us, hl with | [_, _], _ => rfl⟩
theorem dfn_plainest (X : K.In h) (G : h.Ns mainGlobals mg) {f : Addr} {od an : Option Addr} {sl : Array (Option Value)} {oc kV dc pm cd ct : Value} (a : PySem.W.nsIn K mainGlobals "plainest" = some (some (.ref f))) (l : K.lookup f = some ⟨oc, od, .func (PySem.W.fnOf "plainest" "plainest" (defArgs s_plainest) (defBody s_plainest) (defScope s_plainest) .none kV dc pm an cd ct), sl⟩) (c : PySem.W.codeIn K cd "plainest" = true) (k : PySem.W.keepIn K (.ref f) = true) : Dfn K mg "plainest" "plainest" s_plainest ["low", "high"] :=
  ⟨f, _, fun_mk l c k, PySem.W.mg_of X G a, (fun_mk (st := s_plainest) l c k).binds (ps := ["low", "high"]) fun _ _ _ _ _ _ us hl => match us, hl with | [_, _], _ => rfl⟩
theorem dfn_row (X : K.In h) (G : h.Ns mainGlobals mg) {f : Addr} {od an : Option Addr} {sl : Array (Option Value)} {oc kV dc pm cd ct : Value} (a : PySem.W.nsIn K mainGlobals "row" = some (some (.ref f))) (l : K.lookup f = some ⟨oc, od, .func (PySem.W.fnOf "row" "row" (defArgs s_row) (defBody s_row) (defScope s_row) .none kV dc pm an cd ct), sl⟩) (c : PySem.W.codeIn K cd "row" = true) (k : PySem.W.keepIn K (.ref f) = true) : Dfn K mg "row" "row" s_row ["most"] :=
  ⟨f, _, fun_mk l c k, PySem.W.mg_of X G a, (fun_mk (st := s_row) l c k).binds (ps := ["most"]) fun _ _ _ _ _ _ us hl => match us, hl with | [_], _ => rfl⟩
theorem dfn__nearer (X : K.In h) (G : h.Ns mainGlobals mg) {f : Addr} {od an : Option Addr} {sl : Array (Option Value)} {oc kV dc pm cd ct : Value} (a : PySem.W.nsIn K mainGlobals "_nearer" = some (some (.ref f))) (l : K.lookup f = some ⟨oc, od, .func (PySem.W.fnOf "_nearer" "_nearer" (defArgs s__nearer) (defBody s__nearer) (defScope s__nearer) .none kV dc pm an cd ct), sl⟩) (c : PySem.W.codeIn K cd "_nearer" = true) (k : PySem.W.keepIn K (.ref f) = true) : Dfn K mg "_nearer" "_nearer" s__nearer ["pair", "low", "high"] :=
  ⟨f, _, fun_mk l c k, PySem.W.mg_of X G a, (fun_mk (st := s__nearer) l c k).binds (ps := ["pair", "low", "high"]) fun _ _ _ _ _ _ us hl => match us, hl with | [_, _, _], _ => rfl⟩
theorem dfn_nearest (X : K.In h) (G : h.Ns mainGlobals mg) {f : Addr} {od an : Option Addr} {sl : Array (Option Value)} {oc kV dc pm cd ct : Value} (a : PySem.W.nsIn K mainGlobals "nearest" = some (some (.ref f))) (l : K.lookup f = some ⟨oc, od, .func (PySem.W.fnOf "nearest" "nearest" (defArgs s_nearest) (defBody s_nearest) (defScope s_nearest) .none kV dc pm an cd ct), sl⟩) (c : PySem.W.codeIn K cd "nearest" = true) (k : PySem.W.keepIn K (.ref f) = true) : Dfn K mg "nearest" "nearest" s_nearest ["pair", "most"] :=
  ⟨f, _, fun_mk l c k, PySem.W.mg_of X G a, (fun_mk (st := s_nearest) l c k).binds (ps := ["pair", "most"]) fun _ _ _ _ _ _ us hl => match us, hl with | [_, _], _ => rfl⟩
theorem dfn_number_of (X : K.In h) (G : h.Ns mainGlobals mg) {f : Addr} {od an : Option Addr} {sl : Array (Option Value)} {oc kV dc pm cd ct : Value} (a : PySem.W.nsIn K mainGlobals "number_of" = some (some (.ref f))) (l : K.lookup f = some ⟨oc, od, .func (PySem.W.fnOf "number_of" "number_of" (defArgs s_number_of) (defBody s_number_of) (defScope s_number_of) .none kV dc pm an cd ct), sl⟩) (c : PySem.W.codeIn K cd "number_of" = true) (k : PySem.W.keepIn K (.ref f) = true) : Dfn K mg "number_of" "number_of" s_number_of ["pair"] :=
  ⟨f, _, fun_mk l c k, PySem.W.mg_of X G a, (fun_mk (st := s_number_of) l c k).binds (ps := ["pair"]) fun _ _ _ _ _ _ us hl => match us, hl with | [_], _ => rfl⟩
theorem dfn_at_number (X : K.In h) (G : h.Ns mainGlobals mg) {f : Addr} {od an : Option Addr} {sl : Array (Option Value)} {oc kV dc pm cd ct : Value} (a : PySem.W.nsIn K mainGlobals "at_number" = some (some (.ref f))) (l : K.lookup f = some ⟨oc, od, .func (PySem.W.fnOf "at_number" "at_number" (defArgs s_at_number) (defBody s_at_number) (defScope s_at_number) .none kV dc pm an cd ct), sl⟩) (c : PySem.W.codeIn K cd "at_number" = true) (k : PySem.W.keepIn K (.ref f) = true) : Dfn K mg "at_number" "at_number" s_at_number ["n"] :=
  ⟨f, _, fun_mk l c k, PySem.W.mg_of X G a, (fun_mk (st := s_at_number) l c k).binds (ps := ["n"]) fun _ _ _ _ _ _ us hl => match us, hl with | [_], _ => rfl⟩
theorem dfn_next_in_row (X : K.In h) (G : h.Ns mainGlobals mg) {f : Addr} {od an : Option Addr} {sl : Array (Option Value)} {oc kV dc pm cd ct : Value} (a : PySem.W.nsIn K mainGlobals "next_in_row" = some (some (.ref f))) (l : K.lookup f = some ⟨oc, od, .func (PySem.W.fnOf "next_in_row" "next_in_row" (defArgs s_next_in_row) (defBody s_next_in_row) (defScope s_next_in_row) .none kV dc pm an cd ct), sl⟩) (c : PySem.W.codeIn K cd "next_in_row" = true) (k : PySem.W.keepIn K (.ref f) = true) : Dfn K mg "next_in_row" "next_in_row" s_next_in_row ["pair"] :=
  ⟨f, _, fun_mk l c k, PySem.W.mg_of X G a, (fun_mk (st := s_next_in_row) l c k).binds (ps := ["pair"]) fun _ _ _ _ _ _ us hl => match us, hl with | [_], _ => rfl⟩
theorem dfn__law_cell (X : K.In h) (G : h.Ns mainGlobals mg) {f : Addr} {od an : Option Addr} {sl : Array (Option Value)} {oc kV dc pm cd ct : Value} (a : PySem.W.nsIn K mainGlobals "_law_cell" = some (some (.ref f))) (l : K.lookup f = some ⟨oc, od, .func (PySem.W.fnOf "_law_cell" "_law_cell" (defArgs s__law_cell) (defBody s__law_cell) (defScope s__law_cell) .none kV dc pm an cd ct), sl⟩) (c : PySem.W.codeIn K cd "_law_cell" = true) (k : PySem.W.keepIn K (.ref f) = true) : Dfn K mg "_law_cell" "_law_cell" s__law_cell ["script", "k"] :=
  ⟨f, _, fun_mk l c k, PySem.W.mg_of X G a, (fun_mk (st := s__law_cell) l c k).binds (ps := ["script", "k"]) fun _ _ _ _ _ _ us hl => match us, hl with | [_, _], _ => rfl⟩
theorem dfn__law_source (X : K.In h) (G : h.Ns mainGlobals mg) {f : Addr} {od an : Option Addr} {sl : Array (Option Value)} {oc kV dc pm cd ct : Value} (a : PySem.W.nsIn K mainGlobals "_law_source" = some (some (.ref f))) (l : K.lookup f = some ⟨oc, od, .func (PySem.W.fnOf "_law_source" "_law_source" (defArgs s__law_source) (defBody s__law_source) (defScope s__law_source) .none kV dc pm an cd ct), sl⟩) (c : PySem.W.codeIn K cd "_law_source" = true) (k : PySem.W.keepIn K (.ref f) = true) : Dfn K mg "_law_source" "_law_source" s__law_source ["cell", "k"] :=
  ⟨f, _, fun_mk l c k, PySem.W.mg_of X G a, (fun_mk (st := s__law_source) l c k).binds (ps := ["cell", "k"]) fun _ _ _ _ _ _ us hl => match us, hl with | [_, _], _ => rfl⟩
theorem dfn__law_pick (X : K.In h) (G : h.Ns mainGlobals mg) {f : Addr} {od an : Option Addr} {sl : Array (Option Value)} {oc kV dc pm cd ct : Value} (a : PySem.W.nsIn K mainGlobals "_law_pick" = some (some (.ref f))) (l : K.lookup f = some ⟨oc, od, .func (PySem.W.fnOf "_law_pick" "_law_pick" (defArgs s__law_pick) (defBody s__law_pick) (defScope s__law_pick) .none kV dc pm an cd ct), sl⟩) (c : PySem.W.codeIn K cd "_law_pick" = true) (k : PySem.W.keepIn K (.ref f) = true) : Dfn K mg "_law_pick" "_law_pick" s__law_pick ["source", "many"] :=
  ⟨f, _, fun_mk l c k, PySem.W.mg_of X G a, (fun_mk (st := s__law_pick) l c k).binds (ps := ["source", "many"]) fun _ _ _ _ _ _ us hl => match us, hl with | [_, _], _ => rfl⟩
theorem dfn__law_same (X : K.In h) (G : h.Ns mainGlobals mg) {f : Addr} {od an : Option Addr} {sl : Array (Option Value)} {oc kV dc pm cd ct : Value} (a : PySem.W.nsIn K mainGlobals "_law_same" = some (some (.ref f))) (l : K.lookup f = some ⟨oc, od, .func (PySem.W.fnOf "_law_same" "_law_same" (defArgs s__law_same) (defBody s__law_same) (defScope s__law_same) .none kV dc pm an cd ct), sl⟩) (c : PySem.W.codeIn K cd "_law_same" = true) (k : PySem.W.keepIn K (.ref f) = true) : Dfn K mg "_law_same" "_law_same" s__law_same ["told", "due"] :=
  ⟨f, _, fun_mk l c k, PySem.W.mg_of X G a, (fun_mk (st := s__law_same) l c k).binds (ps := ["told", "due"]) fun _ _ _ _ _ _ us hl => match us, hl with | [_, _], _ => rfl⟩
theorem dfn__law_all_same (X : K.In h) (G : h.Ns mainGlobals mg) {f : Addr} {od an : Option Addr} {sl : Array (Option Value)} {oc kV dc pm cd ct : Value} (a : PySem.W.nsIn K mainGlobals "_law_all_same" = some (some (.ref f))) (l : K.lookup f = some ⟨oc, od, .func (PySem.W.fnOf "_law_all_same" "_law_all_same" (defArgs s__law_all_same) (defBody s__law_all_same) (defScope s__law_all_same) .none kV dc pm an cd ct), sl⟩) (c : PySem.W.codeIn K cd "_law_all_same" = true) (k : PySem.W.keepIn K (.ref f) = true) : Dfn K mg "_law_all_same" "_law_all_same" s__law_all_same ["rows"] :=
  ⟨f, _, fun_mk l c k, PySem.W.mg_of X G a, (fun_mk (st := s__law_all_same) l c k).binds (ps := ["rows"]) fun _ _ _ _ _ _ us hl => match us, hl with | [_], _ => rfl⟩
theorem dfn__law_shared (X : K.In h) (G : h.Ns mainGlobals mg) {f : Addr} {od an : Option Addr} {sl : Array (Option Value)} {oc kV dc pm cd ct : Value} (a : PySem.W.nsIn K mainGlobals "_law_shared" = some (some (.ref f))) (l : K.lookup f = some ⟨oc, od, .func (PySem.W.fnOf "_law_shared" "_law_shared" (defArgs s__law_shared) (defBody s__law_shared) (defScope s__law_shared) .none kV dc pm an cd ct), sl⟩) (c : PySem.W.codeIn K cd "_law_shared" = true) (k : PySem.W.keepIn K (.ref f) = true) : Dfn K mg "_law_shared" "_law_shared" s__law_shared ["one", "other"] :=
  ⟨f, _, fun_mk l c k, PySem.W.mg_of X G a, (fun_mk (st := s__law_shared) l c k).binds (ps := ["one", "other"]) fun _ _ _ _ _ _ us hl => match us, hl with | [_, _], _ => rfl⟩
theorem dfn__law_low (X : K.In h) (G : h.Ns mainGlobals mg) {f : Addr} {od an : Option Addr} {sl : Array (Option Value)} {oc kV dc pm cd ct : Value} (a : PySem.W.nsIn K mainGlobals "_law_low" = some (some (.ref f))) (l : K.lookup f = some ⟨oc, od, .func (PySem.W.fnOf "_law_low" "_law_low" (defArgs s__law_low) (defBody s__law_low) (defScope s__law_low) .none kV dc pm an cd ct), sl⟩) (c : PySem.W.codeIn K cd "_law_low" = true) (k : PySem.W.keepIn K (.ref f) = true) : Dfn K mg "_law_low" "_law_low" s__law_low ["number", "under"] :=
  ⟨f, _, fun_mk l c k, PySem.W.mg_of X G a, (fun_mk (st := s__law_low) l c k).binds (ps := ["number", "under"]) fun _ _ _ _ _ _ us hl => match us, hl with | [_, _], _ => rfl⟩
theorem dfn__law_power (X : K.In h) (G : h.Ns mainGlobals mg) {f : Addr} {od an : Option Addr} {sl : Array (Option Value)} {oc kV dc pm cd ct : Value} (a : PySem.W.nsIn K mainGlobals "_law_power" = some (some (.ref f))) (l : K.lookup f = some ⟨oc, od, .func (PySem.W.fnOf "_law_power" "_law_power" (defArgs s__law_power) (defBody s__law_power) (defScope s__law_power) .none kV dc pm an cd ct), sl⟩) (c : PySem.W.codeIn K cd "_law_power" = true) (k : PySem.W.keepIn K (.ref f) = true) : Dfn K mg "_law_power" "_law_power" s__law_power ["base", "e"] :=
  ⟨f, _, fun_mk l c k, PySem.W.mg_of X G a, (fun_mk (st := s__law_power) l c k).binds (ps := ["base", "e"]) fun _ _ _ _ _ _ us hl => match us, hl with | [_, _], _ => rfl⟩
theorem dfn__law_way (X : K.In h) (G : h.Ns mainGlobals mg) {f : Addr} {od an : Option Addr} {sl : Array (Option Value)} {oc kV dc pm cd ct : Value} (a : PySem.W.nsIn K mainGlobals "_law_way" = some (some (.ref f))) (l : K.lookup f = some ⟨oc, od, .func (PySem.W.fnOf "_law_way" "_law_way" (defArgs s__law_way) (defBody s__law_way) (defScope s__law_way) .none kV dc pm an cd ct), sl⟩) (c : PySem.W.codeIn K cd "_law_way" = true) (k : PySem.W.keepIn K (.ref f) = true) : Dfn K mg "_law_way" "_law_way" s__law_way ["number", "under"] :=
  ⟨f, _, fun_mk l c k, PySem.W.mg_of X G a, (fun_mk (st := s__law_way) l c k).binds (ps := ["number", "under"]) fun _ _ _ _ _ _ us hl => match us, hl with | [_, _], _ => rfl⟩
theorem dfn__law_of_quotients (X : K.In h) (G : h.Ns mainGlobals mg) {f : Addr} {od an : Option Addr} {sl : Array (Option Value)} {oc kV dc pm cd ct : Value} (a : PySem.W.nsIn K mainGlobals "_law_of_quotients" = some (some (.ref f))) (l : K.lookup f = some ⟨oc, od, .func (PySem.W.fnOf "_law_of_quotients" "_law_of_quotients" (defArgs s__law_of_quotients) (defBody s__law_of_quotients) (defScope s__law_of_quotients) .none kV dc pm an cd ct), sl⟩) (c : PySem.W.codeIn K cd "_law_of_quotients" = true) (k : PySem.W.keepIn K (.ref f) = true) : Dfn K mg "_law_of_quotients" "_law_of_quotients" s__law_of_quotients ["quotients"] :=
  ⟨f, _, fun_mk l c k, PySem.W.mg_of X G a, (fun_mk (st := s__law_of_quotients) l c k).binds (ps := ["quotients"]) fun _ _ _ _ _ _ us hl => match us, hl with | [_], _ => rfl⟩
theorem dfn__law_plain (X : K.In h) (G : h.Ns mainGlobals mg) {f : Addr} {od an : Option Addr} {sl : Array (Option Value)} {oc kV dc pm cd ct : Value} (a : PySem.W.nsIn K mainGlobals "_law_plain" = some (some (.ref f))) (l : K.lookup f = some ⟨oc, od, .func (PySem.W.fnOf "_law_plain" "_law_plain" (defArgs s__law_plain) (defBody s__law_plain) (defScope s__law_plain) .none kV dc pm an cd ct), sl⟩) (c : PySem.W.codeIn K cd "_law_plain" = true) (k : PySem.W.keepIn K (.ref f) = true) : Dfn K mg "_law_plain" "_law_plain" s__law_plain ["low", "high"] :=
  ⟨f, _, fun_mk l c k, PySem.W.mg_of X G a, (fun_mk (st := s__law_plain) l c k).binds (ps := ["low", "high"]) fun _ _ _ _ _ _ us hl => match us, hl with | [_, _], _ => rfl⟩
theorem dfn__law_ways_right (X : K.In h) (G : h.Ns mainGlobals mg) {f : Addr} {od an : Option Addr} {sl : Array (Option Value)} {oc kV dc pm cd ct : Value} (a : PySem.W.nsIn K mainGlobals "_law_ways_right" = some (some (.ref f))) (l : K.lookup f = some ⟨oc, od, .func (PySem.W.fnOf "_law_ways_right" "_law_ways_right" (defArgs s__law_ways_right) (defBody s__law_ways_right) (defScope s__law_ways_right) .none kV dc pm an cd ct), sl⟩) (c : PySem.W.codeIn K cd "_law_ways_right" = true) (k : PySem.W.keepIn K (.ref f) = true) : Dfn K mg "_law_ways_right" "_law_ways_right" s__law_ways_right ["source"] :=
  ⟨f, _, fun_mk l c k, PySem.W.mg_of X G a, (fun_mk (st := s__law_ways_right) l c k).binds (ps := ["source"]) fun _ _ _ _ _ _ us hl => match us, hl with | [_], _ => rfl⟩
theorem dfn__law_rows_right (X : K.In h) (G : h.Ns mainGlobals mg) {f : Addr} {od an : Option Addr} {sl : Array (Option Value)} {oc kV dc pm cd ct : Value} (a : PySem.W.nsIn K mainGlobals "_law_rows_right" = some (some (.ref f))) (l : K.lookup f = some ⟨oc, od, .func (PySem.W.fnOf "_law_rows_right" "_law_rows_right" (defArgs s__law_rows_right) (defBody s__law_rows_right) (defScope s__law_rows_right) .none kV dc pm an cd ct), sl⟩) (c : PySem.W.codeIn K cd "_law_rows_right" = true) (k : PySem.W.keepIn K (.ref f) = true) : Dfn K mg "_law_rows_right" "_law_rows_right" s__law_rows_right ["source"] :=
  ⟨f, _, fun_mk l c k, PySem.W.mg_of X G a, (fun_mk (st := s__law_rows_right) l c k).binds (ps := ["source"]) fun _ _ _ _ _ _ us hl => match us, hl with | [_], _ => rfl⟩
theorem dfn__law_fractions_right (X : K.In h) (G : h.Ns mainGlobals mg) {f : Addr} {od an : Option Addr} {sl : Array (Option Value)} {oc kV dc pm cd ct : Value} (a : PySem.W.nsIn K mainGlobals "_law_fractions_right" = some (some (.ref f))) (l : K.lookup f = some ⟨oc, od, .func (PySem.W.fnOf "_law_fractions_right" "_law_fractions_right" (defArgs s__law_fractions_right) (defBody s__law_fractions_right) (defScope s__law_fractions_right) .none kV dc pm an cd ct), sl⟩) (c : PySem.W.codeIn K cd "_law_fractions_right" = true) (k : PySem.W.keepIn K (.ref f) = true) : Dfn K mg "_law_fractions_right" "_law_fractions_right" s__law_fractions_right ["source"] :=
  ⟨f, _, fun_mk l c k, PySem.W.mg_of X G a, (fun_mk (st := s__law_fractions_right) l c k).binds (ps := ["source"]) fun _ _ _ _ _ _ us hl => match us, hl with | [_], _ => rfl⟩
theorem dfn__law_right (X : K.In h) (G : h.Ns mainGlobals mg) {f : Addr} {od an : Option Addr} {sl : Array (Option Value)} {oc kV dc pm cd ct : Value} (a : PySem.W.nsIn K mainGlobals "_law_right" = some (some (.ref f))) (l : K.lookup f = some ⟨oc, od, .func (PySem.W.fnOf "_law_right" "_law_right" (defArgs s__law_right) (defBody s__law_right) (defScope s__law_right) .none kV dc pm an cd ct), sl⟩) (c : PySem.W.codeIn K cd "_law_right" = true) (k : PySem.W.keepIn K (.ref f) = true) : Dfn K mg "_law_right" "_law_right" s__law_right ["source"] :=
  ⟨f, _, fun_mk l c k, PySem.W.mg_of X G a, (fun_mk (st := s__law_right) l c k).binds (ps := ["source"]) fun _ _ _ _ _ _ us hl => match us, hl with | [_], _ => rfl⟩
end
theorem glob_of {mg : Str → Option Value} {n : Str} {i j : Int} {t : Tok} (h : mg n = some (.int i t)) (e : decide (i = j) = true) : ∃ t, mg n = some (.int j t) := ⟨t, by rw [h, of_decide_eq_true e]⟩
def spScript (K : PySem.W.Frag) : Sp := fun vs H Q _ => ∃ (a : Addr) (ns : List Int), vs = [.ref a] ∧ SqL K H a (ns.map V.int) ∧ ns.length ≤ 63 ∧ ∀ H', Q (.bl true) H'
theorem rl_ints {K : PySem.W.Frag} {H : Hp} {B C : Addr → Prop} : ∀ ns : List Int, RL K H B C (ns.map PV.int) (ns.map V.int)
  | [] => .nil
  | n :: ns => .cons (.int n) (rl_ints ns)
theorem script_ok {K : PySem.W.Frag} : ∀ vs H Q E, spScript K vs H Q E → spOf K sp_law vs H Q E := fun vs H Q E ⟨a, ns, e, hS, hl, hq⟩ => by
  subst e
  have go : ∀ w : PV, isScript w ns → R K H (fun _ => False) (fun _ => False) w (.ref a) → spOf K sp_law [.ref a] H Q E := fun w hw hr =>
    ⟨fun _ => False, fun _ => False, fun _ => none, [w], fun p _ => p = .bl true, fun _ h => h, fun _ h => h.elim, fun _ => ⟨fun h => h.elim, fun _ => rfl⟩, .cons hr .nil, ⟨ns, hw, hl, fun _ => rfl, rfl⟩, fun p M' v H' h _ r _ => by
      subst h
      cases r
      exact hq H'⟩
  rcases hS with (h | h) | h
  · exact go _ (.inl rfl) (.lst ⟨h, fun z => z⟩ (rl_ints ns))
  · exact go _ (.inr rfl) (.fro (.inl h) (rl_ints ns))
  · exact go _ (.inr rfl) (.fro (.inr h) (rl_ints ns))
set_option maxHeartbeats 0 in
theorem law_of {P : Program} {w : World} {K : PySem.W.Frag} {mg : Str → Option Value} {base : Heap} {f : Addr} {fd : FuncData} (F : Fun K "law" "law" s_law f fd) (T : Txt mg) (D_power : Dfn K mg "power" "power" s_power ["base", "e"]) (D_checked : Dfn K mg "checked" "checked" s_checked ["n"]) (D_shared : Dfn K mg "shared" "shared" s_shared ["one", "other"]) (D_log_of : Dfn K mg "log_of" "log_of" s_log_of ["base", "n"]) (D_root_of : Dfn K mg "root_of" "root_of" s_root_of ["n", "k"]) (D_fraction : Dfn K mg "fraction" "fraction" s_fraction ["number", "under"]) (D_is_fraction : Dfn K mg "is_fraction" "is_fraction" s_is_fraction ["pair"]) (D_known : Dfn K mg "known" "known" s_known ["pair"]) (D_plus : Dfn K mg "plus" "plus" s_plus ["one", "other"]) (D_minus : Dfn K mg "minus" "minus" s_minus ["one", "other"]) (D_times : Dfn K mg "times" "times" s_times ["one", "other"]) (D_over : Dfn K mg "over" "over" s_over ["one", "other"]) (D_compared : Dfn K mg "compared" "compared" s_compared ["one", "other"]) (D_above_zero : Dfn K mg "above_zero" "above_zero" s_above_zero ["pair"]) (D_way_to : Dfn K mg "way_to" "way_to" s_way_to ["pair"]) (D_check_way : Dfn K mg "check_way" "check_way" s_check_way ["way"]) (D_end_of : Dfn K mg "end_of" "end_of" s_end_of ["way"]) (D_sides : Dfn K mg "sides" "sides" s_sides ["way"]) (D_depth : Dfn K mg "depth" "depth" s_depth ["pair"]) (D_middle : Dfn K mg "middle" "middle" s_middle ["one", "other"]) (D_are_neighbours : Dfn K mg "are_neighbours" "are_neighbours" s_are_neighbours ["one", "other"]) (D__steps : Dfn K mg "_steps" "_steps" s__steps ["left", "right", "one"]) (D__steps_down : Dfn K mg "_steps_down" "_steps_down" s__steps_down ["left", "right", "other"]) (D__plainest : Dfn K mg "_plainest" "_plainest" s__plainest ["one", "other"]) (D_plainest : Dfn K mg "plainest" "plainest" s_plainest ["low", "high"]) (D_row : Dfn K mg "row" "row" s_row ["most"]) (D__nearer : Dfn K mg "_nearer" "_nearer" s__nearer ["pair", "low", "high"]) (D_nearest : Dfn K mg "nearest" "nearest" s_nearest ["pair", "most"]) (D_number_of : Dfn K mg "number_of" "number_of" s_number_of ["pair"]) (D_at_number : Dfn K mg "at_number" "at_number" s_at_number ["n"]) (D_next_in_row : Dfn K mg "next_in_row" "next_in_row" s_next_in_row ["pair"]) (D__law_cell : Dfn K mg "_law_cell" "_law_cell" s__law_cell ["script", "k"]) (D__law_source : Dfn K mg "_law_source" "_law_source" s__law_source ["cell", "k"]) (D__law_pick : Dfn K mg "_law_pick" "_law_pick" s__law_pick ["source", "many"]) (D__law_same : Dfn K mg "_law_same" "_law_same" s__law_same ["told", "due"]) (D__law_all_same : Dfn K mg "_law_all_same" "_law_all_same" s__law_all_same ["rows"]) (D__law_shared : Dfn K mg "_law_shared" "_law_shared" s__law_shared ["one", "other"]) (D__law_low : Dfn K mg "_law_low" "_law_low" s__law_low ["number", "under"]) (D__law_power : Dfn K mg "_law_power" "_law_power" s__law_power ["base", "e"]) (D__law_way : Dfn K mg "_law_way" "_law_way" s__law_way ["number", "under"]) (D__law_of_quotients : Dfn K mg "_law_of_quotients" "_law_of_quotients" s__law_of_quotients ["quotients"]) (D__law_plain : Dfn K mg "_law_plain" "_law_plain" s__law_plain ["low", "high"]) (D__law_ways_right : Dfn K mg "_law_ways_right" "_law_ways_right" s__law_ways_right ["source"]) (D__law_rows_right : Dfn K mg "_law_rows_right" "_law_rows_right" s__law_rows_right ["source"]) (D__law_fractions_right : Dfn K mg "_law_fractions_right" "_law_fractions_right" s__law_fractions_right ["source"]) (D__law_right : Dfn K mg "_law_right" "_law_right" s__law_right ["source"]) : FnOk P w K mg base CX0 78 f fd ["script"] (spOf K sp_law) := by
  have c_power : Cal P w K mg base 1 "power" ["base", "e"] sp_power := ok_power D_power T 
  have c_checked : Cal P w K mg base 1 "checked" ["n"] sp_checked := ok_checked D_checked T 
  have c_shared : Cal P w K mg base 1 "shared" ["one", "other"] sp_shared := ok_shared D_shared T 
  have c_log_of : Cal P w K mg base 1 "log_of" ["base", "n"] sp_log_of := ok_log_of D_log_of T 
  have c_root_of : Cal P w K mg base 2 "root_of" ["n", "k"] sp_root_of := ok_root_of D_root_of T c_power
  have c_fraction : Cal P w K mg base 2 "fraction" ["number", "under"] sp_fraction := ok_fraction D_fraction T c_shared c_checked
  have c_is_fraction : Cal P w K mg base 2 "is_fraction" ["pair"] sp_is_fraction := ok_is_fraction D_is_fraction T c_shared
  have c_known : Cal P w K mg base 3 "known" ["pair"] sp_known := ok_known D_known T c_is_fraction
  have c_plus : Cal P w K mg base 3 "plus" ["one", "other"] sp_plus := ok_plus D_plus T c_fraction
  have c_minus : Cal P w K mg base 3 "minus" ["one", "other"] sp_minus := ok_minus D_minus T c_fraction
  have c_times : Cal P w K mg base 3 "times" ["one", "other"] sp_times := ok_times D_times T c_fraction
  have c_over : Cal P w K mg base 3 "over" ["one", "other"] sp_over := ok_over D_over T c_fraction
  have c_compared : Cal P w K mg base 1 "compared" ["one", "other"] sp_compared := ok_compared D_compared T 
  have c_above_zero : Cal P w K mg base 4 "above_zero" ["pair"] sp_above_zero := ok_above_zero D_above_zero T c_known
  have c_way_to : Cal P w K mg base 5 "way_to" ["pair"] sp_way_to := ok_way_to D_way_to T c_above_zero
  have c_check_way : Cal P w K mg base 1 "check_way" ["way"] sp_check_way := ok_check_way D_check_way T 
  have c_end_of : Cal P w K mg base 2 "end_of" ["way"] sp_end_of := ok_end_of D_end_of T c_check_way
  have c_sides : Cal P w K mg base 2 "sides" ["way"] sp_sides := ok_sides D_sides T c_check_way
  have c_depth : Cal P w K mg base 6 "depth" ["pair"] sp_depth := ok_depth D_depth T c_way_to
  have c_middle : Cal P w K mg base 3 "middle" ["one", "other"] sp_middle := ok_middle D_middle T c_fraction
  have c_are_neighbours : Cal P w K mg base 1 "are_neighbours" ["one", "other"] sp_are_neighbours := ok_are_neighbours D_are_neighbours T 
  have c__steps : Cal P w K mg base 1 "_steps" ["left", "right", "one"] sp__steps := ok__steps D__steps T 
  have c__steps_down : Cal P w K mg base 1 "_steps_down" ["left", "right", "other"] sp__steps_down := ok__steps_down D__steps_down T 
  have c__plainest : Cal P w K mg base 2 "_plainest" ["one", "other"] sp__plainest := ok__plainest D__plainest T c_compared c__steps c__steps_down
  have c_plainest : Cal P w K mg base 5 "plainest" ["low", "high"] sp_plainest := ok_plainest D_plainest T c_above_zero c_compared c__plainest
  have c_row : Cal P w K mg base 1 "row" ["most"] sp_row := ok_row D_row T 
  have c__nearer : Cal P w K mg base 1 "_nearer" ["pair", "low", "high"] sp__nearer := ok__nearer D__nearer T 
  have c_nearest : Cal P w K mg base 4 "nearest" ["pair", "most"] sp_nearest := ok_nearest D_nearest T c_known c__nearer c_compared
  have c_number_of : Cal P w K mg base 6 "number_of" ["pair"] sp_number_of := ok_number_of D_number_of T c_way_to
  have c_at_number : Cal P w K mg base 1 "at_number" ["n"] sp_at_number := ok_at_number D_at_number T 
  have c_next_in_row : Cal P w K mg base 5 "next_in_row" ["pair"] sp_next_in_row := ok_next_in_row D_next_in_row T c_above_zero c_fraction
  have c__law_cell : Cal P w K mg base 1 "_law_cell" ["script", "k"] sp__law_cell := ok__law_cell D__law_cell T 
  have c__law_source : Cal P w K mg base 1 "_law_source" ["cell", "k"] sp__law_source := ok__law_source D__law_source T 
  have c__law_pick : Cal P w K mg base 1 "_law_pick" ["source", "many"] sp__law_pick := ok__law_pick D__law_pick T 
  have r0__law_same : Cal P w K mg base 0 "_law_same" ["told", "due"] (spr__law_same 0) := cal_none D__law_same no__law_same
  have r1__law_same : Cal P w K mg base 1 "_law_same" ["told", "due"] (spr__law_same 1) := ok__law_same D__law_same T (by decide) r0__law_same
  have r2__law_same : Cal P w K mg base 2 "_law_same" ["told", "due"] (spr__law_same 2) := ok__law_same D__law_same T (by decide) r1__law_same
  have r3__law_same : Cal P w K mg base 3 "_law_same" ["told", "due"] (spr__law_same 3) := ok__law_same D__law_same T (by decide) r2__law_same
  have r4__law_same : Cal P w K mg base 4 "_law_same" ["told", "due"] (spr__law_same 4) := ok__law_same D__law_same T (by decide) r3__law_same
  have r5__law_same : Cal P w K mg base 5 "_law_same" ["told", "due"] (spr__law_same 5) := ok__law_same D__law_same T (by decide) r4__law_same
  have r6__law_same : Cal P w K mg base 6 "_law_same" ["told", "due"] (spr__law_same 6) := ok__law_same D__law_same T (by decide) r5__law_same
  have c__law_same : Cal P w K mg base 6 "_law_same" ["told", "due"] sp__law_same := r6__law_same
  have c__law_all_same : Cal P w K mg base 7 "_law_all_same" ["rows"] sp__law_all_same := ok__law_all_same D__law_all_same T c__law_same
  have c__law_shared : Cal P w K mg base 1 "_law_shared" ["one", "other"] sp__law_shared := ok__law_shared D__law_shared T 
  have c__law_low : Cal P w K mg base 2 "_law_low" ["number", "under"] sp__law_low := ok__law_low D__law_low T c__law_shared
  have c__law_power : Cal P w K mg base 1 "_law_power" ["base", "e"] sp__law_power := ok__law_power D__law_power T 
  have c__law_way : Cal P w K mg base 1 "_law_way" ["number", "under"] sp__law_way := ok__law_way D__law_way T 
  have c__law_of_quotients : Cal P w K mg base 1 "_law_of_quotients" ["quotients"] sp__law_of_quotients := ok__law_of_quotients D__law_of_quotients T 
  have r0__law_plain : Cal P w K mg base 0 "_law_plain" ["low", "high"] (spr__law_plain 0) := cal_none D__law_plain no__law_plain
  have r1__law_plain : Cal P w K mg base 1 "_law_plain" ["low", "high"] (spr__law_plain 1) := ok__law_plain D__law_plain T (by decide) r0__law_plain
  have r2__law_plain : Cal P w K mg base 2 "_law_plain" ["low", "high"] (spr__law_plain 2) := ok__law_plain D__law_plain T (by decide) r1__law_plain
  have r3__law_plain : Cal P w K mg base 3 "_law_plain" ["low", "high"] (spr__law_plain 3) := ok__law_plain D__law_plain T (by decide) r2__law_plain
  have r4__law_plain : Cal P w K mg base 4 "_law_plain" ["low", "high"] (spr__law_plain 4) := ok__law_plain D__law_plain T (by decide) r3__law_plain
  have r5__law_plain : Cal P w K mg base 5 "_law_plain" ["low", "high"] (spr__law_plain 5) := ok__law_plain D__law_plain T (by decide) r4__law_plain
  have r6__law_plain : Cal P w K mg base 6 "_law_plain" ["low", "high"] (spr__law_plain 6) := ok__law_plain D__law_plain T (by decide) r5__law_plain
  have r7__law_plain : Cal P w K mg base 7 "_law_plain" ["low", "high"] (spr__law_plain 7) := ok__law_plain D__law_plain T (by decide) r6__law_plain
  have r8__law_plain : Cal P w K mg base 8 "_law_plain" ["low", "high"] (spr__law_plain 8) := ok__law_plain D__law_plain T (by decide) r7__law_plain
  have r9__law_plain : Cal P w K mg base 9 "_law_plain" ["low", "high"] (spr__law_plain 9) := ok__law_plain D__law_plain T (by decide) r8__law_plain
  have r10__law_plain : Cal P w K mg base 10 "_law_plain" ["low", "high"] (spr__law_plain 10) := ok__law_plain D__law_plain T (by decide) r9__law_plain
  have r11__law_plain : Cal P w K mg base 11 "_law_plain" ["low", "high"] (spr__law_plain 11) := ok__law_plain D__law_plain T (by decide) r10__law_plain
  have r12__law_plain : Cal P w K mg base 12 "_law_plain" ["low", "high"] (spr__law_plain 12) := ok__law_plain D__law_plain T (by decide) r11__law_plain
  have r13__law_plain : Cal P w K mg base 13 "_law_plain" ["low", "high"] (spr__law_plain 13) := ok__law_plain D__law_plain T (by decide) r12__law_plain
  have r14__law_plain : Cal P w K mg base 14 "_law_plain" ["low", "high"] (spr__law_plain 14) := ok__law_plain D__law_plain T (by decide) r13__law_plain
  have r15__law_plain : Cal P w K mg base 15 "_law_plain" ["low", "high"] (spr__law_plain 15) := ok__law_plain D__law_plain T (by decide) r14__law_plain
  have r16__law_plain : Cal P w K mg base 16 "_law_plain" ["low", "high"] (spr__law_plain 16) := ok__law_plain D__law_plain T (by decide) r15__law_plain
  have r17__law_plain : Cal P w K mg base 17 "_law_plain" ["low", "high"] (spr__law_plain 17) := ok__law_plain D__law_plain T (by decide) r16__law_plain
  have r18__law_plain : Cal P w K mg base 18 "_law_plain" ["low", "high"] (spr__law_plain 18) := ok__law_plain D__law_plain T (by decide) r17__law_plain
  have r19__law_plain : Cal P w K mg base 19 "_law_plain" ["low", "high"] (spr__law_plain 19) := ok__law_plain D__law_plain T (by decide) r18__law_plain
  have r20__law_plain : Cal P w K mg base 20 "_law_plain" ["low", "high"] (spr__law_plain 20) := ok__law_plain D__law_plain T (by decide) r19__law_plain
  have r21__law_plain : Cal P w K mg base 21 "_law_plain" ["low", "high"] (spr__law_plain 21) := ok__law_plain D__law_plain T (by decide) r20__law_plain
  have r22__law_plain : Cal P w K mg base 22 "_law_plain" ["low", "high"] (spr__law_plain 22) := ok__law_plain D__law_plain T (by decide) r21__law_plain
  have r23__law_plain : Cal P w K mg base 23 "_law_plain" ["low", "high"] (spr__law_plain 23) := ok__law_plain D__law_plain T (by decide) r22__law_plain
  have r24__law_plain : Cal P w K mg base 24 "_law_plain" ["low", "high"] (spr__law_plain 24) := ok__law_plain D__law_plain T (by decide) r23__law_plain
  have r25__law_plain : Cal P w K mg base 25 "_law_plain" ["low", "high"] (spr__law_plain 25) := ok__law_plain D__law_plain T (by decide) r24__law_plain
  have r26__law_plain : Cal P w K mg base 26 "_law_plain" ["low", "high"] (spr__law_plain 26) := ok__law_plain D__law_plain T (by decide) r25__law_plain
  have r27__law_plain : Cal P w K mg base 27 "_law_plain" ["low", "high"] (spr__law_plain 27) := ok__law_plain D__law_plain T (by decide) r26__law_plain
  have r28__law_plain : Cal P w K mg base 28 "_law_plain" ["low", "high"] (spr__law_plain 28) := ok__law_plain D__law_plain T (by decide) r27__law_plain
  have r29__law_plain : Cal P w K mg base 29 "_law_plain" ["low", "high"] (spr__law_plain 29) := ok__law_plain D__law_plain T (by decide) r28__law_plain
  have r30__law_plain : Cal P w K mg base 30 "_law_plain" ["low", "high"] (spr__law_plain 30) := ok__law_plain D__law_plain T (by decide) r29__law_plain
  have r31__law_plain : Cal P w K mg base 31 "_law_plain" ["low", "high"] (spr__law_plain 31) := ok__law_plain D__law_plain T (by decide) r30__law_plain
  have r32__law_plain : Cal P w K mg base 32 "_law_plain" ["low", "high"] (spr__law_plain 32) := ok__law_plain D__law_plain T (by decide) r31__law_plain
  have r33__law_plain : Cal P w K mg base 33 "_law_plain" ["low", "high"] (spr__law_plain 33) := ok__law_plain D__law_plain T (by decide) r32__law_plain
  have r34__law_plain : Cal P w K mg base 34 "_law_plain" ["low", "high"] (spr__law_plain 34) := ok__law_plain D__law_plain T (by decide) r33__law_plain
  have r35__law_plain : Cal P w K mg base 35 "_law_plain" ["low", "high"] (spr__law_plain 35) := ok__law_plain D__law_plain T (by decide) r34__law_plain
  have r36__law_plain : Cal P w K mg base 36 "_law_plain" ["low", "high"] (spr__law_plain 36) := ok__law_plain D__law_plain T (by decide) r35__law_plain
  have r37__law_plain : Cal P w K mg base 37 "_law_plain" ["low", "high"] (spr__law_plain 37) := ok__law_plain D__law_plain T (by decide) r36__law_plain
  have r38__law_plain : Cal P w K mg base 38 "_law_plain" ["low", "high"] (spr__law_plain 38) := ok__law_plain D__law_plain T (by decide) r37__law_plain
  have r39__law_plain : Cal P w K mg base 39 "_law_plain" ["low", "high"] (spr__law_plain 39) := ok__law_plain D__law_plain T (by decide) r38__law_plain
  have r40__law_plain : Cal P w K mg base 40 "_law_plain" ["low", "high"] (spr__law_plain 40) := ok__law_plain D__law_plain T (by decide) r39__law_plain
  have r41__law_plain : Cal P w K mg base 41 "_law_plain" ["low", "high"] (spr__law_plain 41) := ok__law_plain D__law_plain T (by decide) r40__law_plain
  have r42__law_plain : Cal P w K mg base 42 "_law_plain" ["low", "high"] (spr__law_plain 42) := ok__law_plain D__law_plain T (by decide) r41__law_plain
  have r43__law_plain : Cal P w K mg base 43 "_law_plain" ["low", "high"] (spr__law_plain 43) := ok__law_plain D__law_plain T (by decide) r42__law_plain
  have r44__law_plain : Cal P w K mg base 44 "_law_plain" ["low", "high"] (spr__law_plain 44) := ok__law_plain D__law_plain T (by decide) r43__law_plain
  have r45__law_plain : Cal P w K mg base 45 "_law_plain" ["low", "high"] (spr__law_plain 45) := ok__law_plain D__law_plain T (by decide) r44__law_plain
  have r46__law_plain : Cal P w K mg base 46 "_law_plain" ["low", "high"] (spr__law_plain 46) := ok__law_plain D__law_plain T (by decide) r45__law_plain
  have r47__law_plain : Cal P w K mg base 47 "_law_plain" ["low", "high"] (spr__law_plain 47) := ok__law_plain D__law_plain T (by decide) r46__law_plain
  have r48__law_plain : Cal P w K mg base 48 "_law_plain" ["low", "high"] (spr__law_plain 48) := ok__law_plain D__law_plain T (by decide) r47__law_plain
  have r49__law_plain : Cal P w K mg base 49 "_law_plain" ["low", "high"] (spr__law_plain 49) := ok__law_plain D__law_plain T (by decide) r48__law_plain
  have r50__law_plain : Cal P w K mg base 50 "_law_plain" ["low", "high"] (spr__law_plain 50) := ok__law_plain D__law_plain T (by decide) r49__law_plain
  have r51__law_plain : Cal P w K mg base 51 "_law_plain" ["low", "high"] (spr__law_plain 51) := ok__law_plain D__law_plain T (by decide) r50__law_plain
  have r52__law_plain : Cal P w K mg base 52 "_law_plain" ["low", "high"] (spr__law_plain 52) := ok__law_plain D__law_plain T (by decide) r51__law_plain
  have r53__law_plain : Cal P w K mg base 53 "_law_plain" ["low", "high"] (spr__law_plain 53) := ok__law_plain D__law_plain T (by decide) r52__law_plain
  have r54__law_plain : Cal P w K mg base 54 "_law_plain" ["low", "high"] (spr__law_plain 54) := ok__law_plain D__law_plain T (by decide) r53__law_plain
  have r55__law_plain : Cal P w K mg base 55 "_law_plain" ["low", "high"] (spr__law_plain 55) := ok__law_plain D__law_plain T (by decide) r54__law_plain
  have r56__law_plain : Cal P w K mg base 56 "_law_plain" ["low", "high"] (spr__law_plain 56) := ok__law_plain D__law_plain T (by decide) r55__law_plain
  have r57__law_plain : Cal P w K mg base 57 "_law_plain" ["low", "high"] (spr__law_plain 57) := ok__law_plain D__law_plain T (by decide) r56__law_plain
  have r58__law_plain : Cal P w K mg base 58 "_law_plain" ["low", "high"] (spr__law_plain 58) := ok__law_plain D__law_plain T (by decide) r57__law_plain
  have r59__law_plain : Cal P w K mg base 59 "_law_plain" ["low", "high"] (spr__law_plain 59) := ok__law_plain D__law_plain T (by decide) r58__law_plain
  have r60__law_plain : Cal P w K mg base 60 "_law_plain" ["low", "high"] (spr__law_plain 60) := ok__law_plain D__law_plain T (by decide) r59__law_plain
  have r61__law_plain : Cal P w K mg base 61 "_law_plain" ["low", "high"] (spr__law_plain 61) := ok__law_plain D__law_plain T (by decide) r60__law_plain
  have r62__law_plain : Cal P w K mg base 62 "_law_plain" ["low", "high"] (spr__law_plain 62) := ok__law_plain D__law_plain T (by decide) r61__law_plain
  have r63__law_plain : Cal P w K mg base 63 "_law_plain" ["low", "high"] (spr__law_plain 63) := ok__law_plain D__law_plain T (by decide) r62__law_plain
  have r64__law_plain : Cal P w K mg base 64 "_law_plain" ["low", "high"] (spr__law_plain 64) := ok__law_plain D__law_plain T (by decide) r63__law_plain
  have r65__law_plain : Cal P w K mg base 65 "_law_plain" ["low", "high"] (spr__law_plain 65) := ok__law_plain D__law_plain T (by decide) r64__law_plain
  have r66__law_plain : Cal P w K mg base 66 "_law_plain" ["low", "high"] (spr__law_plain 66) := ok__law_plain D__law_plain T (by decide) r65__law_plain
  have r67__law_plain : Cal P w K mg base 67 "_law_plain" ["low", "high"] (spr__law_plain 67) := ok__law_plain D__law_plain T (by decide) r66__law_plain
  have r68__law_plain : Cal P w K mg base 68 "_law_plain" ["low", "high"] (spr__law_plain 68) := ok__law_plain D__law_plain T (by decide) r67__law_plain
  have r69__law_plain : Cal P w K mg base 69 "_law_plain" ["low", "high"] (spr__law_plain 69) := ok__law_plain D__law_plain T (by decide) r68__law_plain
  have r70__law_plain : Cal P w K mg base 70 "_law_plain" ["low", "high"] (spr__law_plain 70) := ok__law_plain D__law_plain T (by decide) r69__law_plain
  have r71__law_plain : Cal P w K mg base 71 "_law_plain" ["low", "high"] (spr__law_plain 71) := ok__law_plain D__law_plain T (by decide) r70__law_plain
  have r72__law_plain : Cal P w K mg base 72 "_law_plain" ["low", "high"] (spr__law_plain 72) := ok__law_plain D__law_plain T (by decide) r71__law_plain
  have r73__law_plain : Cal P w K mg base 73 "_law_plain" ["low", "high"] (spr__law_plain 73) := ok__law_plain D__law_plain T (by decide) r72__law_plain
  have r74__law_plain : Cal P w K mg base 74 "_law_plain" ["low", "high"] (spr__law_plain 74) := ok__law_plain D__law_plain T (by decide) r73__law_plain
  have r75__law_plain : Cal P w K mg base 75 "_law_plain" ["low", "high"] (spr__law_plain 75) := ok__law_plain D__law_plain T (by decide) r74__law_plain
  have c__law_plain : Cal P w K mg base 75 "_law_plain" ["low", "high"] sp__law_plain := r75__law_plain
  have c__law_ways_right : Cal P w K mg base 76 "_law_ways_right" ["source"] sp__law_ways_right := ok__law_ways_right D__law_ways_right T c__law_pick c__law_of_quotients c__law_way c_way_to c_end_of c_sides c_depth c_next_in_row c__law_low c_are_neighbours c_number_of c_at_number c_plainest c__law_plain c_middle c__law_all_same
  have c__law_rows_right : Cal P w K mg base 8 "_law_rows_right" ["source"] sp__law_rows_right := ok__law_rows_right D__law_rows_right T c__law_pick c_row c_are_neighbours c__law_shared c__law_low c_nearest c__law_all_same
  have c__law_fractions_right : Cal P w K mg base 8 "_law_fractions_right" ["source"] sp__law_fractions_right := ok__law_fractions_right D__law_fractions_right T c__law_pick c__law_low c_plus c_minus c_times c_over c_compared c_fraction c_root_of c_log_of c__law_power c__law_all_same
  have c__law_right : Cal P w K mg base 77 "_law_right" ["source"] sp__law_right := ok__law_right D__law_right T c__law_ways_right c__law_rows_right c__law_fractions_right
  exact fn_law F T c__law_cell c__law_right c__law_source
theorem all_mk {l : PySem.W.OpenLaw} {w : World} {K : PySem.W.Frag} {h : Heap} {mg : Str → Option Value} {fa : Addr} (X : K.In h) (G : h.Ns mainGlobals mg) (hfa : mg "law" = some (.ref fa))
    {f : Addr} {od an : Option Addr} {sl : Array (Option Value)} {oc kV dc pm cd ct : Value} (a : PySem.W.nsIn K mainGlobals "law" = some (some (.ref f))) (lk : K.lookup f = some ⟨oc, od, .func (PySem.W.fnOf "law" "law" (defArgs s_law) (defBody s_law) (defScope s_law) .none kV dc pm an cd ct), sl⟩) (c : PySem.W.codeIn K cd "law" = true) (k : PySem.W.keepIn K (.ref f) = true)
    (T : Txt mg) (D_power : Dfn K mg "power" "power" s_power ["base", "e"]) (D_checked : Dfn K mg "checked" "checked" s_checked ["n"]) (D_shared : Dfn K mg "shared" "shared" s_shared ["one", "other"]) (D_log_of : Dfn K mg "log_of" "log_of" s_log_of ["base", "n"]) (D_root_of : Dfn K mg "root_of" "root_of" s_root_of ["n", "k"]) (D_fraction : Dfn K mg "fraction" "fraction" s_fraction ["number", "under"]) (D_is_fraction : Dfn K mg "is_fraction" "is_fraction" s_is_fraction ["pair"]) (D_known : Dfn K mg "known" "known" s_known ["pair"]) (D_plus : Dfn K mg "plus" "plus" s_plus ["one", "other"]) (D_minus : Dfn K mg "minus" "minus" s_minus ["one", "other"]) (D_times : Dfn K mg "times" "times" s_times ["one", "other"]) (D_over : Dfn K mg "over" "over" s_over ["one", "other"]) (D_compared : Dfn K mg "compared" "compared" s_compared ["one", "other"]) (D_above_zero : Dfn K mg "above_zero" "above_zero" s_above_zero ["pair"]) (D_way_to : Dfn K mg "way_to" "way_to" s_way_to ["pair"]) (D_check_way : Dfn K mg "check_way" "check_way" s_check_way ["way"]) (D_end_of : Dfn K mg "end_of" "end_of" s_end_of ["way"]) (D_sides : Dfn K mg "sides" "sides" s_sides ["way"]) (D_depth : Dfn K mg "depth" "depth" s_depth ["pair"]) (D_middle : Dfn K mg "middle" "middle" s_middle ["one", "other"]) (D_are_neighbours : Dfn K mg "are_neighbours" "are_neighbours" s_are_neighbours ["one", "other"]) (D__steps : Dfn K mg "_steps" "_steps" s__steps ["left", "right", "one"]) (D__steps_down : Dfn K mg "_steps_down" "_steps_down" s__steps_down ["left", "right", "other"]) (D__plainest : Dfn K mg "_plainest" "_plainest" s__plainest ["one", "other"]) (D_plainest : Dfn K mg "plainest" "plainest" s_plainest ["low", "high"]) (D_row : Dfn K mg "row" "row" s_row ["most"]) (D__nearer : Dfn K mg "_nearer" "_nearer" s__nearer ["pair", "low", "high"]) (D_nearest : Dfn K mg "nearest" "nearest" s_nearest ["pair", "most"]) (D_number_of : Dfn K mg "number_of" "number_of" s_number_of ["pair"]) (D_at_number : Dfn K mg "at_number" "at_number" s_at_number ["n"]) (D_next_in_row : Dfn K mg "next_in_row" "next_in_row" s_next_in_row ["pair"]) (D__law_cell : Dfn K mg "_law_cell" "_law_cell" s__law_cell ["script", "k"]) (D__law_source : Dfn K mg "_law_source" "_law_source" s__law_source ["cell", "k"]) (D__law_pick : Dfn K mg "_law_pick" "_law_pick" s__law_pick ["source", "many"]) (D__law_same : Dfn K mg "_law_same" "_law_same" s__law_same ["told", "due"]) (D__law_all_same : Dfn K mg "_law_all_same" "_law_all_same" s__law_all_same ["rows"]) (D__law_shared : Dfn K mg "_law_shared" "_law_shared" s__law_shared ["one", "other"]) (D__law_low : Dfn K mg "_law_low" "_law_low" s__law_low ["number", "under"]) (D__law_power : Dfn K mg "_law_power" "_law_power" s__law_power ["base", "e"]) (D__law_way : Dfn K mg "_law_way" "_law_way" s__law_way ["number", "under"]) (D__law_of_quotients : Dfn K mg "_law_of_quotients" "_law_of_quotients" s__law_of_quotients ["quotients"]) (D__law_plain : Dfn K mg "_law_plain" "_law_plain" s__law_plain ["low", "high"]) (D__law_ways_right : Dfn K mg "_law_ways_right" "_law_ways_right" s__law_ways_right ["source"]) (D__law_rows_right : Dfn K mg "_law_rows_right" "_law_rows_right" s__law_rows_right ["source"]) (D__law_fractions_right : Dfn K mg "_law_fractions_right" "_law_fractions_right" s__law_fractions_right ["source"]) (D__law_right : Dfn K mg "_law_right" "_law_right" s__law_right ["source"]) :
    ∃ fd : FuncData, (∀ (s : Shared) (v : Value), BindsTo s fd ⟨[v], []⟩ [("script", v)]) ∧ ∀ base : Heap, K.In base → base.Ns mainGlobals mg → FnOk l.prog w K mg base CX0 78 fa fd ["script"] (spScript K) := by
  have e := hfa.symm.trans (PySem.W.mg_of X G a)
  cases e
  exact ⟨_, fun s v => .of_eq rfl, fun base _ _ => (law_of (fun_mk lk c k) T D_power D_checked D_shared D_log_of D_root_of D_fraction D_is_fraction D_known D_plus D_minus D_times D_over D_compared D_above_zero D_way_to D_check_way D_end_of D_sides D_depth D_middle D_are_neighbours D__steps D__steps_down D__plainest D_plainest D_row D__nearer D_nearest D_number_of D_at_number D_next_in_row D__law_cell D__law_source D__law_pick D__law_same D__law_all_same D__law_shared D__law_low D__law_power D__law_way D__law_of_quotients D__law_plain D__law_ways_right D__law_rows_right D__law_fractions_right D__law_right).imp script_ok⟩
theorem walk {l : PySem.W.OpenLaw} {q : Program} {loose : List Str} {XP : (Str → Option Value) → Heap → Prop} {YP : World → Heap → Prop} {d : DefRec} {K : Params → PySem.W.Frag} (hn : l.most = some 63) (hdf : d.params.defaults = [])
    (hY : ∀ (w : World) (h : Heap), YP w h → (K w.params).In h)
    (F : ∀ (w : World) (mg : Str → Option Value) (fa : Addr) (h : Heap), (K w.params).In h → h.Ns mainGlobals mg → mg d.name = some (.ref fa) →
      ∃ fd : FuncData, (∀ (s : Shared) (u : Value), BindsTo s fd ⟨[u], []⟩ [("script", u)]) ∧ ∀ base : Heap, (K w.params).In base → base.Ns mainGlobals mg → FnOk l.prog w (K w.params) mg base CX0 78 fa fd ["script"] (spScript (K w.params))) :
    PySem.W.WalkO q loose XP YP l.row.toRowW d [] (fun f vs => PySem.call f vs) :=
  L2.walk_of (n := 63) (k := 78) (x := "script") (CX := fun _ => CX0) (sp := fun w => spScript (K w.params)) hn (by decide) hdf ⟨rfl, by decide, by decide⟩ hY F (fun _ _ a ns hl _ hS => ⟨a, ns, rfl, hS, hl, fun _ => rfl⟩) fun _ _ _ _ _ z => z
end Fl

open PySem PySem.W PyProof.Rows L2
set_option maxRecDepth 100000 in
set_option maxHeartbeats 0 in
theorem PySem.Challenge.cw_notewhole_k43_whole_ways_of_great_fracti_holds : PySem.Challenge.rw_notewhole_k43_whole_ways_of_great_fracti.Holds := by
  w_on; o_law; k_head; (case hw => w_witness2)
  k_fill
  refine Fl.walk (l := PySem.Challenge.rw_notewhole_k43_whole_ways_of_great_fracti) rfl rfl (fun w h Y => PySem.W.kIn_of Y) ?F
  case F =>
    intro w mg fa h KX G hmg
    refine' Fl.all_mk KX G hmg ?a ?l ?c ?k ?T ?D_power ?D_checked ?D_shared ?D_log_of ?D_root_of ?D_fraction ?D_is_fraction ?D_known ?D_plus ?D_minus ?D_times ?D_over ?D_compared ?D_above_zero ?D_way_to ?D_check_way ?D_end_of ?D_sides ?D_depth ?D_middle ?D_are_neighbours ?D__steps ?D__steps_down ?D__plainest ?D_plainest ?D_row ?D__nearer ?D_nearest ?D_number_of ?D_at_number ?D_next_in_row ?D__law_cell ?D__law_source ?D__law_pick ?D__law_same ?D__law_all_same ?D__law_shared ?D__law_low ?D__law_power ?D__law_way ?D__law_of_quotients ?D__law_plain ?D__law_ways_right ?D__law_rows_right ?D__law_fractions_right ?D__law_right
    (case a => k_is); (case l => k_is); (case c => k_is); (case k => k_is)
    case T =>
      refine' ⟨PySem.W.mg_none_of KX G ?z_abs, Fl.glob_of (PySem.W.mg_of KX G ?g_LIMIT) ?e_LIMIT, PySem.W.mg_none_of KX G ?z_len, PySem.W.mg_none_of KX G ?z_tuple, PySem.W.mg_none_of KX G ?z_any, PySem.W.mg_none_of KX G ?z_zip, PySem.W.mg_none_of KX G ?z_sum, Fl.glob_of (PySem.W.mg_of KX G ?g_MOST_STEPS) ?e_MOST_STEPS, PySem.W.mg_none_of KX G ?z_range, PySem.W.mg_none_of KX G ?z_reversed, PySem.W.mg_none_of KX G ?z_int, PySem.W.mg_none_of KX G ?z_isinstance, PySem.W.mg_none_of KX G ?z_list, PySem.W.mg_none_of KX G ?z_bool, PySem.W.mg_none_of KX G ?z_str, PySem.W.mg_none_of KX G ?z_min⟩
      (case z_abs => k_is)
      (case g_LIMIT => k_is); (case e_LIMIT => decide +kernel)
      (case z_len => k_is)
      (case z_tuple => k_is)
      (case z_any => k_is)
      (case z_zip => k_is)
      (case z_sum => k_is)
      (case g_MOST_STEPS => k_is); (case e_MOST_STEPS => decide +kernel)
      (case z_range => k_is)
      (case z_reversed => k_is)
      (case z_int => k_is)
      (case z_isinstance => k_is)
      (case z_list => k_is)
      (case z_bool => k_is)
      (case z_str => k_is)
      (case z_min => k_is)
    (case D_power => refine' Fl.dfn_power KX G ?a ?l ?c ?k; (case a => k_is); (case l => k_is); (case c => k_is); (case k => k_is))
    (case D_checked => refine' Fl.dfn_checked KX G ?a ?l ?c ?k; (case a => k_is); (case l => k_is); (case c => k_is); (case k => k_is))
    (case D_shared => refine' Fl.dfn_shared KX G ?a ?l ?c ?k; (case a => k_is); (case l => k_is); (case c => k_is); (case k => k_is))
    (case D_log_of => refine' Fl.dfn_log_of KX G ?a ?l ?c ?k; (case a => k_is); (case l => k_is); (case c => k_is); (case k => k_is))
    (case D_root_of => refine' Fl.dfn_root_of KX G ?a ?l ?c ?k; (case a => k_is); (case l => k_is); (case c => k_is); (case k => k_is))
    (case D_fraction => refine' Fl.dfn_fraction KX G ?a ?l ?c ?k; (case a => k_is); (case l => k_is); (case c => k_is); (case k => k_is))
    (case D_is_fraction => refine' Fl.dfn_is_fraction KX G ?a ?l ?c ?k; (case a => k_is); (case l => k_is); (case c => k_is); (case k => k_is))
    (case D_known => refine' Fl.dfn_known KX G ?a ?l ?c ?k; (case a => k_is); (case l => k_is); (case c => k_is); (case k => k_is))
    (case D_plus => refine' Fl.dfn_plus KX G ?a ?l ?c ?k; (case a => k_is); (case l => k_is); (case c => k_is); (case k => k_is))
    (case D_minus => refine' Fl.dfn_minus KX G ?a ?l ?c ?k; (case a => k_is); (case l => k_is); (case c => k_is); (case k => k_is))
    (case D_times => refine' Fl.dfn_times KX G ?a ?l ?c ?k; (case a => k_is); (case l => k_is); (case c => k_is); (case k => k_is))
    (case D_over => refine' Fl.dfn_over KX G ?a ?l ?c ?k; (case a => k_is); (case l => k_is); (case c => k_is); (case k => k_is))
    (case D_compared => refine' Fl.dfn_compared KX G ?a ?l ?c ?k; (case a => k_is); (case l => k_is); (case c => k_is); (case k => k_is))
    (case D_above_zero => refine' Fl.dfn_above_zero KX G ?a ?l ?c ?k; (case a => k_is); (case l => k_is); (case c => k_is); (case k => k_is))
    (case D_way_to => refine' Fl.dfn_way_to KX G ?a ?l ?c ?k; (case a => k_is); (case l => k_is); (case c => k_is); (case k => k_is))
    (case D_check_way => refine' Fl.dfn_check_way KX G ?a ?l ?c ?k; (case a => k_is); (case l => k_is); (case c => k_is); (case k => k_is))
    (case D_end_of => refine' Fl.dfn_end_of KX G ?a ?l ?c ?k; (case a => k_is); (case l => k_is); (case c => k_is); (case k => k_is))
    (case D_sides => refine' Fl.dfn_sides KX G ?a ?l ?c ?k; (case a => k_is); (case l => k_is); (case c => k_is); (case k => k_is))
    (case D_depth => refine' Fl.dfn_depth KX G ?a ?l ?c ?k; (case a => k_is); (case l => k_is); (case c => k_is); (case k => k_is))
    (case D_middle => refine' Fl.dfn_middle KX G ?a ?l ?c ?k; (case a => k_is); (case l => k_is); (case c => k_is); (case k => k_is))
    (case D_are_neighbours => refine' Fl.dfn_are_neighbours KX G ?a ?l ?c ?k; (case a => k_is); (case l => k_is); (case c => k_is); (case k => k_is))
    (case D__steps => refine' Fl.dfn__steps KX G ?a ?l ?c ?k; (case a => k_is); (case l => k_is); (case c => k_is); (case k => k_is))
    (case D__steps_down => refine' Fl.dfn__steps_down KX G ?a ?l ?c ?k; (case a => k_is); (case l => k_is); (case c => k_is); (case k => k_is))
    (case D__plainest => refine' Fl.dfn__plainest KX G ?a ?l ?c ?k; (case a => k_is); (case l => k_is); (case c => k_is); (case k => k_is))
    (case D_plainest => refine' Fl.dfn_plainest KX G ?a ?l ?c ?k; (case a => k_is); (case l => k_is); (case c => k_is); (case k => k_is))
    (case D_row => refine' Fl.dfn_row KX G ?a ?l ?c ?k; (case a => k_is); (case l => k_is); (case c => k_is); (case k => k_is))
    (case D__nearer => refine' Fl.dfn__nearer KX G ?a ?l ?c ?k; (case a => k_is); (case l => k_is); (case c => k_is); (case k => k_is))
    (case D_nearest => refine' Fl.dfn_nearest KX G ?a ?l ?c ?k; (case a => k_is); (case l => k_is); (case c => k_is); (case k => k_is))
    (case D_number_of => refine' Fl.dfn_number_of KX G ?a ?l ?c ?k; (case a => k_is); (case l => k_is); (case c => k_is); (case k => k_is))
    (case D_at_number => refine' Fl.dfn_at_number KX G ?a ?l ?c ?k; (case a => k_is); (case l => k_is); (case c => k_is); (case k => k_is))
    (case D_next_in_row => refine' Fl.dfn_next_in_row KX G ?a ?l ?c ?k; (case a => k_is); (case l => k_is); (case c => k_is); (case k => k_is))
    (case D__law_cell => refine' Fl.dfn__law_cell KX G ?a ?l ?c ?k; (case a => k_is); (case l => k_is); (case c => k_is); (case k => k_is))
    (case D__law_source => refine' Fl.dfn__law_source KX G ?a ?l ?c ?k; (case a => k_is); (case l => k_is); (case c => k_is); (case k => k_is))
    (case D__law_pick => refine' Fl.dfn__law_pick KX G ?a ?l ?c ?k; (case a => k_is); (case l => k_is); (case c => k_is); (case k => k_is))
    (case D__law_same => refine' Fl.dfn__law_same KX G ?a ?l ?c ?k; (case a => k_is); (case l => k_is); (case c => k_is); (case k => k_is))
    (case D__law_all_same => refine' Fl.dfn__law_all_same KX G ?a ?l ?c ?k; (case a => k_is); (case l => k_is); (case c => k_is); (case k => k_is))
    (case D__law_shared => refine' Fl.dfn__law_shared KX G ?a ?l ?c ?k; (case a => k_is); (case l => k_is); (case c => k_is); (case k => k_is))
    (case D__law_low => refine' Fl.dfn__law_low KX G ?a ?l ?c ?k; (case a => k_is); (case l => k_is); (case c => k_is); (case k => k_is))
    (case D__law_power => refine' Fl.dfn__law_power KX G ?a ?l ?c ?k; (case a => k_is); (case l => k_is); (case c => k_is); (case k => k_is))
    (case D__law_way => refine' Fl.dfn__law_way KX G ?a ?l ?c ?k; (case a => k_is); (case l => k_is); (case c => k_is); (case k => k_is))
    (case D__law_of_quotients => refine' Fl.dfn__law_of_quotients KX G ?a ?l ?c ?k; (case a => k_is); (case l => k_is); (case c => k_is); (case k => k_is))
    (case D__law_plain => refine' Fl.dfn__law_plain KX G ?a ?l ?c ?k; (case a => k_is); (case l => k_is); (case c => k_is); (case k => k_is))
    (case D__law_ways_right => refine' Fl.dfn__law_ways_right KX G ?a ?l ?c ?k; (case a => k_is); (case l => k_is); (case c => k_is); (case k => k_is))
    (case D__law_rows_right => refine' Fl.dfn__law_rows_right KX G ?a ?l ?c ?k; (case a => k_is); (case l => k_is); (case c => k_is); (case k => k_is))
    (case D__law_fractions_right => refine' Fl.dfn__law_fractions_right KX G ?a ?l ?c ?k; (case a => k_is); (case l => k_is); (case c => k_is); (case k => k_is))
    (case D__law_right => refine' Fl.dfn__law_right KX G ?a ?l ?c ?k; (case a => k_is); (case l => k_is); (case c => k_is); (case k => k_is))
