import PyProof.Rows.All
import Wide.All
import OpenK.AllK
import Wide.FinOn
import HandS.ForMost
import HandS.Zip
import HandS.Rev
import HandS.TupAny
import HandS.TupMul
import HandS.TupLe
import HandS.Conv
import HandS.Style
import HandS.Flow
import HandS.Walk
import HandS.Wide
import HandS.IsInst
import HandS.NoneIn
import PyProof.P3Eq
import PyProof.ListRange
import PyProof.ListNew
import KE.KRevIter
import HandS.RevTup
import KE.GoesZip
import KE.GoesMore
import HandS.SetFor
import PyProof.FitsBits
import PySem.Challenge.RW_notewhole_k00_whole_lists_of_digits
set_option Elab.async false
set_option linter.all false
set_option maxRecDepth 100000
/-! Fl: readings over plain values. PV: values without a heap; EV: a value, or a list that this frame alone holds and may change. -/
namespace Fl
open PySem PySem.Spec PyProof.Rows L2

inductive PV where
  | non | bl (b : Bool) | int (i : Int) | str (s : Str) | tup (xs : List PV) | lst (xs : List PV) | fro (xs : List PV) | cell (a : Addr) | xtp (xs : List PV)
inductive EV where
  | v (p : PV) | b (xs : List PV)
abbrev Fm := List (Option EV)
abbrev Sto := Addr → Option (List PV)
def gt : Fm → Nat → Option EV
  | [], _ => none
  | x :: _, 0 => x
  | _ :: r, n + 1 => gt r n
def st : Fm → Nat → Option EV → Fm
  | [], _, _ => []
  | _ :: r, 0, x => x :: r
  | y :: r, n + 1, x => y :: st r n x
theorem st_length : ∀ (f : Fm) (i : Nat) (x : Option EV), (st f i x).length = f.length
  | [], _, _ => rfl
  | _ :: _, 0, _ => rfl
  | _ :: r, n + 1, x => congrArg (· + 1) (st_length r n x)
theorem gt_lt : ∀ {f : Fm} {i : Nat} {x : EV}, gt f i = some x → i < f.length
  | [], _, _, h => nomatch h
  | _ :: _, 0, _, _ => Nat.succ_pos _
  | _ :: r, n + 1, _, h => Nat.succ_lt_succ (gt_lt (f := r) h)
theorem gt_st : ∀ {f : Fm} {i j : Nat} {x : Option EV} {y : EV}, gt (st f i x) j = some y → (j = i ∧ x = some y) ∨ (j ≠ i ∧ gt f j = some y)
  | [], _, _, _, _, h => nomatch h
  | _ :: _, 0, 0, _, _, h => .inl ⟨rfl, h⟩
  | _ :: _, 0, j + 1, _, _, h => .inr ⟨Nat.succ_ne_zero j, h⟩
  | _ :: _, i + 1, 0, _, _, h => .inr ⟨(Nat.succ_ne_zero i).symm, h⟩
  | _ :: r, i + 1, j + 1, x, y, h => by
    rcases gt_st (f := r) (i := i) (j := j) h with ⟨e, q⟩ | ⟨e, q⟩
    · exact .inl ⟨by rw [e], q⟩
    · exact .inr ⟨fun z => e (Nat.succ.inj z), q⟩

/-! ### a plain value stands for a value of the layer -/
/-- a list that nobody changes -/
def SqF (K : PySem.W.Frag) (H : Hp) (B : Addr → Prop) (a : Addr) (vs : List V) : Prop := H a = some (.lst vs) ∧ ¬ B a
theorem SqF.sq {K : PySem.W.Frag} {H : Hp} {B : Addr → Prop} {a : Addr} {vs : List V} (h : SqF K H B a vs) : SqL K H a vs := .inl (.inl h.1)
/-- a list that nobody can change: the script, a list of the module -/
def SqR (K : PySem.W.Frag) (H : Hp) (a : Addr) (vs : List V) : Prop :=
  (∃ o, H a = some (.frz o (.lst vs))) ∨
    ∃ (o : Obj) (its : Array Value) (n : Nat), K.lookup a = some o ∧ o.cls = .type "list" ∧ o.dict = none ∧ o.data = .seq its n ∧ its.size ≤ sizeLine ∧ Vals vs its.toList
theorem SqR.sq {K : PySem.W.Frag} {H : Hp} {a : Addr} {vs : List V} (h : SqR K H a vs) : SqL K H a vs := by
  rcases h with h | h
  · exact .inl (.inr h)
  · exact .inr h
/-- a tuple as it is laid: nothing but its items -/
def SqX (H : Hp) (a : Addr) (vs : List V) : Prop := ∃ o, H a = some (.frz o (.tup vs)) ∧ o.dict = none
theorem SqX.sq {K : PySem.W.Frag} {H : Hp} {a : Addr} {vs : List V} (h : SqX H a vs) : SqT K H a vs := let ⟨o, h, _⟩ := h; .inl (.inr ⟨o, h⟩)
mutual
/-- B: what may change; C: the lists that are handed by reference -/
inductive R (K : PySem.W.Frag) (H : Hp) (B C : Addr → Prop) : PV → V → Prop
  | non : R K H B C .non .non
  | bl (b : Bool) : R K H B C (.bl b) (.bl b)
  | int (i : Int) : R K H B C (.int i) (.int i)
  | str (s : Str) : R K H B C (.str s) (.str s)
  | tup {a : Addr} {vs : List V} {xs : List PV} : SqT K H a vs → RL K H B C xs vs → R K H B C (.tup xs) (.ref a)
  | lst {a : Addr} {vs : List V} {xs : List PV} : SqF K H B a vs → RL K H B C xs vs → R K H B C (.lst xs) (.ref a)
  | fro {a : Addr} {vs : List V} {xs : List PV} : SqR K H a vs → RL K H B C xs vs → R K H B C (.fro xs) (.ref a)
  | cell {a : Addr} : C a → R K H B C (.cell a) (.ref a)
  | xtp {a : Addr} {vs : List V} {xs : List PV} : SqX H a vs → RL K H B C xs vs → R K H B C (.xtp xs) (.ref a)
inductive RL (K : PySem.W.Frag) (H : Hp) (B C : Addr → Prop) : List PV → List V → Prop
  | nil : RL K H B C [] []
  | cons {x : PV} {v : V} {xs : List PV} {vs : List V} : R K H B C x v → RL K H B C xs vs → RL K H B C (x :: xs) (v :: vs)
end
/-- what was and may not change is still so, and nothing of it may change from now on -/
structure Evo (B B' : Addr → Prop) (H H' : Hp) : Prop where
  keep : ∀ a o, H a = some o → ¬ B a → H' a = some o
  safe : ∀ a o, H a = some o → ¬ B a → ¬ B' a
section
variable {K : PySem.W.Frag} {H H' H1 H2 : Hp} {B B' C : Addr → Prop} {a : Addr} {vs ws : List V} {xs ys : List PV} {x : PV} {v : V}
theorem Evo.refl : Evo B B H H := ⟨fun _ _ h _ => h, fun _ _ _ h => h⟩
theorem sqT_evo (mu : ∀ a, B a → Mut (H a)) (e : Evo B B' H H') (h : SqT K H a vs) : SqT K H' a vs := by
  rcases h with (h | ⟨o, h⟩) | h
  · exact .inl (.inl (e.keep _ _ h fun z => by have := mu _ z; rw [h] at this; exact this))
  · exact .inl (.inr ⟨o, e.keep _ _ h fun z => by have := mu _ z; rw [h] at this; exact this⟩)
  · exact .inr h
theorem sqF_evo (mu : ∀ a, B a → Mut (H a)) (e : Evo B B' H H') (h : SqF K H B a vs) : SqF K H' B' a vs := ⟨e.keep _ _ h.1 h.2, e.safe _ _ h.1 h.2⟩
theorem sqR_evo (mu : ∀ a, B a → Mut (H a)) (e : Evo B B' H H') (h : SqR K H a vs) : SqR K H' a vs := by
  rcases h with ⟨o, h⟩ | h
  · exact .inl ⟨o, e.keep _ _ h fun z => by have := mu _ z; rw [h] at this; exact this⟩
  · exact .inr h
theorem sqX_evo (mu : ∀ a, B a → Mut (H a)) (e : Evo B B' H H') (h : SqX H a vs) : SqX H' a vs := by
  obtain ⟨o, h, q⟩ := h
  exact ⟨o, e.keep _ _ h fun z => by have := mu _ z; rw [h] at this; exact this, q⟩
mutual
theorem R.evo (mu : ∀ a, B a → Mut (H a)) (e : Evo B B' H H') : ∀ {x : PV} {v : V}, R K H B C x v → R K H' B' C x v
  | _, _, .non => .non
  | _, _, .bl b => .bl b
  | _, _, .int i => .int i
  | _, _, .str s => .str s
  | _, _, .tup h t => .tup (sqT_evo mu e h) (RL.evo mu e t)
  | _, _, .lst h t => .lst (sqF_evo mu e h) (RL.evo mu e t)
  | _, _, .fro h t => .fro (sqR_evo mu e h) (RL.evo mu e t)
  | _, _, .cell h => .cell h
  | _, _, .xtp h t => .xtp (sqX_evo mu e h) (RL.evo mu e t)
theorem RL.evo (mu : ∀ a, B a → Mut (H a)) (e : Evo B B' H H') : ∀ {xs : List PV} {vs : List V}, RL K H B C xs vs → RL K H' B' C xs vs
  | _, _, .nil => .nil
  | _, _, .cons h t => .cons (R.evo mu e h) (RL.evo mu e t)
end
theorem sqF_weak (w : ∀ a, B' a → B a) (h : SqF K H B a vs) : SqF K H B' a vs := ⟨h.1, fun z => h.2 (w _ z)⟩
mutual
theorem R.weak (w : ∀ a, B' a → B a) : ∀ {x : PV} {v : V}, R K H B C x v → R K H B' C x v
  | _, _, .non => .non
  | _, _, .bl b => .bl b
  | _, _, .int i => .int i
  | _, _, .str s => .str s
  | _, _, .tup h t => .tup h (RL.weak w t)
  | _, _, .lst h t => .lst (sqF_weak w h) (RL.weak w t)
  | _, _, .fro h t => .fro h (RL.weak w t)
  | _, _, .cell h => .cell h
  | _, _, .xtp h t => .xtp h (RL.weak w t)
theorem RL.weak (w : ∀ a, B' a → B a) : ∀ {xs : List PV} {vs : List V}, RL K H B C xs vs → RL K H B' C xs vs
  | _, _, .nil => .nil
  | _, _, .cons h t => .cons (R.weak w h) (RL.weak w t)
end
theorem RL.length : ∀ {xs : List PV} {vs : List V}, RL K H B C xs vs → xs.length = vs.length
  | _, _, .nil => rfl
  | _, _, .cons _ t => congrArg (· + 1) (RL.length t)
theorem RL.get : ∀ {xs : List PV} {vs : List V} {i : Nat} {x : PV}, RL K H B C xs vs → xs[i]? = some x → ∃ v, vs[i]? = some v ∧ R K H B C x v
  | _, _, _, _, .nil, h => by simp at h
  | _, _, 0, _, .cons r _, h => by simp at h; subst h; exact ⟨_, rfl, r⟩
  | _, _, i + 1, x, .cons _ t, h => by
    obtain ⟨v, h1, h2⟩ := RL.get (i := i) (x := x) t (by simpa using h)
    exact ⟨v, by simpa using h1, h2⟩
theorem RL.get' : ∀ {xs : List PV} {vs : List V} {i : Nat} {v : V}, RL K H B C xs vs → vs[i]? = some v → ∃ x, xs[i]? = some x ∧ R K H B C x v
  | _, _, _, _, .nil, h => by simp at h
  | _, _, 0, _, .cons r _, h => by simp at h; subst h; exact ⟨_, rfl, r⟩
  | _, _, i + 1, v, .cons _ t, h => by
    obtain ⟨x, h1, h2⟩ := RL.get' (i := i) (v := v) t (by simpa using h)
    exact ⟨x, by simpa using h1, h2⟩
theorem RL.append : ∀ {xs ys : List PV} {vs ws : List V}, RL K H B C xs vs → RL K H B C ys ws → RL K H B C (xs ++ ys) (vs ++ ws)
  | _, _, _, _, .nil, s => s
  | _, _, _, _, .cons r t, s => .cons r (RL.append t s)
theorem RL.take : ∀ {xs : List PV} {vs : List V} (n : Nat), RL K H B C xs vs → RL K H B C (xs.take n) (vs.take n)
  | _, _, 0, _ => .nil
  | _, _, _ + 1, .nil => .nil
  | _, _, n + 1, .cons r t => .cons r (RL.take n t)
theorem RL.drop : ∀ {xs : List PV} {vs : List V} (n : Nat), RL K H B C xs vs → RL K H B C (xs.drop n) (vs.drop n)
  | _, _, 0, r => r
  | _, _, _ + 1, .nil => .nil
  | _, _, n + 1, .cons _ t => RL.drop n t
theorem RL.reverse : ∀ {xs : List PV} {vs : List V}, RL K H B C xs vs → RL K H B C xs.reverse vs.reverse
  | _, _, .nil => .nil
  | _, _, .cons r t => by
    rw [List.reverse_cons, List.reverse_cons]
    exact RL.append (RL.reverse t) (.cons r .nil)
theorem RL.set {x : PV} {v : V} (r : R K H B C x v) : ∀ {xs : List PV} {vs : List V} (i : Nat), RL K H B C xs vs → RL K H B C (xs.set i x) (vs.set i v)
  | _, _, _, .nil => .nil
  | _, _, 0, .cons _ t => .cons r t
  | _, _, i + 1, .cons q t => .cons q (RL.set r i t)
theorem RL.eraseIdx : ∀ {xs : List PV} {vs : List V} (i : Nat), RL K H B C xs vs → RL K H B C (xs.eraseIdx i) (vs.eraseIdx i)
  | _, _, _, .nil => .nil
  | _, _, 0, .cons _ t => t
  | _, _, i + 1, .cons q t => .cons q (RL.eraseIdx i t)
theorem RL.dropLast {xs : List PV} {vs : List V} (r : RL K H B C xs vs) : RL K H B C xs.dropLast vs.dropLast := by
  rw [List.dropLast_eq_take, List.dropLast_eq_take, r.length]
  exact r.take _
theorem RL.replicate {x : PV} {v : V} (r : R K H B C x v) : ∀ n : Nat, RL K H B C (List.replicate n x) (List.replicate n v)
  | 0 => .nil
  | n + 1 => .cons r (RL.replicate r n)
theorem RL.flat {xs : List PV} {vs : List V} (r : RL K H B C xs vs) : ∀ n : Nat, RL K H B C (List.replicate n xs).flatten (List.replicate n vs).flatten
  | 0 => .nil
  | n + 1 => by
    rw [List.replicate_succ, List.replicate_succ, List.flatten_cons, List.flatten_cons]
    exact r.append (RL.flat r n)
/-- lists of ints -/
theorem RL.ints : ∀ {ns : List Int} {vs : List V}, RL K H B C (ns.map PV.int) vs → vs = ns.map V.int
  | [], _, .nil => rfl
  | n :: ns, _, .cons r t => by
    cases r
    rw [RL.ints t]
    rfl
end
/-- of an expression: what is there stays, but the lists that are handed by reference -/
def EvC (C : Addr → Prop) (H H' : Hp) : Prop := ∀ a o, H a = some o → ¬ C a → H' a = some o
theorem EvC.refl {C : Addr → Prop} {H : Hp} : EvC C H H := fun _ _ h _ => h
theorem EvC.trans {C : Addr → Prop} {H H1 H2 : Hp} (a : EvC C H H1) (b : EvC C H1 H2) : EvC C H H2 := fun c o h n => b c o (a c o h n) n
theorem EvC.new {C : Addr → Prop} {H : Hp} {p : Addr} {o : HO} (h : H p = none) : EvC C H (upd H p o) := fun c u e _ => by
  rw [upd_ne (ne_of_none e h)]
  exact e
def Cells (K : PySem.W.Frag) (B C : Addr → Prop) (H : Hp) (M : Sto) : Prop :=
  ∀ a, (C a → ∃ xs vs, M a = some xs ∧ H a = some (.lst vs) ∧ RL K H B C xs vs) ∧ (¬ C a → M a = none)
/-- what is fixed while a def's body runs: the heap at its entry, what may change of it, what is handed by reference; and values that a loop walks -/
structure Gh where
  H0 : Hp
  B0 : Addr → Prop
  C : Addr → Prop
  pins : List (PV × V)
def RV (K : PySem.W.Frag) (G : Gh) (B : Addr → Prop) (H : Hp) : EV → V → Prop
  | .v p, v => R K H B G.C p v
  | .b xs, v => ∃ a vs, v = .ref a ∧ B a ∧ ¬ G.C a ∧ G.H0 a = none ∧ H a = some (.lst vs) ∧ RL K H B G.C xs vs
structure Rep (K : PySem.W.Frag) (G : Gh) (B : Addr → Prop) (f : Fm) (M : Sto) (σ : L2.St) (H : Hp) : Prop where
  len : f.length = σ.length
  slot : ∀ i x, gt f i = some x → ∃ v, σ[i]? = some (some v) ∧ RV K G B H x v
  sep : ∀ i j xs ys a, gt f i = some (.b xs) → gt f j = some (.b ys) → σ[i]? = some (some (.ref a)) → σ[j]? = some (some (.ref a)) → i = j
  cells : Cells K B G.C H M
  keep : EvC G.C G.H0 H
  mu : ∀ a, B a → Mut (H a)
  sub : ∀ a, G.C a → G.B0 a
  amb : ∀ a, G.B0 a → B a
  amb0 : ∀ a, G.B0 a → G.H0 a ≠ none
  pin : ∀ q ∈ G.pins, R K H B G.C q.1 q.2
section
variable {K : PySem.W.Frag} {G : Gh} {B B' : Addr → Prop} {f : Fm} {M : Sto} {σ : L2.St} {H H' : Hp} {a p : Addr} {vs : List V} {xs : List PV} {x : EV} {v : V} {o : HO}
theorem Rep.sb (r : Rep K G B f M σ H) : ∀ a, G.C a → B a := fun a h => r.amb a (r.sub a h)
/-- of an expression's evolution the rest follows -/
theorem EvC.evo (e : EvC G.C H H') (r : Rep K G B f M σ H) : Evo B B H H' := ⟨fun a o h n => e a o h fun z => n (r.sb a z), fun _ _ _ n => n⟩
theorem R.evc {x : PV} (h : R K H B G.C x v) (r : Rep K G B f M σ H) (e : EvC G.C H H') : R K H' B G.C x v := h.evo r.mu (e.evo r)
theorem RL.evc (h : RL K H B G.C xs vs) (r : Rep K G B f M σ H) (e : EvC G.C H H') : RL K H' B G.C xs vs := h.evo r.mu (e.evo r)
theorem RV.evc : ∀ {x : EV}, RV K G B H x v → Rep K G B f M σ H → EvC G.C H H' → RV K G B H' x v
  | .v _, h, r, e => R.evc h r e
  | .b _, ⟨a, vs, h1, h2, h3, h0, h4, h5⟩, r, e => ⟨a, vs, h1, h2, h3, h0, e _ _ h4 h3, h5.evc r e⟩
/-- nothing but new objects -/
theorem Rep.grow (r : Rep K G B f M σ H) (e : ∀ a o, H a = some o → H' a = some o) : Rep K G B f M σ H' := by
  have ec : EvC G.C H H' := fun a o h _ => e a o h
  refine ⟨r.len, fun i x h => ?_, r.sep, fun a => ⟨fun h => ?_, (r.cells a).2⟩, r.keep.trans ec, fun a h => ?_, r.sub, r.amb, r.amb0, fun q hq => (r.pin q hq).evc r ec⟩
  · obtain ⟨v, h1, h2⟩ := r.slot i x h
    exact ⟨v, h1, h2.evc r ec⟩
  · obtain ⟨xs, vs, h1, h2, h3⟩ := (r.cells a).1 h
    exact ⟨xs, vs, h1, e _ _ h2, h3.evc r ec⟩
  · have q := r.mu a h
    cases z : H a with
    | none => rw [z] at q; exact q.elim
    | some o => rw [e a o z, ← z]; exact q
theorem grow_new (h : H p = none) : ∀ a u, H a = some u → upd H p o a = some u := fun a u q => by
  rw [upd_ne (ne_of_none q h)]
  exact q
theorem Rep.new (r : Rep K G B f M σ H) (h : H p = none) : Rep K G B f M σ (upd H p o) := r.grow (grow_new h)
theorem Rep.nb (r : Rep K G B f M σ H) (h : H p = none) : ¬ B p := fun z => by
  have := r.mu p z
  rw [h] at this
  exact this
end

/-! ### judgements -/
abbrev FE := Fm → Sto → (EV → Sto → Prop) → Prop
abbrev FT := Fm → Sto → (Bool → Sto → Prop) → Prop
abbrev FA := Fm → Sto → (List EV → Sto → Prop) → Prop
def RVL (K : PySem.W.Frag) (G : Gh) (B : Addr → Prop) (H : Hp) : List EV → List V → Prop
  | [], [] => True
  | x :: xs, v :: vs => RV K G B H x v ∧ RVL K G B H xs vs
  | _, _ => False
theorem RVL.evc {K : PySem.W.Frag} {G : Gh} {B : Addr → Prop} {f : Fm} {M : Sto} {σ : L2.St} {H H' : Hp} : ∀ {xs : List EV} {vs : List V}, RVL K G B H xs vs → Rep K G B f M σ H → EvC G.C H H' → RVL K G B H' xs vs
  | [], [], _, _, _ => trivial
  | _ :: _, _ :: _, ⟨h, t⟩, r, e => ⟨h.evc r e, RVL.evc t r e⟩
def tE (K : PySem.W.Frag) (m : FE) : TE := fun σ H Q => ∃ G B f M Q', Rep K G B f M σ H ∧ m f M Q' ∧ ∀ x M' v H', Q' x M' → Rep K G B f M' σ H' → RV K G B H' x v → EvC G.C H H' → Q v H'
def tT (K : PySem.W.Frag) (m : FT) : TT := fun σ H Q => ∃ G B f M Q', Rep K G B f M σ H ∧ m f M Q' ∧ ∀ b M' H', Q' b M' → Rep K G B f M' σ H' → EvC G.C H H' → Q b H'
def tA (K : PySem.W.Frag) (n : Nat) (m : FA) : TA := fun σ H Q => ∃ G B f M Q', Rep K G B f M σ H ∧ m f M Q' ∧ ∀ xs M' vs H', Q' xs M' → xs.length = n → Rep K G B f M' σ H' → RVL K G B H' xs vs → EvC G.C H H' → Q vs H'
structure RE (X : Cx) (e : Expr) (m : FE) : Prop where
  pe : PE X e (tE X.K m)
structure RT (X : Cx) (e : Expr) (m : FT) : Prop where
  pt : PT X e (tT X.K m)
structure RW (X : Cx) (e : Expr) (m : FT) : Prop where
  pw : PW X e (tT X.K m)
structure RA (X : Cx) (es : List Expr) (m : FA) : Prop where
  pa : PA X es (tA X.K es.length m)
theorem _root_.L2.PE.imp {X : Cx} {e : Expr} {t t' : TE} (h : PE X e t) (w : ∀ σ H Q, t' σ H Q → t σ H Q) : PE X e t' := ⟨fun pins s σ H Q I q => h.run pins s σ H Q I (w σ H Q q)⟩
theorem _root_.L2.PT.imp {X : Cx} {e : Expr} {t t' : TT} (h : PT X e t) (w : ∀ σ H Q, t' σ H Q → t σ H Q) : PT X e t' := ⟨fun pins s σ H Q I q => h.run pins s σ H Q I (w σ H Q q)⟩
theorem _root_.L2.PW.imp {X : Cx} {e : Expr} {t t' : TT} (h : PW X e t) (w : ∀ σ H Q, t' σ H Q → t σ H Q) : PW X e t' := ⟨fun wh pins s σ H Q I q => h.run wh pins s σ H Q I (w σ H Q q)⟩
theorem _root_.L2.PA.imp {X : Cx} {es : List Expr} {t t' : TA} (h : PA X es t) (w : ∀ σ H Q, t' σ H Q → t σ H Q) : PA X es t' := ⟨fun p pins s σ H Q I q => h.run p pins s σ H Q I (w σ H Q q)⟩
section
variable {X : Cx} {e a b : Expr} {es : List Expr} {m ma mb : FE} {pos : Pos}
def eV (i : Nat) : FE := fun f M Q => match gt f i with
  | some x => Q x M
  | none => False
def eC (p : PV) : FE := fun _ M Q => Q (.v p) M
theorem re_var (i : Nat) {x : Str} {pos : Pos} (hN : X.N[i]? = some x := by rfl) (hv : Vis X.env.scope x := by first | exact Or.inl rfl | exact Or.inr (Or.inl rfl) | exact Or.inr (Or.inr rfl)) (hd : (x == ("__debug__" : Str)) = false := by decide)
    (hcd : (x == ("__classdict__" : Str)) = false := by decide) : RE X (.Name x pos) (eV i) := by
  refine ⟨(pe_var hN hv hd hcd).imp fun σ H Q ⟨G, B, f, M, Q', rep, hm, k⟩ => ?_⟩
  unfold eV at hm
  split at hm
  · rename_i x hx
    obtain ⟨v, h1, h2⟩ := rep.slot i x hx
    exact ⟨v, h1, k _ _ _ _ hm rep h2 .refl⟩
  · exact hm.elim
theorem re_int {i j pos} : RE X (.Constant (.int i) j pos) (eC (.int i)) := ⟨pe_int.imp fun σ H Q ⟨G, B, f, M, Q', rep, hm, k⟩ => k _ _ _ _ hm rep (.int i) .refl⟩
theorem re_bl {b j pos} : RE X (.Constant (.bool b) j pos) (eC (.bl b)) := ⟨pe_bl.imp fun σ H Q ⟨G, B, f, M, Q', rep, hm, k⟩ => k _ _ _ _ hm rep (.bl b) .refl⟩
theorem re_non {j pos} : RE X (.Constant .none j pos) (eC .non) := ⟨pe_non.imp fun σ H Q ⟨G, B, f, M, Q', rep, hm, k⟩ => k _ _ _ _ hm rep .non .refl⟩
theorem re_str {x j pos} : RE X (.Constant (.str x) j pos) (eC (.str x)) := ⟨pe_str.imp fun σ H Q ⟨G, B, f, M, Q', rep, hm, k⟩ => k _ _ _ _ hm rep (.str x) .refl⟩
/-- a module's constant -/
theorem re_glob {x : Str} {p : PV} {v : V} {u : Value} {pos : Pos} (hg : Gl X x) (hm : X.mg x = some u) (r : RelV v u) (h : ∀ H B C, R X.K H B C p v) (hd : (x == ("__debug__" : Str)) = false := by decide) : RE X (.Name x pos) (eC p) :=
  ⟨(pe_glob hg hm r hd).imp fun σ H Q ⟨G, B, f, M, Q', rep, hm, k⟩ => k _ _ _ _ hm rep (h _ _ _) .refl⟩

/-! operators -/
abbrev O2 := Sto → EV → EV → (PV → Prop) → Prop
abbrev O1 := Sto → EV → (PV → Prop) → Prop
abbrev ON := Sto → List EV → (PV → Prop) → Prop
def Op2 (K : PySem.W.Frag) (r : R2) (op : O2) : Prop := ∀ G B f M σ H x y v w k Q, Rep K G B f M σ H → RV K G B H x v → RV K G B H y w → op M x y k →
  (∀ p u H', k p → Rep K G B f M σ H' → R K H' B G.C p u → EvC G.C H H' → Q u H') → r v w H Q
def Op1 (K : PySem.W.Frag) (r : V → Hp → VK → Prop) (op : O1) : Prop := ∀ G B f M σ H x v k Q, Rep K G B f M σ H → RV K G B H x v → op M x k →
  (∀ p u H', k p → Rep K G B f M σ H' → R K H' B G.C p u → EvC G.C H H' → Q u H') → r v H Q
def OpN (K : PySem.W.Frag) (r : List V → Hp → VK → Prop) (op : ON) : Prop := ∀ G B f M σ H xs vs k Q, Rep K G B f M σ H → RVL K G B H xs vs → op M xs k →
  (∀ p u H', k p → Rep K G B f M σ H' → R K H' B G.C p u → EvC G.C H H' → Q u H') → r vs H Q
def e2 (op : O2) (ma mb : FE) : FE := fun f M Q => ma f M fun x M1 => mb f M1 fun y M2 => op M2 x y fun p => Q (.v p) M2
def e1 (op : O1) (ma : FE) : FE := fun f M Q => ma f M fun x M1 => op M1 x fun p => Q (.v p) M1
def eN (op : ON) (ma : FA) : FE := fun f M Q => ma f M fun xs M1 => op M1 xs fun p => Q (.v p) M1
theorem e2_ok {K : PySem.W.Frag} {r : R2} {op : O2} (ho : Op2 K r op) : ∀ σ H Q, tE K (e2 op ma mb) σ H Q → tOp r (tE K ma) (tE K mb) σ H Q := fun σ H Q ⟨G, B, f, M, Q', rep, hm, k⟩ =>
  ⟨G, B, f, M, _, rep, hm, fun x M1 v H1 h1 rep1 r1 c1 => ⟨G, B, f, M1, _, rep1, h1, fun y M2 w H2 h2 rep2 r2 c2 =>
    ho G B f M2 σ H2 x y v w _ Q rep2 (r1.evc rep1 c2) r2 h2 fun p u H3 h3 rep3 r3 c3 => k _ _ _ _ h3 rep3 r3 ((c1.trans c2).trans c3)⟩⟩
theorem e1_ok {K : PySem.W.Frag} {r : V → Hp → VK → Prop} {op : O1} (ho : Op1 K r op) : ∀ σ H Q, tE K (e1 op ma) σ H Q → tUn r (tE K ma) σ H Q := fun σ H Q ⟨G, B, f, M, Q', rep, hm, k⟩ =>
  ⟨G, B, f, M, _, rep, hm, fun x M1 v H1 h1 rep1 r1 c1 => ho G B f M1 σ H1 x v _ Q rep1 r1 h1 fun p u H3 h3 rep3 r3 c3 => k _ _ _ _ h3 rep3 r3 (c1.trans c3)⟩
theorem eN_ok {K : PySem.W.Frag} {n : Nat} {r : List V → Hp → VK → Prop} {op : ON} {ma : FA} (ho : OpN K r op) : ∀ σ H Q, tE K (eN op ma) σ H Q → tCB r (tA K n ma) σ H Q := fun σ H Q ⟨G, B, f, M, Q', rep, hm, k⟩ =>
  ⟨G, B, f, M, _, rep, hm, fun x M1 v H1 h1 _ rep1 r1 c1 => ho G B f M1 σ H1 x v _ Q rep1 r1 h1 fun p u H3 h3 rep3 r3 c3 => k _ _ _ _ h3 rep3 r3 (c1.trans c3)⟩
theorem re_op {op : Operator} {r : R2} {o : O2} (h : OpR X (binaryOp op) r) (ho : Op2 X.K r o) (ha : RE X a ma) (hb : RE X b mb) : RE X (.BinOp a op b pos) (e2 o ma mb) := ⟨(pe_op h ha.pe hb.pe).imp (e2_ok ho)⟩
theorem re_un {op : UnaryOp} {r : V → Hp → VK → Prop} {o : O1} (h : UnR X (unaryOp op) r) (ho : Op1 X.K r o) (ha : RE X a ma) : RE X (.UnaryOp op a pos) (e1 o ma) := ⟨(pe_un h ha.pe).imp (e1_ok ho)⟩
theorem re_cmp {op : CmpOp} {r : R2} {o : O2} (h : OpR X (compareOp op) r) (ho : Op2 X.K r o) (ha : RE X a ma) (hb : RE X b mb) (hm : behindInMarks op b = false) : RE X (.Compare a [op] [b] pos) (e2 o ma mb) := ⟨(pe_cmpR h ha.pe hb.pe hm).imp (e2_ok ho)⟩
/-! argument lists -/
def aNil : FA := fun _ M Q => Q [] M
def aCons (me : FE) (mr : FA) : FA := fun f M Q => me f M fun x M1 => mr f M1 fun xs M2 => Q (x :: xs) M2
theorem ra_nil : RA X [] aNil := ⟨pa_nil.imp fun σ H Q ⟨G, B, f, M, Q', rep, hm, k⟩ => k _ _ _ _ hm rfl rep trivial .refl⟩
theorem ra_cons {mr : FA} (he : RE X e m) (hr : RA X es mr) (hs : starEach (e :: es) X.env = (false, eval e X.env) :: starEach es X.env := by rfl) : RA X (e :: es) (aCons m mr) :=
  ⟨(pa_cons he.pe hr.pa hs).imp fun σ H Q ⟨G, B, f, M, Q', rep, hm, k⟩ => ⟨G, B, f, M, _, rep, hm, fun x M1 v H1 h1 rep1 r1 c1 => ⟨G, B, f, M1, _, rep1, h1, fun xs M2 vs H2 h2 hl rep2 r2 c2 =>
    k _ _ _ _ h2 (congrArg (· + 1) hl) rep2 ⟨r1.evc rep1 c2, r2⟩ (c1.trans c2)⟩⟩⟩
theorem re_bltin {x : Str} {p : Pos} {id : String} {r : List V → Hp → VK → Prop} {o : ON} {t : FA} (hc : CallR X (.builtin id) r) (ho : OpN X.K r o) (hg : Gl X x) (hm : X.mg x = none) (hv : bootBuiltins x = some (.builtin id)) (ha : RA X (e :: es) t) (hn : x ≠ "__name__" := by decide) (hdb : (x == ("__debug__" : Str)) = false := by decide)
    (he : starEach (e :: es) X.env = (false, eval e X.env) :: starEach es X.env := by rfl) (hpl : (backTo pos (starEach es X.env)).any (·.1) = false := by rfl) : RE X (.Call (.Name x p) (e :: es) [] pos) (eN o t) :=
  ⟨(pe_callB hc hg hm hv ha.pa hn hdb he hpl).imp (eN_ok ho)⟩
theorem re_type {x : Str} {p : Pos} {T : String} {r : List V → Hp → VK → Prop} {o : ON} {t : FA} (hc : CallR X (.type T) r) (ho : OpN X.K r o) (hg : Gl X x) (hm : X.mg x = none) (hv : bootBuiltins x = some (.type T)) (ha : RA X (e :: es) t) (hn : x ≠ "__name__" := by decide) (hdb : (x == ("__debug__" : Str)) = false := by decide)
    (he : starEach (e :: es) X.env = (false, eval e X.env) :: starEach es X.env := by rfl) (hpl : (backTo pos (starEach es X.env)).any (·.1) = false := by rfl) : RE X (.Call (.Name x p) (e :: es) [] pos) (eN o t) :=
  ⟨(pe_callTy hc hg hm hv ha.pa hn hdb he hpl).imp (eN_ok ho)⟩
end
end Fl

namespace Fl
open PySem PySem.Spec PyProof.Rows L2

/-! ### stores -/
section
variable {K : PySem.W.Frag} {G : Gh} {B B' : Addr → Prop} {f : Fm} {M M' : Sto} {σ : L2.St} {H H' : Hp} {a p : Addr} {vs : List V} {xs ys : List PV} {x : EV} {v : V} {o : HO} {i : Nat}
theorem Rep.set {p : PV} (r : Rep K G B f M σ H) (h : R K H B G.C p v) : Rep K G B (st f i (some (.v p))) M (σ.set i (some v)) H := by
  refine ⟨by rw [st_length, List.length_set]; exact r.len, fun j x hj => ?_, fun j k xs ys a h1 h2 e1 e2 => ?_, r.cells, r.keep, r.mu, r.sub, r.amb, r.amb0, r.pin⟩
  · have hl := gt_lt hj
    rw [st_length, r.len] at hl
    rcases gt_st hj with ⟨e, q⟩ | ⟨e, q⟩
    · subst e
      cases q
      exact ⟨v, List.getElem?_set_self hl, h⟩
    · obtain ⟨w, h1, h2⟩ := r.slot j x q
      exact ⟨w, by rw [List.getElem?_set_ne (Ne.symm e)]; exact h1, h2⟩
  · rcases gt_st h1 with ⟨_, q⟩ | ⟨n1, q1⟩
    · cases q
    · rcases gt_st h2 with ⟨_, q⟩ | ⟨n2, q2⟩
      · cases q
      · rw [List.getElem?_set_ne (Ne.symm n1)] at e1
        rw [List.getElem?_set_ne (Ne.symm n2)] at e2
        exact r.sep j k xs ys a q1 q2 e1 e2
theorem Rep.drop (r : Rep K G B f M σ H) (w : Option V) : Rep K G B (st f i none) M (σ.set i w) H := by
  refine ⟨by rw [st_length, List.length_set]; exact r.len, fun j x hj => ?_, fun j k xs ys a h1 h2 e1 e2 => ?_, r.cells, r.keep, r.mu, r.sub, r.amb, r.amb0, r.pin⟩
  · rcases gt_st hj with ⟨e, q⟩ | ⟨e, q⟩
    · cases q
    · obtain ⟨w, h1, h2⟩ := r.slot j x q
      exact ⟨w, by rw [List.getElem?_set_ne (Ne.symm e)]; exact h1, h2⟩
  · rcases gt_st h1 with ⟨_, q⟩ | ⟨n1, q1⟩
    · cases q
    · rcases gt_st h2 with ⟨_, q⟩ | ⟨n2, q2⟩
      · cases q
      · rw [List.getElem?_set_ne (Ne.symm n1)] at e1
        rw [List.getElem?_set_ne (Ne.symm n2)] at e2
        exact r.sep j k xs ys a q1 q2 e1 e2
/-- a slot stands as a list of its own -/
theorem Rep.setB (r : Rep K G B f M σ H) (hb : B a) (hc : ¬ G.C a) (h0 : G.H0 a = none) (ha : H a = some (.lst vs)) (hr : RL K H B G.C xs vs) (hn : ∀ j ys, gt f j = some (.b ys) → σ[j]? ≠ some (some (.ref a))) :
    Rep K G B (st f i (some (.b xs))) M (σ.set i (some (.ref a))) H := by
  refine ⟨by rw [st_length, List.length_set]; exact r.len, fun j x hj => ?_, fun j k xs ys a' h1 h2 e1 e2 => ?_, r.cells, r.keep, r.mu, r.sub, r.amb, r.amb0, r.pin⟩
  · have hl := gt_lt hj
    rw [st_length, r.len] at hl
    rcases gt_st hj with ⟨e, q⟩ | ⟨e, q⟩
    · subst e
      cases q
      exact ⟨.ref a, List.getElem?_set_self hl, a, vs, rfl, hb, hc, h0, ha, hr⟩
    · obtain ⟨w, h1, h2⟩ := r.slot j x q
      exact ⟨w, by rw [List.getElem?_set_ne (Ne.symm e)]; exact h1, h2⟩
  · rcases gt_st h1 with ⟨i1, q⟩ | ⟨n1, q1⟩
    · rcases gt_st h2 with ⟨i2, q2⟩ | ⟨n2, q2⟩
      · rw [i1, i2]
      · subst i1
        have hl := gt_lt h1
        rw [st_length, r.len] at hl
        rw [List.getElem?_set_self hl] at e1
        cases e1
        rw [List.getElem?_set_ne (Ne.symm n2)] at e2
        exact absurd e2 (hn k ys q2)
    · rcases gt_st h2 with ⟨i2, q2⟩ | ⟨n2, q2⟩
      · subst i2
        have hl := gt_lt h2
        rw [st_length, r.len] at hl
        rw [List.getElem?_set_self hl] at e2
        cases e2
        rw [List.getElem?_set_ne (Ne.symm n1)] at e1
        exact absurd e1 (hn j xs q1)
      · rw [List.getElem?_set_ne (Ne.symm n1)] at e1
        rw [List.getElem?_set_ne (Ne.symm n2)] at e2
        exact r.sep j k xs ys a' q1 q2 e1 e2
/-- fewer things may change -/
theorem Rep.shrink {M0 : Sto} {H0 : Hp} (r0 : Rep K G B f M0 σ H0) (r : Rep K G B' f M σ H) (w : ∀ a, B a → B' a) : Rep K G B f M σ H := by
  refine ⟨r.len, fun i x h => ?_, r.sep, fun a => ⟨fun h => ?_, (r.cells a).2⟩, r.keep, fun a h => r.mu a (w a h), r.sub, r0.amb, r.amb0, fun q hq => (r.pin q hq).weak w⟩
  · obtain ⟨v, h1, h2⟩ := r.slot i x h
    refine ⟨v, h1, ?_⟩
    cases x with
    | v p => exact R.weak w h2
    | b xs =>
      obtain ⟨a, vs, e, hb, hc, h0, ha, hr⟩ := h2
      obtain ⟨v', h1', a', vs', e', hb', _⟩ := r0.slot i _ h
      rw [h1] at h1'
      cases h1'
      subst e
      cases e'
      exact ⟨a, vs, rfl, hb', hc, h0, ha, hr.weak w⟩
  · obtain ⟨xs, vs, h1, h2, h3⟩ := (r.cells a).1 h
    exact ⟨xs, vs, h1, h2, h3.weak w⟩
abbrev orp (B : Addr → Prop) (p : Addr) : Addr → Prop := fun a => B a ∨ a = p
theorem evo_new (h : H p = none) : Evo B (orp B p) H (upd H p o) := ⟨fun a u e n => by rw [upd_ne (ne_of_none e h)]; exact e, fun a u e n z => by
  rcases z with z | z
  · exact n z
  · exact ne_of_none e h z⟩
/-- a new list that may change -/
theorem Rep.newL (r : Rep K G B f M σ H) (h : H p = none) : Rep K G (orp B p) f M σ (upd H p (.lst vs)) := by
  have ev : Evo B (orp B p) H (upd H p (.lst vs)) := evo_new h
  refine ⟨r.len, fun i x hi => ?_, r.sep, fun a => ⟨fun hc => ?_, (r.cells a).2⟩, r.keep.trans (EvC.new h), fun a hb => ?_, r.sub, fun a z => .inl (r.amb a z), r.amb0, fun q hq => (r.pin q hq).evo r.mu ev⟩
  · obtain ⟨v, h1, h2⟩ := r.slot i x hi
    refine ⟨v, h1, ?_⟩
    cases x with
    | v p => exact R.evo r.mu ev h2
    | b xs =>
      obtain ⟨a, ws, e, hb, hc, h0, ha, hr⟩ := h2
      exact ⟨a, ws, e, .inl hb, hc, h0, by rw [upd_ne (ne_of_none ha h)]; exact ha, hr.evo r.mu ev⟩
  · obtain ⟨xs, ws, h1, h2, h3⟩ := (r.cells a).1 hc
    exact ⟨xs, ws, h1, by rw [upd_ne (ne_of_none h2 h)]; exact h2, h3.evo r.mu ev⟩
  · by_cases e : a = p
    · rw [e, upd_same]
      trivial
    · rw [upd_ne e]
      exact r.mu a (hb.resolve_right e)
theorem Rep.fresh0 (r : Rep K G B f M σ H) (h : H p = none) : G.H0 p = none := by
  cases e : G.H0 p with
  | none => rfl
  | some o =>
    have nc : ¬ G.C p := fun z => r.nb h (r.sb p z)
    rw [r.keep p o e nc] at h
    cases h
/-- a list of the frame's own is written -/
theorem Rep.wrB {ws : List V} (r : Rep K G B f M σ H) (hs : σ[i]? = some (some (.ref a))) (hi : gt f i = some (.b xs)) (hr : RL K H B G.C ys ws) : Rep K G B (st f i (some (.b ys))) M σ (upd H a (.lst ws)) := by
  obtain ⟨v', e1, a', vs', e', hb, hc, h0, ha, hx⟩ := r.slot i _ hi
  rw [hs] at e1
  cases e1
  cases e'
  have ev : Evo B B H (upd H a (.lst ws)) := ⟨fun c u e n => by
    have ne : c ≠ a := fun z => n (by rw [z]; exact hb)
    rw [upd_ne ne]
    exact e, fun _ _ _ n => n⟩
  refine ⟨by rw [st_length]; exact r.len, fun j x hj => ?_, fun j k xs' ys' a' h1 h2 e1 e2 => ?_, fun c => ⟨fun hcc => ?_, (r.cells c).2⟩, fun c o e n => ?_, fun c hb' => ?_, r.sub, r.amb, r.amb0, fun q hq => (r.pin q hq).evo r.mu ev⟩
  · rcases gt_st hj with ⟨e, q⟩ | ⟨e, q⟩
    · subst e
      cases q
      exact ⟨.ref a, hs, a, ws, rfl, hb, hc, h0, upd_same, hr.evo r.mu ev⟩
    · obtain ⟨w, h1, h2⟩ := r.slot j x q
      refine ⟨w, h1, ?_⟩
      cases x with
      | v p => exact R.evo r.mu ev h2
      | b zs =>
        obtain ⟨c, us, e', hb', hc', h0', ha', hr'⟩ := h2
        subst e'
        have ne : c ≠ a := fun z => by
          subst z
          exact e (r.sep j i zs xs c q hi h1 hs)
        exact ⟨c, us, rfl, hb', hc', h0', by rw [upd_ne ne]; exact ha', hr'.evo r.mu ev⟩
  · rcases gt_st h1 with ⟨i1, q⟩ | ⟨n1, q1⟩
    · rcases gt_st h2 with ⟨i2, q2⟩ | ⟨n2, q2⟩
      · rw [i1, i2]
      · subst i1
        exact r.sep j k xs ys' a' hi q2 e1 e2
    · rcases gt_st h2 with ⟨i2, q2⟩ | ⟨n2, q2⟩
      · subst i2
        exact r.sep j k xs' xs a' q1 hi e1 e2
      · exact r.sep j k xs' ys' a' q1 q2 e1 e2
  · obtain ⟨zs, us, h1, h2, h3⟩ := (r.cells c).1 hcc
    have ne : c ≠ a := fun z => hc (by rw [← z]; exact hcc)
    exact ⟨zs, us, h1, by rw [upd_ne ne]; exact h2, h3.evo r.mu ev⟩
  · have ne : c ≠ a := fun z => by rw [z, h0] at e; cases e
    rw [upd_ne ne]
    exact r.keep c o e n
  · by_cases e : c = a
    · rw [e, upd_same]
      trivial
    · rw [upd_ne e]
      exact r.mu c hb'
def upM (M : Sto) (a : Addr) (xs : List PV) : Sto := fun b => if b = a then some xs else M b
theorem upM_same : upM M a xs a = some xs := if_pos rfl
/-- behind a call: what is handed by reference may have changed -/
theorem Rep.call (r : Rep K G B f M σ H) (e : EvC G.C H H') (c : Cells K B G.C H' M') : Rep K G B f M' σ H' := by
  refine ⟨r.len, fun i x h => ?_, r.sep, c, r.keep.trans e, fun a h => ?_, r.sub, r.amb, r.amb0, fun q hq => (r.pin q hq).evc r e⟩
  · obtain ⟨v, h1, h2⟩ := r.slot i x h
    exact ⟨v, h1, h2.evc r e⟩
  · by_cases hc : G.C a
    · obtain ⟨xs, vs, _, h2, _⟩ := (c a).1 hc
      rw [h2]
      trivial
    · have q := r.mu a h
      cases z : H a with
      | none => rw [z] at q; exact q.elim
      | some o => rw [e a o z hc, ← z]; exact q
/-- a list handed by reference is written -/
theorem Rep.wrC {ws : List V} (r : Rep K G B f M σ H) (hc : G.C a) (hr : RL K H B G.C ys ws) : Rep K G B f (upM M a ys) σ (upd H a (.lst ws)) := by
  have ec : EvC G.C H (upd H a (.lst ws)) := fun c o e n => by
    have ne : c ≠ a := fun z => n (by rw [z]; exact hc)
    rw [upd_ne ne]
    exact e
  refine r.call ec fun c => ⟨fun h => ?_, fun h => ?_⟩
  · by_cases e : c = a
    · subst e
      exact ⟨ys, ws, upM_same, upd_same, hr.evc r ec⟩
    · obtain ⟨xs, vs, h1, h2, h3⟩ := (r.cells c).1 h
      exact ⟨xs, vs, by unfold upM; rw [if_neg e]; exact h1, by rw [upd_ne e]; exact h2, h3.evc r ec⟩
  · unfold upM
    rw [if_neg (show c ≠ a from fun z => h (by rw [z]; exact hc))]
    exact (r.cells c).2 h
/-- a list of the frame's own will not change any more -/
theorem Rep.freeze (r : Rep K G B f M σ H) (hi : gt f i = some (.b xs)) : ∃ B', Rep K G B' (st f i (some (.v (.lst xs)))) M σ H := by
  obtain ⟨v, hs, a, vs, e', hb, hc, h0, ha, hx⟩ := r.slot i _ hi
  subst e'
  have w : ∀ c, (B c ∧ c ≠ a) → B c := fun c h => h.1
  refine ⟨fun c => B c ∧ c ≠ a, by rw [st_length]; exact r.len, fun j x hj => ?_, fun j k xs' ys' a' h1 h2 e1 e2 => ?_, fun c => ⟨fun hcc => ?_, (r.cells c).2⟩, r.keep, fun c h => r.mu c h.1, r.sub, fun c h => ⟨r.amb c h, fun z => r.amb0 c h (z ▸ h0)⟩, r.amb0, fun q hq => (r.pin q hq).weak w⟩
  · rcases gt_st hj with ⟨e, q⟩ | ⟨e, q⟩
    · subst e
      cases q
      exact ⟨.ref a, hs, .lst ⟨ha, fun z => z.2 rfl⟩ (hx.weak w)⟩
    · obtain ⟨u, h1, h2⟩ := r.slot j x q
      refine ⟨u, h1, ?_⟩
      cases x with
      | v p => exact R.weak w h2
      | b zs =>
        obtain ⟨c, us, e', hb', hc', h0', ha', hr'⟩ := h2
        subst e'
        exact ⟨c, us, rfl, ⟨hb', fun z => by subst z; exact e (r.sep j i zs xs c q hi h1 hs)⟩, hc', h0', ha', hr'.weak w⟩
  · rcases gt_st h1 with ⟨_, q⟩ | ⟨n1, q1⟩
    · cases q
    · rcases gt_st h2 with ⟨_, q⟩ | ⟨n2, q2⟩
      · cases q
      · exact r.sep j k xs' ys' a' q1 q2 e1 e2
  · obtain ⟨zs, us, h1, h2, h3⟩ := (r.cells c).1 hcc
    exact ⟨zs, us, h1, h2, h3.weak w⟩
end

/-! ### fresh lists, displays -/
abbrev FF := Fm → Sto → (List PV → Sto → Prop) → Prop
def tF (K : PySem.W.Frag) (m : FF) : TE := fun σ H Q => ∃ G B f M Q', Rep K G B f M σ H ∧ m f M Q' ∧ ∀ xs M' D vs H', Q' xs M' → Rep K G (orp B D) f M' σ H' → H' D = some (.lst vs) → RL K H' (orp B D) G.C xs vs → ¬ B D → G.H0 D = none → EvC G.C H H' → Q (.ref D) H'
structure RF (X : Cx) (e : Expr) (m : FF) : Prop where
  pe : PE X e (tF X.K m)
def eF (m : FF) : FE := fun f M Q => m f M fun xs M' => Q (.v (.lst xs)) M'
theorem re_f {X : Cx} {e : Expr} {m : FF} (h : RF X e m) : RE X e (eF m) := ⟨h.pe.imp fun σ H Q ⟨G, B, f, M, Q', rep, hm, k⟩ => ⟨G, B, f, M, _, rep, hm, fun xs M' D vs H' q rep' hD hr nb h0 ec =>
  k _ _ _ _ q (rep.shrink rep' fun a h => .inl h) (.lst ⟨hD, nb⟩ (hr.weak fun a h => .inl h)) ec⟩⟩
def pvs : List EV → Option (List PV)
  | [] => some []
  | .v p :: r => match pvs r with
    | some ps => some (p :: ps)
    | none => none
  | .b _ :: _ => none
theorem pvs_rl {K : PySem.W.Frag} {G : Gh} {B : Addr → Prop} {H : Hp} : ∀ {xs : List EV} {vs : List V} {ps : List PV}, RVL K G B H xs vs → pvs xs = some ps → RL K H B G.C ps vs
  | [], [], _, _, h => by cases h; exact .nil
  | .v p :: r, v :: vs, ps, ⟨h1, h2⟩, h => by
    unfold pvs at h
    cases e : pvs r with
    | none => rw [e] at h; cases h
    | some qs =>
      rw [e] at h
      cases h
      exact .cons h1 (pvs_rl h2 e)
  | .b _ :: _, _ :: _, _, _, h => nomatch h
  | [], _ :: _, _, h, _ => nomatch h
  | _ :: _, [], _, h, _ => nomatch h
theorem RVL.length {K : PySem.W.Frag} {G : Gh} {B : Addr → Prop} {H : Hp} : ∀ {xs : List EV} {vs : List V}, RVL K G B H xs vs → xs.length = vs.length
  | [], [], _ => rfl
  | _ :: _, _ :: _, h => congrArg (· + 1) (RVL.length h.2)
  | [], _ :: _, h => nomatch h
  | _ :: _, [], h => nomatch h
def eTup (m : FA) : FE := fun f M Q => m f M fun xs M1 => match pvs xs with
  | some ps => Q (.v (.tup ps)) M1
  | none => False
def fLst (m : FA) : FF := fun f M Q => m f M fun xs M1 => match pvs xs with
  | some ps => Q ps M1
  | none => False
section
variable {X : Cx} {e a b : Expr} {es : List Expr} {m ma mb : FE} {pos : Pos} {n : FA}
theorem re_tup {x1} (h : RA X es n) (hz : es.length ≤ sizeLine := by decide) : RE X (.Tuple es x1 pos) (eTup n) := by
  refine ⟨(pe_tup h.pa).imp fun σ H Q ⟨G, B, f, M, Q', rep, hm, k⟩ => ⟨G, B, f, M, _, rep, hm, fun xs M' vs H' q hl rep' r ec => ⟨by rw [← r.length, hl]; exact hz, fun p hp => ?_⟩⟩⟩
  split at q
  · rename_i ps hps
    have rl := pvs_rl r hps
    exact k _ _ _ _ q (rep'.new hp) (.tup (.inl (.inl upd_same)) (rl.evc rep' (.new hp))) (ec.trans (.new hp))
  · exact q.elim
theorem rf_lst (h : RA X es n) (hz : es.length ≤ sizeLine := by decide) : RF X (.List es pos) (fLst n) := by
  refine ⟨(pe_lst h.pa).imp fun σ H Q ⟨G, B, f, M, Q', rep, hm, k⟩ => ⟨G, B, f, M, _, rep, hm, fun xs M' vs H' q hl rep' r ec => ⟨by rw [← r.length, hl]; exact hz, fun p hp => ?_⟩⟩⟩
  split at q
  · rename_i ps hps
    have rl := pvs_rl r hps
    exact k _ _ _ _ _ q (rep'.newL hp) upd_same (rl.evo rep'.mu (evo_new hp)) (rep'.nb hp) (rep'.fresh0 hp) (ec.trans (.new hp))
  · exact q.elim
end

/-! ### statements -/
structure FEnds where
  nx : Fm → Sto → Prop
  rt : PV → Sto → Prop
  bk : Fm → Sto → Prop := fun _ _ => False
  ct : Fm → Sto → Prop := fun _ _ => False
abbrev FS := FEnds → Fm → Sto → Prop
def Ret (K : PySem.W.Frag) (G : Gh) (M : Sto) (H : Hp) (p : PV) (v : V) : Prop := Cells K G.B0 G.C H M ∧ R K H G.B0 G.C p v ∧ EvC G.C G.H0 H
structure Fits (K : PySem.W.Frag) (G : Gh) (D' : FEnds) (D : Ends) : Prop where
  nx : ∀ B f M σ H, D'.nx f M → Rep K G B f M σ H → D.nx σ H
  bk : ∀ B f M σ H, D'.bk f M → Rep K G B f M σ H → D.bk σ H
  ct : ∀ B f M σ H, D'.ct f M → Rep K G B f M σ H → D.ct σ H
  rt : ∀ p M v H, D'.rt p M → Ret K G M H p v → D.rt v H
def tS (K : PySem.W.Frag) (m : FS) : TS := fun D σ H => ∃ G B f M D', Rep K G B f M σ H ∧ m D' f M ∧ Fits K G D' D
structure RS (X : Cx) (s : Stmt) (m : FS) : Prop where
  ps : PS X s (tS X.K m)
structure RSs (X : Cx) (s : List Stmt) (m : FS) : Prop where
  pss : PSs X s (tS X.K m)
theorem _root_.L2.PS.imp {X : Cx} {s : Stmt} {t t' : TS} (h : PS X s t) (w : ∀ D σ H, t' D σ H → t D σ H) : PS X s t' := ⟨fun pins s σ H D I q => h.run pins s σ H D I (w D σ H q)⟩
theorem _root_.L2.PSs.imp {X : Cx} {s : List Stmt} {t t' : TS} (h : PSs X s t) (w : ∀ D σ H, t' D σ H → t D σ H) : PSs X s t' := ⟨fun pins s σ H D I q => h.run pins s σ H D I (w D σ H q)⟩
section
variable {X : Cx} {s : Stmt} {r : List Stmt} {e : Expr} {me : FE} {m m2 : FS} {mf : FF} {mt : FT} {pos : Pos}
def sNil : FS := fun D f M => D.nx f M
def sSeq (m m2 : FS) : FS := fun D f M => m { D with nx := m2 D } f M
theorem rs_nil : RSs X [] sNil := ⟨pss_nil.imp fun D σ H ⟨G, B, f, M, D', rep, hm, k⟩ => k.nx _ _ _ _ _ hm rep⟩
theorem rs_cons (h1 : RS X s m) (h2 : RSs X r m2) : RSs X (s :: r) (sSeq m m2) := ⟨(pss_cons h1.ps h2.pss).imp fun D σ H ⟨G, B, f, M, D', rep, hm, k⟩ =>
  ⟨G, B, f, M, _, rep, hm, ⟨fun B1 f1 M1 σ1 H1 q rep1 => ⟨G, B1, f1, M1, D', rep1, q, k⟩, k.bk, k.ct, k.rt⟩⟩⟩
theorem rs_one (h1 : RS X s m) : RSs X [s] m := ⟨pss_one h1.ps⟩
def sNever : FS := fun _ _ _ => False
theorem rs_never : RS X s sNever := ⟨ps_never.imp fun D σ H ⟨G, B, f, M, D', rep, hm, k⟩ => hm.elim⟩
theorem rss_never : RSs X r sNever := ⟨pss_never.imp fun D σ H ⟨G, B, f, M, D', rep, hm, k⟩ => hm.elim⟩
def sPass : FS := fun D f M => D.nx f M
theorem rs_pass : RS X (.Pass pos) sPass := ⟨ps_pass.imp fun D σ H ⟨G, B, f, M, D', rep, hm, k⟩ => k.nx _ _ _ _ _ hm rep⟩
def sBreak : FS := fun D f M => D.bk f M
theorem rs_break : RS X (.Break pos) sBreak := ⟨ps_break.imp fun D σ H ⟨G, B, f, M, D', rep, hm, k⟩ => k.bk _ _ _ _ _ hm rep⟩
def sCont : FS := fun D f M => D.ct f M
theorem rs_cont : RS X (.Continue pos) sCont := ⟨ps_continue.imp fun D σ H ⟨G, B, f, M, D', rep, hm, k⟩ => k.ct _ _ _ _ _ hm rep⟩
def sEx (me : FE) : FS := fun D f M => me f M fun _ M1 => D.nx f M1
theorem rs_ex (he : RE X e me) (hs : swapsWith e none pos.line X.env = pure false := by rfl) : RS X (.Expr e pos) (sEx me) := ⟨(ps_expr he.pe hs).imp fun D σ H ⟨G, B, f, M, D', rep, hm, k⟩ =>
  ⟨G, B, f, M, _, rep, hm, fun x M1 v H1 q rep1 r1 c1 => k.nx _ _ _ _ _ q rep1⟩⟩
def outP : EV → PV
  | .v p => p
  | .b xs => .lst xs
theorem RV.out {K : PySem.W.Frag} {G : Gh} {B : Addr → Prop} {f : Fm} {M : Sto} {σ : L2.St} {H : Hp} {v : V} (rep : Rep K G B f M σ H) : ∀ {x : EV}, RV K G B H x v → R K H G.B0 G.C (outP x) v
  | .v p, h => R.weak rep.amb h
  | .b xs, ⟨a, vs, e, hb, hc, h0, ha, hr⟩ => by
    subst e
    exact .lst ⟨ha, fun z => rep.amb0 a z h0⟩ (hr.weak rep.amb)
theorem Rep.ret {K : PySem.W.Frag} {G : Gh} {B : Addr → Prop} {f : Fm} {M : Sto} {σ : L2.St} {H : Hp} {v : V} {x : EV} (rep : Rep K G B f M σ H) (h : RV K G B H x v) : Ret K G M H (outP x) v :=
  ⟨fun a => ⟨fun hc => let ⟨xs, vs, h1, h2, h3⟩ := (rep.cells a).1 hc; ⟨xs, vs, h1, h2, h3.weak rep.amb⟩, (rep.cells a).2⟩, h.out rep, rep.keep⟩
def sRet (me : FE) : FS := fun D f M => me f M fun x M1 => D.rt (outP x) M1
theorem rs_ret (he : RE X e me) : RS X (.Return (some e) pos) (sRet me) := ⟨(ps_ret he.pe).imp fun D σ H ⟨G, B, f, M, D', rep, hm, k⟩ =>
  ⟨G, B, f, M, _, rep, hm, fun x M1 v H1 q rep1 r1 c1 => k.rt _ _ _ _ q (rep1.ret r1)⟩⟩
def sRetN : FS := fun D f M => D.rt .non M
theorem rs_retN : RS X (.Return none pos) sRetN := ⟨ps_retN.imp fun D σ H ⟨G, B, f, M, D', rep, hm, k⟩ => k.rt .non M .non H hm (rep.ret (x := .v .non) R.non)⟩
def sIf (mt : FT) (m m2 : FS) : FS := fun D f M => mt f M fun b M1 => (b = true → m D f M1) ∧ (b = false → m2 D f M1)
theorem rs_if {c : Expr} {x y : List Stmt} (hc : RT X c mt) (hx : RSs X x m) (hy : RSs X y m2) : RS X (.If c x y pos) (sIf mt m m2) := ⟨(ps_if hc.pt hx.pss hy.pss).imp fun D σ H ⟨G, B, f, M, D', rep, hm, k⟩ =>
  ⟨G, B, f, M, _, rep, hm, fun b M1 H1 q rep1 c1 => by
    cases b with
    | true => rw [if_pos rfl]; exact ⟨G, B, f, M1, D', rep1, q.1 rfl, k⟩
    | false => rw [if_neg Bool.false_ne_true]; exact ⟨G, B, f, M1, D', rep1, q.2 rfl, k⟩⟩⟩
def sSet (i : Nat) (me : FE) : FS := fun D f M => me f M fun x M1 => match x with
  | .v p => D.nx (st f i (some (.v p))) M1
  | .b _ => False
theorem rs_set {i : Nat} {x : Str} {pos' : Pos} (hN : X.N.Nodup) (hi : X.N[i]? = some x) (hx : Loc X.env.scope x) (he : RE X e me) (hs : swapsWith e (some (.Name x pos')) pos.line X.env = pure false := by rfl) (hf : X.fn x = true ∨ X.env.scope.names.lookup x = some .local := by first | exact .inl rfl | exact .inr rfl | assumption) :
    RS X (.Assign [.Name x pos'] e pos) (sSet i me) := ⟨(ps_set hN hi hx he.pe hs hf).imp fun D σ H ⟨G, B, f, M, D', rep, hm, k⟩ => ⟨G, B, f, M, _, rep, hm, fun x M1 v H1 q rep1 r1 c1 => by
  cases x with
  | v p => exact k.nx _ _ _ _ _ q (rep1.set r1)
  | b xs => exact q.elim⟩⟩
/-- name = a fresh list, to be changed in place -/
def sBld (i : Nat) (mf : FF) : FS := fun D f M => mf f M fun xs M1 => D.nx (st f i (some (.b xs))) M1
theorem rs_bld {i : Nat} {x : Str} {pos' : Pos} (hN : X.N.Nodup) (hi : X.N[i]? = some x) (hx : Loc X.env.scope x) (he : RF X e mf) (hs : swapsWith e (some (.Name x pos')) pos.line X.env = pure false := by rfl) (hf : X.fn x = true ∨ X.env.scope.names.lookup x = some .local := by first | exact .inl rfl | exact .inr rfl | assumption) :
    RS X (.Assign [.Name x pos'] e pos) (sBld i mf) := ⟨(ps_set hN hi hx he.pe hs hf).imp fun D σ H ⟨G, B, f, M, D', rep, hm, k⟩ => ⟨G, B, f, M, _, rep, hm, fun xs M1 A vs H1 q rep1 hA hr nb h0 c1 => by
  refine k.nx _ _ _ _ _ q (rep1.setB (.inr rfl) (fun z => nb (rep.sb A z)) h0 hA hr fun j ys hj e => ?_)
  obtain ⟨v, e1, a, ws, e2, hb, _⟩ := rep.slot j _ hj
  rw [e] at e1
  cases e1
  cases e2
  exact nb hb⟩⟩
/-- nothing done: a list of one's own will not change any more -/
def sFrz (i : Nat) (m : FS) : FS := fun D f M => match gt f i with
  | some (.b xs) => m D (st f i (some (.v (.lst xs)))) M
  | _ => False
theorem rs_frz (i : Nat) (h : RS X s m) : RS X s (sFrz i m) := ⟨h.ps.imp fun D σ H ⟨G, B, f, M, D', rep, hm, k⟩ => by
  unfold sFrz at hm
  split at hm
  · rename_i xs hi
    obtain ⟨B', rep'⟩ := rep.freeze hi
    exact ⟨G, B', _, M, D', rep', hm, k⟩
  · exact hm.elim⟩
theorem rss_frz (i : Nat) (h : RSs X r m) : RSs X r (sFrz i m) := ⟨h.pss.imp fun D σ H ⟨G, B, f, M, D', rep, hm, k⟩ => by
  unfold sFrz at hm
  split at hm
  · rename_i xs hi
    obtain ⟨B', rep'⟩ := rep.freeze hi
    exact ⟨G, B', _, M, D', rep', hm, k⟩
  · exact hm.elim⟩
end

/-! ### targets -/
abbrev FG := PV → Fm → (Fm → Prop) → Prop
abbrev FGs := List PV → Fm → (Fm → Prop) → Prop
def Wp (ws : List Nat) (σ σ' : L2.St) : Prop := ∀ vs : List Nat, (∀ i ∈ ws, i ∈ vs) → wipe σ' vs = wipe σ vs
theorem wipe_set {σ : L2.St} {i : Nat} {v : Option V} : ∀ {vs : List Nat}, i ∈ vs → wipe (σ.set i v) vs = wipe σ vs
  | w :: r, h => by
    by_cases e : i ∈ r
    · unfold wipe
      rw [wipe_set e]
    · have q : i = w := by
        rcases List.mem_cons.mp h with z | z
        · exact z
        · exact absurd z e
      subst q
      have go : ∀ (r : List Nat) (τ : L2.St), wipe (τ.set i v) r = (wipe τ r).set i ((wipe (τ.set i v) r)[i]?.getD none) ∨ True := fun _ _ => .inr trivial
      have aux : ∀ (r : List Nat), i ∉ r → wipe (σ.set i v) r = (wipe σ r).set i v := by
        intro r
        induction r with
        | nil => intro _; rfl
        | cons y r ih =>
          intro hy
          unfold wipe
          rw [ih (fun z => hy (List.mem_cons_of_mem _ z)), List.set_comm _ _ (fun z => hy (by rw [z]; exact List.mem_cons_self))]
      unfold wipe
      rw [aux r e, List.set_set]
def tG (K : PySem.W.Frag) (ws : List Nat) (g : FG) : TG := fun v σ H Q => ∃ G B f M p Q', Rep K G B f M σ H ∧ R K H B G.C p v ∧ g p f Q' ∧ ∀ f' σ', Q' f' → Rep K G B f' M σ' H → Wp ws σ σ' → Q σ' H
def tGs (K : PySem.W.Frag) (ws : List Nat) (g : FGs) : TGs := fun vs σ H Q => ∃ G B f M ps Q', Rep K G B f M σ H ∧ RL K H B G.C ps vs ∧ g ps f Q' ∧ ∀ f' σ', Q' f' → Rep K G B f' M σ' H → Wp ws σ σ' → Q σ' H
structure RG (X : Cx) (t : Expr) (ws : List Nat) (g : FG) : Prop where
  pg : PG X t (tG X.K ws g)
structure RGs (X : Cx) (ts : List Expr) (ws : List Nat) (g : FGs) : Prop where
  pgs : PGs X ts (tGs X.K ws g)
theorem _root_.L2.PG.imp {X : Cx} {e : Expr} {t t' : TG} (h : PG X e t) (w : ∀ v σ H Q, t' v σ H Q → t v σ H Q) : PG X e t' := ⟨fun pins s σ H v u Q I r q => h.run pins s σ H v u Q I r (w v σ H Q q)⟩
theorem _root_.L2.PGs.imp {X : Cx} {es : List Expr} {t t' : TGs} (h : PGs X es t) (w : ∀ v σ H Q, t' v σ H Q → t v σ H Q) : PGs X es t' := ⟨fun pins s σ H v u Q I r q => h.run pins s σ H v u Q I r (w v σ H Q q)⟩
section
variable {X : Cx} {t : Expr} {ts : List Expr} {ws ws' : List Nat} {g : FG} {gs : FGs} {pos : Pos}
def gN (i : Nat) : FG := fun p f k => k (st f i (some (.v p)))
theorem rg_name {i : Nat} {x : Str} (hN : X.N.Nodup) (hi : X.N[i]? = some x) (hx : Loc X.env.scope x) (hf : X.fn x = true ∨ X.env.scope.names.lookup x = some .local := by first | exact .inl rfl | exact .inr rfl | assumption) : RG X (.Name x pos) [i] (gN i) :=
  ⟨(pg_name hN hi hx hf).imp fun v σ H Q ⟨G, B, f, M, p, Q', rep, r, hg, k⟩ => k _ _ hg (rep.set r) fun vs h => wipe_set (h i (by simp))⟩
def gsNil : FGs := fun ps f k => match ps with
  | [] => k f
  | _ => False
def gsCons (g : FG) (gs : FGs) : FGs := fun ps f k => match ps with
  | p :: r => g p f fun f' => gs r f' k
  | [] => False
theorem rgs_nil : RGs X [] [] gsNil := ⟨pgs_nil.imp fun vs σ H Q ⟨G, B, f, M, ps, Q', rep, r, hg, k⟩ => by
  cases r with
  | nil => exact ⟨rfl, k _ _ hg rep fun _ _ => rfl⟩
  | cons _ _ => exact hg.elim⟩
theorem rgs_cons (h1 : RG X t ws g) (h2 : RGs X ts ws' gs) (hs : (assignEach (t :: ts) X.env).map (·.2) = assign t X.env :: (assignEach ts X.env).map (·.2) := by rfl) : RGs X (t :: ts) (ws ++ ws') (gsCons g gs) :=
  ⟨(pgs_cons h1.pg h2.pgs hs).imp fun vs σ H Q ⟨G, B, f, M, ps, Q', rep, r, hg, k⟩ => by
    cases r with
    | nil => exact hg.elim
    | cons r1 rr => exact ⟨_, _, rfl, G, B, f, M, _, _, rep, r1, hg, fun f1 σ1 q1 rep1 w1 => ⟨G, B, f1, M, _, Q', rep1, rr, q1, fun f2 σ2 q2 rep2 w2 => k _ _ q2 rep2 fun vs h => (w2 vs fun i hi => h i (List.mem_append_right _ hi)).trans (w1 vs fun i hi => h i (List.mem_append_left _ hi))⟩⟩⟩
/-- a, b = a tuple -/
def gT (n : Nat) (gs : FGs) : FG := fun p f k => match p with
  | .tup ps => ps.length = n ∧ gs ps f k
  | _ => False
theorem rg_tup {k : Nat} {n : Nat} (hc : X.calm = true) (h : RGs X ts ws gs) (hn : (assignEach ts X.env).length = n := by rfl) (hst : (assignEach ts X.env).findIdx? (·.1) = none := by rfl) : RG X (.Tuple ts k pos) ws (gT n gs) :=
  ⟨(pg_tup hc h.pgs hn hst).imp fun v σ H Q ⟨G, B, f, M, p, Q', rep, r, hg, k⟩ => by
    cases p with
    | tup ps =>
      obtain ⟨hl, hg⟩ := hg
      cases r with
      | tup hq hr => exact ⟨_, _, rfl, hq, hr.length.symm.trans hl, G, B, f, M, ps, Q', rep, hr, hg, k⟩
    | _ => exact hg.elim⟩
/-- a, b = a list -/
def gL (n : Nat) (gs : FGs) : FG := fun p f k => match p with
  | .lst ps => ps.length = n ∧ gs ps f k
  | _ => False
theorem rg_lst {k : Nat} {n : Nat} (hc : X.calm = true) (h : RGs X ts ws gs) (hn : (assignEach ts X.env).length = n := by rfl) (hst : (assignEach ts X.env).findIdx? (·.1) = none := by rfl) : RG X (.Tuple ts k pos) ws (gL n gs) :=
  ⟨(pg_unl hc h.pgs hn hst).imp fun v σ H Q ⟨G, B, f, M, p, Q', rep, r, hg, k⟩ => by
    cases p with
    | lst ps =>
      obtain ⟨hl, hg⟩ := hg
      cases r with
      | lst hq hr => exact ⟨_, _, rfl, hq.sq, hr.length.symm.trans hl, G, B, f, M, ps, Q', rep, hr, hg, k⟩
    | _ => exact hg.elim⟩
/-- targets = value -/
def sAsg (me : FE) (g : FG) : FS := fun D f M => me f M fun x M1 => match x with
  | .v p => g p f fun f' => D.nx f' M1
  | .b _ => False
theorem rs_asg {tg e : Expr} {me : FE} (he : RE X e me) (hg : RG X tg ws g) (hs : swapsWithSole [tg] e pos.line X.env = pure false := by rfl) (hw : swappedStores [tg] e X.env = pure none := by rfl)
    (h1 : (assignEach [tg] X.env).map (·.2) = [assign tg X.env] := by rfl) : RS X (.Assign [tg] e pos) (sAsg me g) := ⟨(ps_asg he.pe hg.pg hs hw h1).imp fun D σ H ⟨G, B, f, M, D', rep, hm, k⟩ =>
  ⟨G, B, f, M, _, rep, hm, fun x M1 v H1 q rep1 r1 c1 => by
    cases x with
    | v p => exact ⟨G, B, f, M1, p, _, rep1, r1, q, fun f' σ' q' rep' _ => k.nx _ _ _ _ _ q' rep'⟩
    | b xs => exact q.elim⟩⟩
end
end Fl

namespace Fl
open PySem PySem.Spec PyProof.Rows L2

/-! ### tests -/
section
variable {X : Cx} {e a b c : Expr} {es rest : List Expr} {m ma mb mc : FE} {ta tb : FT} {pos : Pos}
/-- truth -/
def truP : EV → Bool
  | .v .non => false
  | .v (.bl b) => b
  | .v (.int i) => i != 0
  | .v (.str s) => s.length != 0
  | .v (.tup xs) => !xs.isEmpty
  | .v (.lst xs) => !xs.isEmpty
  | .v (.fro xs) => !xs.isEmpty
  | .v (.cell _) => true
  | .v (.xtp _) => true
  | .b xs => !xs.isEmpty
def okTru : EV → Prop
  | .v (.cell _) => False
  | .v (.xtp _) => False
  | .v (.str s) => s.length ≤ sizeLine
  | _ => True
theorem empty_rl {K : PySem.W.Frag} {H : Hp} {B C : Addr → Prop} {xs : List PV} {vs : List V} (r : RL K H B C xs vs) : (!vs.isEmpty) = !xs.isEmpty := by
  cases r <;> rfl
def tTru (m : FE) : FT := fun f M Q => m f M fun x M1 => okTru x ∧ Q (truP x) M1
/-- of what is a bool -/
def tB1 (m : FE) : FT := fun f M Q => m f M fun x M1 => match x with
  | .v (.bl b) => Q b M1
  | _ => False
theorem rt_val (h : RE X e m) (he : ∀ whole, isTrue e X.env whole = (do let v ← whole; standAt e.pos; holding [v] (truthy v)) := by intro _; rfl) : RT X e (tB1 m) := by
  refine ⟨(pt_val h.pe he).imp fun σ H Q ⟨G, B, f, M, Q', rep, hm, k⟩ => ⟨G, B, f, M, _, rep, hm, fun x M1 v H1 q rep1 r1 c1 => ?_⟩⟩
  split at q
  · cases r1
    exact ⟨_, rfl, k _ _ _ q rep1 c1⟩
  · exact q.elim
def cB (op : O2) (ma mb : FE) : FT := fun f M Q => ma f M fun x M1 => mb f M1 fun y M2 => op M2 x y fun p => match p with
  | .bl b => Q b M2
  | _ => False
theorem rt_cmp {op : CmpOp} {r : R2} {o : O2} (h : OpR X (compareOp op) r) (ho : Op2 X.K r o) (ha : RE X a ma) (hb : RE X b mb) (hm : behindInMarks op b = false) : RT X (.Compare a [op] [b] pos) (cB o ma mb) :=
  ⟨(pt_cmpR h ha.pe hb.pe hm).imp fun σ H Q ⟨G, B, f, M, Q', rep, hm, k⟩ => ⟨G, B, f, M, _, rep, hm, fun x M1 v H1 h1 rep1 r1 c1 => ⟨G, B, f, M1, _, rep1, h1, fun y M2 w H2 h2 rep2 r2 c2 =>
    ho G B f M2 σ H2 x y v w _ _ rep2 (r1.evc rep1 c2) r2 h2 fun p u H3 h3 rep3 r3 c3 => by
      split at h3
      · cases r3
        exact ⟨_, rfl, k _ _ _ h3 rep3 ((c1.trans c2).trans c3)⟩
      · exact h3.elim⟩⟩⟩
/-- a op b op' c -/
def cCh (op op' : O2) (ma mb mc : FE) : FT := fun f M Q => ma f M fun x M1 => mb f M1 fun y M2 => op M2 x y fun p => match p with
  | .bl b => (b = true → mc f M2 fun z M3 => op' M3 y z fun p => match p with
    | .bl b => Q b M3
    | _ => False) ∧ (b = false → Q false M2)
  | _ => False
theorem ch_ok {K : PySem.W.Frag} {r r' : R2} {o o' : O2} (ho : Op2 K r o) (ho' : Op2 K r' o') {σ : L2.St} {H : Hp} {Q : Bool → Hp → Prop} (h : tT K (cCh o o' ma mb mc) σ H Q) : tChain r r' (tE K ma) (tE K mb) (tE K mc) σ H (fun x H' => ∃ k, x = .bl k ∧ Q k H') := by
  obtain ⟨G, B, f, M, Q', rep, hm, k⟩ := h
  refine ⟨G, B, f, M, _, rep, hm, fun x M1 v H1 h1 rep1 r1 c1 => ⟨G, B, f, M1, _, rep1, h1, fun y M2 w H2 h2 rep2 r2 c2 => ?_⟩⟩
  refine ho G B f M2 σ H2 x y v w _ _ rep2 (r1.evc rep1 c2) r2 h2 fun p u H3 h3 rep3 r3 c3 => ?_
  split at h3
  · cases r3
    refine ⟨_, rfl, ?_⟩
    split
    · rename_i hb
      refine ⟨G, B, f, M2, _, rep3, h3.1 hb, fun z M4 t H4 h4 rep4 r4 c4 => ?_⟩
      refine ho' G B f M4 σ H4 y z w t _ _ rep4 ((r2.evc rep2 c3).evc rep3 c4) r4 h4 fun p u H5 h5 rep5 r5 c5 => ?_
      split at h5
      · cases r5
        exact ⟨_, rfl, k _ _ _ h5 rep5 ((((c1.trans c2).trans c3).trans c4).trans c5)⟩
      · exact h5.elim
    · rename_i hb
      exact ⟨_, rfl, k _ _ _ (h3.2 (by simpa using hb)) rep3 ((c1.trans c2).trans c3)⟩
  · exact h3.elim
theorem rt_chain {op op' : CmpOp} {r r' : R2} {o o' : O2} (h : OpR X (compareOp op) r) (h' : OpR X (compareOp op') r') (ho : Op2 X.K r o) (ho' : Op2 X.K r' o') (ha : RE X a ma) (hb : RE X b mb) (hc : RE X c mc)
    (hm : lastMarks [op, op'] [b, c] = false := by with_unfolding_all rfl) : RT X (.Compare a [op, op'] [b, c] pos) (cCh o o' ma mb mc) := ⟨(pt_chain h h' ha.pe hb.pe hc.pe hm).imp fun σ H Q q => ch_ok ho ho' q⟩
/-- a test as a value -/
def eT (t : FT) : FE := fun f M Q => t f M fun b M1 => Q (.v (.bl b)) M1
theorem re_chain {op op' : CmpOp} {r r' : R2} {o o' : O2} (h : OpR X (compareOp op) r) (h' : OpR X (compareOp op') r') (ho : Op2 X.K r o) (ho' : Op2 X.K r' o') (ha : RE X a ma) (hb : RE X b mb) (hc : RE X c mc)
    (hm : lastMarks [op, op'] [b, c] = false := by with_unfolding_all rfl) : RE X (.Compare a [op, op'] [b, c] pos) (eT (cCh o o' ma mb mc)) := by
  refine ⟨⟨fun pins s σ H Q I q => ?_⟩⟩
  have q' : tT X.K (cCh o o' ma mb mc) σ H (fun b H1 => Q (.bl b) H1) := by
    obtain ⟨G, B, f, M, Q', rep, hm, k⟩ := q
    exact ⟨G, B, f, M, _, rep, hm, fun b M1 H1 q1 rep1 c1 => k _ _ _ _ q1 rep1 (R.bl b) c1⟩
  refine thn ((pe_chain h h' ha.pe hb.pe hc.pe hm).run pins s σ H _ I (ch_ok ho ho' q')) fun v s1 ⟨x, H1, I1, r1, k, e, q1⟩ => ?_
  subst e
  exact ⟨_, H1, I1, r1, q1⟩
def tAnd2 (t u : FT) : FT := fun f M Q => t f M fun b M1 => (b = true → u f M1 Q) ∧ (b = false → Q false M1)
def tOr2 (t u : FT) : FT := fun f M Q => t f M fun b M1 => (b = true → Q true M1) ∧ (b = false → u f M1 Q)
def tNot1 (t : FT) : FT := fun f M Q => t f M fun b M1 => Q (!b) M1
theorem RW.rt (h : RW X e ta) : RT X e ta := ⟨h.pw.pt⟩
theorem rw_and1 (ha : RT X a ta) : RW X (.BoolOp .And [a] pos) ta := ⟨pw_and1 ha.pt⟩
theorem rw_or1 (ha : RT X a ta) : RW X (.BoolOp .Or [a] pos) ta := ⟨pw_or1 ha.pt⟩
theorem rw_and (ha : RT X a ta) (hb : RW X (.BoolOp .And (b :: rest) pos) tb) : RW X (.BoolOp .And (a :: b :: rest) pos) (tAnd2 ta tb) := ⟨(pw_and ha.pt hb.pw).imp fun σ H Q ⟨G, B, f, M, Q', rep, hm, k⟩ =>
  ⟨G, B, f, M, _, rep, hm, fun b M1 H1 q rep1 c1 => by
    cases b with
    | true => rw [if_pos rfl]; exact ⟨G, B, f, M1, _, rep1, q.1 rfl, fun b M2 H2 q2 rep2 c2 => k _ _ _ q2 rep2 (c1.trans c2)⟩
    | false => rw [if_neg Bool.false_ne_true]; exact k _ _ _ (q.2 rfl) rep1 c1⟩⟩
theorem rw_or (ha : RT X a ta) (hb : RW X (.BoolOp .Or (b :: rest) pos) tb) : RW X (.BoolOp .Or (a :: b :: rest) pos) (tOr2 ta tb) := ⟨(pw_or ha.pt hb.pw).imp fun σ H Q ⟨G, B, f, M, Q', rep, hm, k⟩ =>
  ⟨G, B, f, M, _, rep, hm, fun b M1 H1 q rep1 c1 => by
    cases b with
    | true => rw [if_pos rfl]; exact k _ _ _ (q.1 rfl) rep1 c1
    | false => rw [if_neg Bool.false_ne_true]; exact ⟨G, B, f, M1, _, rep1, q.2 rfl, fun b M2 H2 q2 rep2 c2 => k _ _ _ q2 rep2 (c1.trans c2)⟩⟩⟩
theorem rt_not (ha : RT X a ta) : RT X (.UnaryOp .Not a pos) (tNot1 ta) := ⟨(pt_not ha.pt).imp fun σ H Q ⟨G, B, f, M, Q', rep, hm, k⟩ =>
  ⟨G, B, f, M, _, rep, hm, fun b M1 H1 q rep1 c1 => k _ _ _ q rep1 c1⟩⟩
/-- truth of a value of any kind -/
theorem truV {K : PySem.W.Frag} {G : Gh} {B : Addr → Prop} {H : Hp} {v : V} {x : EV} (h : RV K G B H x v) (ok : okTru x) : TruV K v H (truP x) := by
  cases x with
  | v p =>
    have h' : R K H B G.C p v := h
    clear h
    cases h' with
    | non => rfl
    | bl b => rfl
    | int i => rfl
    | str s => exact ⟨ok, by
        show ((s.length : Nat) != 0) = ((s.length : Int) != 0)
        by_cases e : s.length = 0
        · rw [e]; rfl
        · have e' : ¬ (s.length : Int) = 0 := by omega
          rw [bne_iff_ne.mpr e, bne_iff_ne.mpr e']⟩
    | tup h1 r => exact .inr (.inl ⟨_, h1, (empty_rl r).symm⟩)
    | lst h1 r => exact .inl ⟨_, h1.sq, (empty_rl r).symm⟩
    | fro h1 r => exact .inl ⟨_, h1.sq, (empty_rl r).symm⟩
    | cell h1 => exact ok.elim
    | xtp h1 h2 => exact ok.elim
  | b xs =>
    obtain ⟨a, vs, e, hb, hc, h0, ha, hr⟩ := h
    subst e
    exact .inl ⟨vs, .of ha, (empty_rl hr).symm⟩
theorem rt_tru (h : RE X e m) (he : ∀ whole, isTrue e X.env whole = (do let v ← whole; standAt e.pos; holding [v] (truthy v)) := by intro _; rfl) : RT X e (tTru m) :=
  ⟨(pt_truth h.pe he).imp fun σ H Q ⟨G, B, f, M, Q', rep, hm, k⟩ => ⟨G, B, f, M, _, rep, hm, fun x M1 v H1 q rep1 r1 c1 => ⟨_, truV r1 q.1, k _ _ _ q.2 rep1 c1⟩⟩⟩
/-- not x, x and y, x or y as values -/
def eNot (m : FE) : FE := fun f M Q => m f M fun x M1 => okTru x ∧ Q (.v (.bl (!truP x))) M1
def eAnd (m m2 : FE) : FE := fun f M Q => m f M fun x M1 => okTru x ∧ (truP x = true → m2 f M1 Q) ∧ (truP x = false → Q x M1)
def eOr (m m2 : FE) : FE := fun f M Q => m f M fun x M1 => okTru x ∧ (truP x = true → Q x M1) ∧ (truP x = false → m2 f M1 Q)
theorem re_not (h : RE X a m) : RE X (.UnaryOp .Not a pos) (eNot m) := ⟨(pe_notT h.pe).imp fun σ H Q ⟨G, B, f, M, Q', rep, hm, k⟩ =>
  ⟨G, B, f, M, _, rep, hm, fun x M1 v H1 q rep1 r1 c1 => ⟨_, truV r1 q.1, k _ _ _ _ q.2 rep1 (R.bl _) c1⟩⟩⟩
theorem re_one {op} (h : RE X a m) : RE X (.BoolOp op [a] pos) m := ⟨pe_one h.pe⟩
theorem re_and (h : RE X a ma) (hb : RE X (.BoolOp .And (b :: rest) pos) mb) : RE X (.BoolOp .And (a :: b :: rest) pos) (eAnd ma mb) := ⟨(pe_andT h.pe hb.pe).imp fun σ H Q ⟨G, B, f, M, Q', rep, hm, k⟩ =>
  ⟨G, B, f, M, _, rep, hm, fun x M1 v H1 q rep1 r1 c1 => ⟨_, truV r1 q.1, by
    split
    · rename_i e
      exact ⟨G, B, f, M1, _, rep1, q.2.1 e, fun y M2 w H2 q2 rep2 r2 c2 => k _ _ _ _ q2 rep2 r2 (c1.trans c2)⟩
    · rename_i e
      exact k _ _ _ _ (q.2.2 (by simpa using e)) rep1 r1 c1⟩⟩⟩
theorem re_or (h : RE X a ma) (hb : RE X (.BoolOp .Or (b :: rest) pos) mb) : RE X (.BoolOp .Or (a :: b :: rest) pos) (eOr ma mb) := ⟨(pe_orT h.pe hb.pe).imp fun σ H Q ⟨G, B, f, M, Q', rep, hm, k⟩ =>
  ⟨G, B, f, M, _, rep, hm, fun x M1 v H1 q rep1 r1 c1 => ⟨_, truV r1 q.1, by
    split
    · rename_i e
      exact k _ _ _ _ (q.2.1 e) rep1 r1 c1
    · rename_i e
      exact ⟨G, B, f, M1, _, rep1, q.2.2 (by simpa using e), fun y M2 w H2 q2 rep2 r2 c2 => k _ _ _ _ q2 rep2 r2 (c1.trans c2)⟩⟩⟩⟩
def eIf (t : FT) (ma mb : FE) : FE := fun f M Q => t f M fun b M1 => (b = true → ma f M1 Q) ∧ (b = false → mb f M1 Q)
theorem re_if {t : FT} (hc : RT X c t) (ha : RE X a ma) (hb : RE X b mb) : RE X (.IfExp c a b pos) (eIf t ma mb) := ⟨(pe_ifExp hc.pt ha.pe hb.pe).imp fun σ H Q ⟨G, B, f, M, Q', rep, hm, k⟩ =>
  ⟨G, B, f, M, _, rep, hm, fun x M1 H1 q rep1 c1 => by
    cases x with
    | true => rw [if_pos rfl]; exact ⟨G, B, f, M1, _, rep1, q.1 rfl, fun y M2 w H2 q2 rep2 r2 c2 => k _ _ _ _ q2 rep2 r2 (c1.trans c2)⟩
    | false => rw [if_neg Bool.false_ne_true]; exact ⟨G, B, f, M1, _, rep1, q.2 rfl, fun y M2 w H2 q2 rep2 r2 c2 => k _ _ _ _ q2 rep2 r2 (c1.trans c2)⟩⟩⟩
end

/-! ### calls of defs -/
abbrev PSp := List PV → Sto → (PV → Sto → Prop) → Prop
def spOf (K : PySem.W.Frag) (psp : PSp) : Sp := fun vs H Q _ => ∃ (B0 C : Addr → Prop) (M : Sto) (ps : List PV) (Q' : PV → Sto → Prop),
  (∀ a, C a → B0 a) ∧ (∀ a, B0 a → Mut (H a)) ∧ Cells K B0 C H M ∧ RL K H B0 C ps vs ∧ psp ps M Q' ∧
  ∀ p M' v H', Q' p M' → Cells K B0 C H' M' → R K H' B0 C p v → EvC C H H' → Q v H'
def eCall (psp : PSp) (ma : FA) : FE := fun f M Q => ma f M fun xs M1 => match pvs xs with
  | some ps => psp ps M1 fun p M2 => Q (.v p) M2
  | none => False
/-- a list of one's own is handed to be read: nothing that is handed back may hold it -/
def lend : List EV → List PV
  | [] => []
  | x :: r => outP x :: lend r
mutual
def noL : PV → Bool
  | .tup xs => noLs xs
  | .lst _ => false
  | .xtp _ => false
  | .fro xs => noLs xs
  | _ => true
def noLs : List PV → Bool
  | [] => true
  | x :: xs => noL x && noLs xs
end
def flatM (M : Sto) : Prop := ∀ a xs, M a = some xs → noLs xs = true
def eCallB (psp : PSp) (ma : FA) : FE := fun f M Q => ma f M fun xs M1 => psp (lend xs) M1 fun p M2 => noL p = true ∧ flatM M2 ∧ Q (.v p) M2
theorem noL_tup (xs : List PV) : noL (.tup xs) = noLs xs := by rw [noL]
theorem noL_fro (xs : List PV) : noL (.fro xs) = noLs xs := by rw [noL]
theorem noLs_cons (x : PV) (xs : List PV) : noLs (x :: xs) = (noL x && noLs xs) := by rw [noLs]
mutual
theorem R.noL {K : PySem.W.Frag} {H : Hp} {B B' C : Addr → Prop} : ∀ {x : PV} {v : V}, R K H B C x v → Fl.noL x = true → R K H B' C x v
  | _, _, .non, _ => .non
  | _, _, .bl b, _ => .bl b
  | _, _, .int i, _ => .int i
  | _, _, .str s, _ => .str s
  | _, _, .tup h t, q => .tup h (RL.noL t ((noL_tup _).symm.trans q))
  | _, _, .lst h t, q => by rw [Fl.noL] at q; cases q
  | _, _, .fro h t, q => .fro h (RL.noL t ((noL_fro _).symm.trans q))
  | _, _, .cell h, _ => .cell h
  | _, _, .xtp h t, q => by rw [Fl.noL] at q; cases q
theorem RL.noL {K : PySem.W.Frag} {H : Hp} {B B' C : Addr → Prop} : ∀ {xs : List PV} {vs : List V}, RL K H B C xs vs → noLs xs = true → RL K H B' C xs vs
  | _, _, .nil, _ => .nil
  | _, _, .cons h t, q => .cons (R.noL h ((Bool.and_eq_true_iff.mp ((noLs_cons _ _).symm.trans q)).1)) (RL.noL t ((Bool.and_eq_true_iff.mp ((noLs_cons _ _).symm.trans q)).2))
end
/-- the addresses of the lists of one's own among the arguments -/
def lent : List EV → List V → Addr → Prop
  | .b _ :: r, v :: vs, a => v = .ref a ∨ lent r vs a
  | .v _ :: r, _ :: vs, a => lent r vs a
  | _, _, _ => False
theorem lend_rl {K : PySem.W.Frag} {G : Gh} {B B' : Addr → Prop} {H : Hp} (w : ∀ a, B' a → B a) : ∀ {xs : List EV} {vs : List V}, RVL K G B H xs vs → (∀ a, lent xs vs a → ¬ B' a) → RL K H B' G.C (lend xs) vs
  | [], [], _, _ => .nil
  | .v p :: r, v :: vs, ⟨h1, h2⟩, n => .cons (R.weak w h1) (lend_rl w h2 fun a h => n a h)
  | .b ys :: r, v :: vs, ⟨⟨a, us, e, hb, hc, h0, ha, hr⟩, h2⟩, n => by
    subst e
    exact .cons (.lst ⟨ha, n a (.inl rfl)⟩ (hr.weak w)) (lend_rl w h2 fun a h => n a (.inr h))
theorem lent_nc {K : PySem.W.Frag} {G : Gh} {B : Addr → Prop} {H : Hp} : ∀ {xs : List EV} {vs : List V} {a : Addr}, RVL K G B H xs vs → lent xs vs a → ¬ G.C a
  | .v p :: r, v :: vs, a, ⟨h1, h2⟩, h => lent_nc h2 h
  | .b ys :: r, v :: vs, a, ⟨⟨c, us, e, hb, hc, h0, ha, hr⟩, h2⟩, h => by
    rcases h with h | h
    · rw [e] at h
      cases h
      exact hc
    · exact lent_nc h2 h
section
variable {X : Cx} {CX : CXT} {k : Nat} {fa : Addr} {fd : FuncData} {ps : List Str} {psp : PSp} {E : XK} {x : Str} {p pos : Pos} {e : Expr} {es : List Expr} {t : FA}
theorem re_call (F : FnOk X.prog X.w X.K X.mg X.base CX k fa fd ps (spOf X.K psp)) (hr : Room k X.A) (hg : Gl X x) (hm : X.mg x = some (.ref fa)) (hk : PySem.W.keepIn X.K (.ref fa) = true) (hb : Binds X.K fd ps []) (hx : Passes CX X E)
    (ha : RA X (e :: es) t) (hdb : (x == ("__debug__" : Str)) = false := by decide) (he : starEach (e :: es) X.env = (false, eval e X.env) :: starEach es X.env := by rfl) (hpl : (backTo pos (starEach es X.env)).any (·.1) = false := by rfl) :
    RE X (.Call (.Name x p) (e :: es) [] pos) (eCall psp t) := ⟨(pe_call F hr hg hm hk hb .nil hx ha.pa hdb he hpl).imp fun σ H Q ⟨G, B, f, M, Q', rep, hm, k⟩ => ⟨G, B, f, M, _, rep, hm, fun xs M1 vs H1 q hl rep1 r1 c1 => by
  show spOf X.K psp (vs ++ []) H1 Q E
  rw [List.append_nil]
  split at q
  · rename_i qs hqs
    exact ⟨B, G.C, M1, qs, _, rep1.sb, rep1.mu, rep1.cells, pvs_rl r1 hqs, q, fun p M2 v H2 h2 cs r2 c2 => k _ _ _ _ h2 (rep1.call c2 cs) r2 (c1.trans c2)⟩
  · exact q.elim⟩⟩
theorem re_call0 (F : FnOk X.prog X.w X.K X.mg X.base CX k fa fd ps (spOf X.K psp)) (hr : Room k X.A) (hg : Gl X x) (hm : X.mg x = some (.ref fa)) (hk : PySem.W.keepIn X.K (.ref fa) = true) (hb : Binds X.K fd ps []) (hx : Passes CX X E)
    (hdb : (x == ("__debug__" : Str)) = false := by decide) : RE X (.Call (.Name x p) [] [] pos) (eCall psp aNil) := ⟨(pe_call0 F hr hg hm hk hb .nil hx hdb).imp fun σ H Q ⟨G, B, f, M, Q', rep, hm, k⟩ => by
  have hm : psp [] M fun p M2 => Q' (.v p) M2 := hm
  show spOf X.K psp [] H Q E
  exact ⟨B, G.C, M, [], _, rep.sb, rep.mu, rep.cells, .nil, hm, fun p M2 v H2 h2 cs r2 c2 => k _ _ _ _ h2 (rep.call c2 cs) r2 c2⟩⟩
theorem re_callB (F : FnOk X.prog X.w X.K X.mg X.base CX k fa fd ps (spOf X.K psp)) (hr : Room k X.A) (hg : Gl X x) (hm : X.mg x = some (.ref fa)) (hk : PySem.W.keepIn X.K (.ref fa) = true) (hb : Binds X.K fd ps []) (hx : Passes CX X E)
    (ha : RA X (e :: es) t) (hdb : (x == ("__debug__" : Str)) = false := by decide) (he : starEach (e :: es) X.env = (false, eval e X.env) :: starEach es X.env := by rfl) (hpl : (backTo pos (starEach es X.env)).any (·.1) = false := by rfl) :
    RE X (.Call (.Name x p) (e :: es) [] pos) (eCallB psp t) := ⟨(pe_call F hr hg hm hk hb .nil hx ha.pa hdb he hpl).imp fun σ H Q ⟨G, B, f, M, Q', rep, hm, k⟩ => ⟨G, B, f, M, _, rep, hm, fun xs M1 vs H1 q hl rep1 r1 c1 => by
  show spOf X.K psp (vs ++ []) H1 Q E
  rw [List.append_nil]
  have w : ∀ a, (B a ∧ ¬ lent xs vs a) → B a := fun a h => h.1
  refine ⟨fun a => B a ∧ ¬ lent xs vs a, G.C, M1, lend xs, _, fun a h => ⟨rep1.sb a h, fun z => lent_nc r1 z h⟩, fun a h => rep1.mu a h.1, fun a => ⟨fun hc => ?_, (rep1.cells a).2⟩, lend_rl w r1 fun a h z => z.2 h, q, fun p M2 v H2 h2 cs r2 c2 => ?_⟩
  · obtain ⟨ys, us, h1, h2, h3⟩ := (rep1.cells a).1 hc
    exact ⟨ys, us, h1, h2, h3.weak w⟩
  · have cs' : Cells X.K B G.C H2 M2 := fun a => ⟨fun hc => by
      obtain ⟨ys, us, g1, g2, g3⟩ := (cs a).1 hc
      exact ⟨ys, us, g1, g2, g3.noL (h2.2.1 a ys g1)⟩, (cs a).2⟩
    exact k _ _ _ _ h2.2.2 (rep1.call c2 cs') (R.noL r2 h2.1) (c1.trans c2)⟩⟩
end
end Fl

namespace Fl
open PySem PySem.Spec PyProof.Rows L2

/-! ### lists of one's own, changed in place -/
section
variable {X : Cx} {e i : Expr} {m mi : FE} {pos : Pos}
theorem tyV_lst {K : PySem.W.Frag} {H : Hp} {a : Addr} {vs : List V} (h : H a = some (.lst vs)) : tyV K "list" (.ref a) H := .inl ⟨rfl, _, .inl (.inl h)⟩
/-- the slot's list, as it stands -/
theorem Rep.lst {K : PySem.W.Frag} {G : Gh} {B : Addr → Prop} {f : Fm} {M : Sto} {σ : L2.St} {H : Hp} {j : Nat} {xs : List PV} (r : Rep K G B f M σ H) (h : gt f j = some (.b xs)) : ∃ a vs, σ[j]? = some (some (.ref a)) ∧ H a = some (.lst vs) ∧ RL K H B G.C xs vs ∧ ¬ G.C a := by
  obtain ⟨v, e1, a, vs, e2, hb, hc, h0, ha, hr⟩ := r.slot j _ h
  subst e2
  exact ⟨a, vs, e1, ha, hr, hc⟩
def sApp (j : Nat) (m : FE) : FS := fun D f M => match gt f j with
  | some (.b xs) => m f M fun y M1 => match y with
    | .v p => xs.length < sizeLine ∧ D.nx (st f j (some (.b (xs ++ [p])))) M1
    | .b _ => False
  | _ => False
/-- x.append(e) -/
theorem rs_app (j : Nat) {x : Str} {np apos cpos : Pos} (ho : PE X (.Name x np) (tVar j)) (he : RE X e m)
    (hbase : attributeBase (.Name x np) "append" X.env (eval (.Name x np) X.env) = eval (.Name x np) X.env := by rfl)
    (hfew : ((backTo cpos (starEach (e :: []) X.env)).all (fun x => !x.1) && (backToKw cpos (keywordEach [] X.env)).all (fun x => x.1.isSome)
      && decide ((e :: []).length + ([] : List Keyword).length + (if ([] : List Keyword).isEmpty then 0 else 1) < 30)) = true := by rfl)
    (hline : (apos.endLine == cpos.line) = true := by rfl) (hst : starEach (e :: []) X.env = (false, eval e X.env) :: starEach [] X.env := by rfl) (hplain : (backTo cpos (starEach [] X.env)).any (·.1) = false := by rfl)
    (hs : swapsWith (.Call (.Attribute (.Name x np) "append" apos) [e] [] cpos) none pos.line X.env = pure false := by rfl) : RS X (.Expr (.Call (.Attribute (.Name x np) "append" apos) [e] [] cpos) pos) (sApp j m) := by
  refine ⟨(ps_expr (pe_bm PySem.F.plainAttrs_list PySem.F.slot_list_append PySem.F.type_list_append mt_append ho (pa_cons he.pe pa_nil hst) hbase hfew hline hst hplain) hs).imp fun D σ H ⟨G, B, f, M, D', rep, hm, k⟩ => ?_⟩
  unfold sApp at hm
  split at hm
  · rename_i xs hj
    obtain ⟨a, vs, e1, ha, hr, hc⟩ := rep.lst hj
    refine ⟨_, e1, tyV_lst ha, G, B, f, M, _, rep, hm, fun y M1 w H1 q rep1 r1 c1 => ?_⟩
    cases y with
    | b _ => exact q.elim
    | v p =>
      obtain ⟨hl, q⟩ := q
      obtain ⟨a', vs', e1', ha', hr', _⟩ := rep1.lst hj
      rw [e1] at e1'
      cases e1'
      refine ⟨a, vs', w, rfl, rfl, ha', by rw [← hr'.length]; exact hl, ?_⟩
      exact k.nx _ _ _ _ _ q (rep1.wrB e1 hj (hr'.append (.cons r1 .nil)))
  · exact hm.elim
def sPop (j : Nat) : FS := fun D f M => match gt f j with
  | some (.b xs) => xs ≠ [] ∧ D.nx (st f j (some (.b xs.dropLast))) M
  | _ => False
/-- x.pop() as a statement -/
theorem rs_pop (j : Nat) {x : Str} {np apos cpos : Pos} (ho : PE X (.Name x np) (tVar j))
    (hbase : attributeBase (.Name x np) "pop" X.env (eval (.Name x np) X.env) = eval (.Name x np) X.env := by rfl) (hline : (apos.endLine == cpos.line) = true := by rfl)
    (hs : swapsWith (.Call (.Attribute (.Name x np) "pop" apos) [] [] cpos) none pos.line X.env = pure false := by rfl) : RS X (.Expr (.Call (.Attribute (.Name x np) "pop" apos) [] [] cpos) pos) (sPop j) := by
  refine ⟨(ps_expr (pe_bm0 PySem.F.plainAttrs_list PySem.F.slot_list_pop PySem.F.type_list_pop mt_pop ho hbase hline) hs).imp fun D σ H ⟨G, B, f, M, D', rep, hm, k⟩ => ?_⟩
  unfold sPop at hm
  split at hm
  · rename_i xs hj
    obtain ⟨hne, q⟩ := hm
    obtain ⟨a, vs, e1, ha, hr, hc⟩ := rep.lst hj
    have hl := hr.length
    have hpos : 0 < xs.length := List.length_pos_iff.mpr hne
    have hlt : vs.length - 1 < vs.length := by omega
    exact ⟨_, e1, tyV_lst ha, a, vs, vs[vs.length - 1], rfl, rfl, ha, List.getElem?_eq_getElem hlt, k.nx _ _ _ _ _ q (rep.wrB e1 hj hr.dropLast)⟩
  · exact hm.elim
def sPopAt (j : Nat) (m : FE) : FS := fun D f M => match gt f j with
  | some (.b xs) => m f M fun y M1 => match y with
    | .v (.int n) => (0 ≤ n ∧ n < xs.length ∧ n < 2 ^ 62) ∧ D.nx (st f j (some (.b (xs.eraseIdx n.toNat)))) M1
    | _ => False
  | _ => False
theorem sizeOfL {I : Nat} (h : I ≤ sizeLine) : I < 2 ^ 63 := Nat.lt_of_le_of_lt h line63
/-- x[i] = e: a list of one's own, or one handed by reference -/
def sPut (j : Nat) (mi m : FE) : FS := fun D f M => m f M fun y M1 => match gt f j with
  | some (.b xs) => mi f M1 fun n M2 => match n with
    | .v (.int n) => match y with
      | .v p => (0 ≤ n ∧ n < xs.length) ∧ D.nx (st f j (some (.b (xs.set n.toNat p)))) M2
      | .b _ => False
    | _ => False
  | some (.v (.cell a)) => mi f M1 fun n M2 => match n with
    | .v (.int n) => match y with
      | .v p => match M2 a with
        | some xs => (0 ≤ n ∧ n < xs.length) ∧ D.nx f (upM M2 a (xs.set n.toNat p))
        | none => False
      | .b _ => False
    | _ => False
  | _ => False
theorem ixN_nat {n : Nat} {i : Int} (h0 : 0 ≤ i) (h1 : i < n) : ixN n i = some i.toNat := by
  unfold ixN
  rw [if_pos h0, if_pos h1]
theorem rs_put (j : Nat) {x : Str} {np tpos : Pos} (ho : PE X (.Name x np) (tVar j)) (hi : RE X i mi) (he : RE X e m)
    (ha : ∀ v, assign (.Subscript (.Name x np) i tpos) X.env v = (do
      let ov ← holding [v] (eval (.Name x np) X.env)
      let iv ← holding [v, ov] (eval i X.env)
      standAt tpos
      holding [v, ov, iv] (setItem ov iv v)
      release [v, ov, iv] []) := by intro _; rfl)
    (hs : swapsWithSole [.Subscript (.Name x np) i tpos] e pos.line X.env = pure false := by rfl) (hw : swappedStores [.Subscript (.Name x np) i tpos] e X.env = pure none := by rfl)
    (h1 : (assignEach [.Subscript (.Name x np) i tpos] X.env).map (·.2) = [assign (.Subscript (.Name x np) i tpos) X.env] := by rfl) : RS X (.Assign [.Subscript (.Name x np) i tpos] e pos) (sPut j mi m) := by
  refine ⟨(ps_asg he.pe (pg_sub ho hi.pe set_list ha) hs hw h1).imp fun D σ H ⟨G, B, f, M, D', rep, hm, k⟩ => ⟨G, B, f, M, _, rep, hm, fun y M1 v H1 q rep1 r1 c1 => ?_⟩⟩
  split at q
  · rename_i xs hj
    obtain ⟨a, vs0, e1, _, _, _⟩ := rep1.lst hj
    refine ⟨_, e1, G, B, f, M1, _, rep1, q, fun n M2 u H2 q2 rep2 r2 c2 => ?_⟩
    split at q2
    · rename_i n
      split at q2
      · rename_i p
        obtain ⟨⟨h0, hl⟩, q2⟩ := q2
        obtain ⟨a', vs, e1', ha, hr, _⟩ := rep2.lst hj
        rw [e1] at e1'
        cases e1'
        cases r2
        have r1' : R X.K H1 B G.C p v := r1
        exact ⟨a, vs, n, n.toNat, rfl, rfl, ha, ixN_nat h0 (by rw [← hr.length]; exact hl), k.nx _ _ _ _ _ q2 (rep2.wrB e1 hj (hr.set (r1'.evc rep1 c2) _))⟩
      · exact q2.elim
    · exact q2.elim
  · rename_i a hj
    obtain ⟨w, e1, r0⟩ := rep1.slot j _ hj
    cases r0 with
    | cell hc =>
    refine ⟨_, e1, G, B, f, M1, _, rep1, q, fun n M2 u H2 q2 rep2 r2 c2 => ?_⟩
    split at q2
    · rename_i n
      split at q2
      · rename_i p
        split at q2
        · rename_i xs hM
          obtain ⟨⟨h0, hl⟩, q2⟩ := q2
          obtain ⟨ys, vs, g1, g2, g3⟩ := (rep2.cells a).1 hc
          rw [hM] at g1
          cases g1
          cases r2
          have r1' : R X.K H1 B G.C p v := r1
          exact ⟨a, vs, n, n.toNat, rfl, rfl, g2, ixN_nat h0 (by rw [← g3.length]; exact hl), k.nx _ _ _ _ _ q2 (rep2.wrC hc (g3.set (r1'.evc rep1 c2) _))⟩
        · exact q2.elim
      · exact q2.elim
    · exact q2.elim
  · exact q.elim
theorem rs_popAt (j : Nat) {x : Str} {np apos cpos : Pos} (ho : PE X (.Name x np) (tVar j)) (he : RE X e m)
    (hbase : attributeBase (.Name x np) "pop" X.env (eval (.Name x np) X.env) = eval (.Name x np) X.env := by rfl)
    (hfew : ((backTo cpos (starEach (e :: []) X.env)).all (fun x => !x.1) && (backToKw cpos (keywordEach [] X.env)).all (fun x => x.1.isSome)
      && decide ((e :: []).length + ([] : List Keyword).length + (if ([] : List Keyword).isEmpty then 0 else 1) < 30)) = true := by rfl)
    (hline : (apos.endLine == cpos.line) = true := by rfl) (hst : starEach (e :: []) X.env = (false, eval e X.env) :: starEach [] X.env := by rfl) (hplain : (backTo cpos (starEach [] X.env)).any (·.1) = false := by rfl)
    (hs : swapsWith (.Call (.Attribute (.Name x np) "pop" apos) [e] [] cpos) none pos.line X.env = pure false := by rfl) : RS X (.Expr (.Call (.Attribute (.Name x np) "pop" apos) [e] [] cpos) pos) (sPopAt j m) := by
  refine ⟨(ps_expr (pe_bm PySem.F.plainAttrs_list PySem.F.slot_list_pop PySem.F.type_list_pop mt_popAt ho (pa_cons he.pe pa_nil hst) hbase hfew hline hst hplain) hs).imp fun D σ H ⟨G, B, f, M, D', rep, hm, k⟩ => ?_⟩
  unfold sPopAt at hm
  split at hm
  · rename_i xs hj
    obtain ⟨a, vs, e1, ha, hr, hc⟩ := rep.lst hj
    refine ⟨_, e1, tyV_lst ha, G, B, f, M, _, rep, hm, fun y M1 w H1 q rep1 r1 c1 => ?_⟩
    split at q
    · rename_i n
      obtain ⟨⟨h0, hl, hs62⟩, q⟩ := q
      obtain ⟨a', vs', e1', ha', hr', _⟩ := rep1.lst hj
      rw [e1] at e1'
      cases e1'
      cases r1
      have hlt : n.toNat < vs'.length := by rw [← hr'.length]; omega
      refine ⟨a, vs', n, n.toNat, vs'[n.toNat], rfl, rfl, ha', by omega, by omega, ?_, List.getElem?_eq_getElem hlt, k.nx _ _ _ _ _ q (rep1.wrB e1 hj (hr'.eraseIdx _))⟩
      have e1 : decide (0 ≤ n) = true := decide_eq_true h0
      have e2 : decide (n < (vs'.length : Int)) = true := decide_eq_true (by rw [← hr'.length]; exact hl)
      unfold seqIndex?
      simp only [if_neg (show ¬ n < 0 by omega)]
      rw [e1, e2]
      rfl
    · exact q.elim
  · exact hm.elim
end
end Fl

namespace Fl
open PySem PySem.Spec PyProof.Rows L2

/-! ### while -/
section
variable {X : Cx} {t : FT} {m : FS} {pos : Pos}
def whP (t : FT) (m : FS) (D : FEnds) : Nat → Fm → Sto → Prop
  | 0 => fun _ _ => False
  | n + 1 => fun f M => t f M fun b M1 => (b = true → m { D with nx := whP t m D n, ct := whP t m D n, bk := D.nx } f M1) ∧ (b = false → D.nx f M1)
def sWhile (t : FT) (m : FS) : FS := fun D f M => ∃ n, whP t m D n f M
theorem rs_while {c : Expr} {body : List Stmt} (hp : PassesOwn (model X.prog X.w) X.A X.env X.xe) (hc : RT X c t) (hb : RSs X body m) : RS X (.While c body [] pos) (sWhile t m) := by
  refine ⟨(ps_while hp hc.pt hb.pss).imp fun D σ H ⟨G, B, f, M, D', rep, ⟨n, hm⟩, k⟩ => ?_⟩
  refine ⟨fun n σ H => ∃ B f M, Rep X.K G B f M σ H ∧ whP t m D' n f M, ⟨n, B, f, M, rep, hm⟩, ?_⟩
  rintro n σ H ⟨B, f, M, rep, hm⟩
  cases n with
  | zero => exact hm.elim
  | succ n =>
    refine ⟨G, B, f, M, _, rep, hm, fun b M1 H1 q rep1 c1 => ?_⟩
    cases b with
    | true =>
      rw [if_pos rfl]
      refine ⟨fun σ' H' => ∃ B f M, Rep X.K G B f M σ' H' ∧ whP t m D' n f M, fun σ' H' h => ⟨n, Nat.lt_succ_self n, h⟩, G, B, f, M1, _, rep1, q.1 rfl, ?_⟩
      exact ⟨fun B f M σ H h r => ⟨B, f, M, r, h⟩, fun B f M σ H h r => k.nx _ _ _ _ _ h r, fun B f M σ H h r => ⟨B, f, M, r, h⟩, k.rt⟩
    | false =>
      rw [if_neg Bool.false_ne_true]
      exact k.nx _ _ _ _ _ (q.2 rfl) rep1
end

/-! ### what is walked -/
abbrev FI := Fm → Sto → (List PV → Sto → Prop) → Prop
def ItP (K : PySem.W.Frag) (C : Addr → Prop) (J : It) (pins : List (PV × V)) (xs : List PV) : Prop := ∀ (i : Nat) (B : Addr → Prop) (H : Hp), (∀ q ∈ pins, R K H B C q.1 q.2) → (∀ a, B a → Mut (H a)) →
  (i < xs.length → J.go i H) ∧ J.stop xs.length H ∧ ∀ v H', i < xs.length → J.yld i H v H' → ∃ x, xs[i]? = some x ∧ (∀ a o, H a = some o → H' a = some o) ∧ R K H' B C x v
def tI (K : PySem.W.Frag) (m : FI) : TI := fun σ H S => ∃ G B f M Q', Rep K G B f M σ H ∧ m f M Q' ∧ ∀ xs M' J pins H', Q' xs M' → Rep K G B f M' σ H' → EvC G.C H H' → (∀ q ∈ pins, R K H' B G.C q.1 q.2) → ItP K G.C J pins xs → S J H'
structure RI (X : Cx) (tg e : Expr) (m : FI) : Prop where
  pi : PI X tg e (tI X.K m)
theorem _root_.L2.PI.imp {X : Cx} {tg e : Expr} {t t' : TI} (h : PI X tg e t) (w : ∀ σ H Q, t' σ H Q → t σ H Q) : PI X tg e t' := ⟨fun pins s σ H Q I q => h.run pins s σ H Q I (w σ H Q q)⟩
section
variable {X : Cx} {tg e : Expr} {es : List Expr} {m : FE} {mi : FI} {pos : Pos} {g : FG} {ws : List Nat} {mb : FS}
/-- a list, a tuple -/
def iLst (m : FE) : FI := fun f M Q => m f M fun x M1 => match x with
  | .v (.lst xs) => Q xs M1
  | _ => False
def iTup (m : FE) : FI := fun f M Q => m f M fun x M1 => match x with
  | .v (.tup xs) => Q xs M1
  | _ => False
theorem ri_lst (h : RE X e m) : RI X tg e (iLst m) := ⟨(pi_list h.pe).imp fun σ H S ⟨G, B, f, M, Q', rep, hm, k⟩ => ⟨G, B, f, M, _, rep, hm, fun x M1 v H1 q rep1 r1 c1 => by
  split at q
  · rename_i xs
    have r1 : R X.K H1 B G.C (.lst xs) v := r1
    have r2 := r1
    cases r1 with
    | @lst a vs _ hq hr =>
    refine ⟨a, rfl, ⟨_, hq.sq⟩, k xs M1 _ [(.lst xs, .ref a)] H1 q rep1 c1 (fun z hz => by simp at hz; subst hz; exact r2) fun i B' H' hp mu => ?_⟩
    have hp' := hp (.lst xs, .ref a) (by simp)
    cases hp' with
    | lst hq' hr' =>
    refine ⟨fun hi => ?_, ⟨_, hq'.sq, Nat.le_of_eq hr'.length.symm⟩, fun w H2 hi y => ?_⟩
    · have hi' := hi
      rw [hr'.length] at hi'
      exact ⟨_, _, hq'.sq, List.getElem?_eq_getElem hi'⟩
    · obtain ⟨e, y⟩ := y
      subst e
      obtain ⟨x, h1, h2⟩ := hr'.get' (y _ hq'.sq)
      exact ⟨x, h1, fun _ _ z => z, h2⟩
  · exact q.elim⟩⟩
theorem ri_tup (h : RE X e m) : RI X tg e (iTup m) := ⟨(pi_tup h.pe).imp fun σ H S ⟨G, B, f, M, Q', rep, hm, k⟩ => ⟨G, B, f, M, _, rep, hm, fun x M1 v H1 q rep1 r1 c1 => by
  split at q
  · rename_i xs
    have r1 : R X.K H1 B G.C (.tup xs) v := r1
    have r2 := r1
    cases r1 with
    | @tup a vs _ hq hr =>
    refine ⟨a, rfl, ⟨_, hq⟩, k xs M1 _ [(.tup xs, .ref a)] H1 q rep1 c1 (fun z hz => by simp at hz; subst hz; exact r2) fun i B' H' hp mu => ?_⟩
    have hp' := hp (.tup xs, .ref a) (by simp)
    cases hp' with
    | tup hq' hr' =>
    refine ⟨fun hi => ?_, ⟨_, hq', Nat.le_of_eq hr'.length.symm⟩, fun w H2 hi y => ?_⟩
    · have hi' := hi
      rw [hr'.length] at hi'
      exact ⟨_, _, hq', List.getElem?_eq_getElem hi'⟩
    · obtain ⟨e, y⟩ := y
      subst e
      obtain ⟨x, h1, h2⟩ := hr'.get' (y _ hq')
      exact ⟨x, h1, fun _ _ z => z, h2⟩
  · exact q.elim⟩⟩
/-- lo, lo + 1, .. below hi -/
def rng (lo : Int) : Nat → List PV
  | 0 => []
  | n + 1 => .int lo :: rng (lo + 1) n
theorem rng_length : ∀ (n : Nat) (lo : Int), (rng lo n).length = n
  | 0, _ => rfl
  | n + 1, lo => congrArg (· + 1) (rng_length n (lo + 1))
theorem rng_get : ∀ (n : Nat) (lo : Int) (i : Nat), i < n → (rng lo n)[i]? = some (.int (lo + i))
  | n + 1, lo, 0, _ => by
    show some (PV.int lo) = _
    rw [show lo + ((0 : Nat) : Int) = lo by omega]
  | n + 1, lo, i + 1, h => by
    show (rng (lo + 1) n)[i]? = _
    rw [rng_get n (lo + 1) i (by omega)]
    rw [show lo + 1 + (i : Int) = lo + ((i + 1 : Nat) : Int) by omega]
theorem it_rng {K : PySem.W.Frag} {C : Addr → Prop} (lo : Int) (n : Nat) : ItP K C (Itr lo n) [] (rng lo n) := fun i B H _ _ => by
  rw [rng_length]
  refine ⟨fun h => h, Nat.le_refl _, fun v H' hi y => ⟨.int (lo + i), rng_get n lo i hi, ?_, ?_⟩⟩
  · rw [y.1]
    exact fun _ _ z => z
  · rw [y.2]
    exact .int _
def iR1 (ma : FA) : FI := fun f M Q => ma f M fun xs M1 => match xs with
  | [.v (.int n)] => (-(2 ^ 62) ≤ n ∧ n < 2 ^ 62) ∧ Q (rng 0 n.toNat) M1
  | _ => False
def iR2 (ma : FA) : FI := fun f M Q => ma f M fun xs M1 => match xs with
  | [.v (.int i), .v (.int n)] => (-(2 ^ 62) ≤ i ∧ i < 2 ^ 62 ∧ -(2 ^ 62) ≤ n ∧ n < 2 ^ 62) ∧ Q (rng i (n - i).toNat) M1
  | _ => False
theorem ri_rng1 {a : Expr} {ma : FA} {p : Pos} (hg : Gl X "range") (hm : X.mg "range" = none) (ha : RA X [a] ma) (hs : starEach [a] X.env = [(false, eval a X.env)] := by rfl) : RI X tg (.Call (.Name "range" p) [a] [] pos) (iR1 ma) :=
  ⟨(pi_range1 hg hm ha.pa hs).imp fun σ H S ⟨G, B, f, M, Q', rep, hm, k⟩ => ⟨G, B, f, M, _, rep, hm, fun xs M1 vs H1 q hl rep1 r1 c1 => by
    split at q
    · rename_i n
      match vs, r1 with
      | [v], ⟨r, _⟩ =>
        cases r
        exact ⟨n, rfl, q.1.1, q.1.2, k _ _ _ [] _ q.2 rep1 c1 (by simp) (it_rng 0 _)⟩
    · exact q.elim⟩⟩
theorem ri_rng2 {a b : Expr} {ma : FA} {p : Pos} (hg : Gl X "range") (hm : X.mg "range" = none) (ha : RA X [a, b] ma) (hs : starEach [a, b] X.env = [(false, eval a X.env), (false, eval b X.env)] := by rfl) (hs2 : starEach [b] X.env = [(false, eval b X.env)] := by rfl) :
    RI X tg (.Call (.Name "range" p) [a, b] [] pos) (iR2 ma) :=
  ⟨(pi_range2 hg hm ha.pa hs hs2).imp fun σ H S ⟨G, B, f, M, Q', rep, hm, k⟩ => ⟨G, B, f, M, _, rep, hm, fun xs M1 vs H1 q hl rep1 r1 c1 => by
    split at q
    · rename_i i n
      match vs, r1 with
      | [v, w], ⟨r, r', _⟩ =>
        cases r
        cases r'
        exact ⟨i, n, rfl, q.1, k _ _ _ [] _ q.2 rep1 c1 (by simp) (it_rng i _)⟩
    · exact q.elim⟩⟩

/-! ### for -/
def foP (g : FG) (mb : FS) (D : FEnds) : List PV → Fm → Sto → Prop
  | [] => D.nx
  | x :: xs => fun f M => g x f fun f1 => mb { D with nx := foP g mb D xs, ct := foP g mb D xs, bk := D.nx } f1 M
def sFor (mi : FI) (g : FG) (mb : FS) : FS := fun D f M => mi f M fun xs M1 => foP g mb D xs f M1
theorem Rep.pinned {K : PySem.W.Frag} {G : Gh} {B : Addr → Prop} {f : Fm} {M : Sto} {σ : L2.St} {H : Hp} {pins : List (PV × V)} (r : Rep K G B f M σ H) (h : ∀ q ∈ pins, R K H B G.C q.1 q.2) : Rep K { G with pins := pins ++ G.pins } B f M σ H :=
  ⟨r.len, fun i x hx => by
    obtain ⟨v, h1, h2⟩ := r.slot i x hx
    exact ⟨v, h1, by cases x <;> exact h2⟩, r.sep, r.cells, r.keep, r.mu, r.sub, r.amb, r.amb0, fun q hq => (List.mem_append.mp hq).elim (h q) (r.pin q)⟩
theorem Rep.unpinned {K : PySem.W.Frag} {G : Gh} {B : Addr → Prop} {f : Fm} {M : Sto} {σ : L2.St} {H : Hp} {pins : List (PV × V)} (r : Rep K { G with pins := pins ++ G.pins } B f M σ H) : Rep K G B f M σ H :=
  ⟨r.len, fun i x hx => by
    obtain ⟨v, h1, h2⟩ := r.slot i x hx
    exact ⟨v, h1, by cases x <;> exact h2⟩, r.sep, r.cells, r.keep, r.mu, r.sub, r.amb, r.amb0, fun q hq => r.pin q (List.mem_append_right _ hq)⟩
theorem rs_for {body : List Stmt} (hp : PassesOwn (model X.prog X.w) X.A X.env X.xe) (hc : X.calm = true) (hi : RI X tg e mi) (hg : RG X tg ws g) (hb : RSs X body mb)
    (hs : ∀ x, foldedSetIterable e X.env x = pure x := by intro _; rfl) : RS X (.For tg e body [] pos) (sFor mi g mb) := by
  refine ⟨(ps_for hp hc hi.pi hg.pg hb.pss hs).imp fun D σ H ⟨G, B, f, M, D', rep, hm, k⟩ => ?_⟩
  refine ⟨G, B, f, M, _, rep, hm, fun xs M1 J pins H1 q rep1 c1 hpin it => ?_⟩
  refine ⟨fun i m σ H => m = xs.length - i ∧ i ≤ xs.length ∧ ∃ B f M, Rep X.K { G with pins := pins ++ G.pins } B f M σ H ∧ foP g mb D' (xs.drop i) f M, ⟨xs.length, by simp, Nat.zero_le _, B, f, M1, rep1.pinned hpin, q⟩, ?_⟩
  rintro i m σ H ⟨rfl, hi, B, f, M, rep, hm⟩
  obtain ⟨go, stop, yld⟩ := it i B H (fun q hq => rep.pin q (List.mem_append_left _ hq)) rep.mu
  by_cases hlt : i < xs.length
  · refine .inr ⟨go hlt, fun σ H => ∃ B f M, Rep X.K { G with pins := pins ++ G.pins } B f M σ H ∧ foP g mb D' (xs.drop (i + 1)) f M, fun σ' H' h => ⟨xs.length - (i + 1), by omega, rfl, hlt, h⟩, fun v H' y => ?_⟩
    obtain ⟨x, hx, gr, r⟩ := yld v H' hlt y
    have ed : xs.drop i = x :: xs.drop (i + 1) := by
      rw [List.drop_eq_getElem_cons hlt]
      rw [List.getElem?_eq_getElem hlt] at hx
      cases hx
      rfl
    rw [ed] at hm
    refine ⟨_, B, f, M, x, _, rep.grow gr, r, hm, fun f1 σ1 q1 rep1 w1 => ⟨_, B, f1, M, _, rep1, q1, ?_⟩⟩
    exact ⟨fun B f M σ H h r => ⟨B, f, M, r, h⟩, fun B f M σ H h r => k.nx _ _ _ _ _ h r.unpinned, fun B f M σ H h r => ⟨B, f, M, r, h⟩, k.rt⟩
  · have e : i = xs.length := by omega
    subst e
    rw [List.drop_length] at hm
    exact .inl ⟨stop, k.nx _ _ _ _ _ hm rep.unpinned⟩
end
end Fl

namespace Fl
open PySem PySem.Spec PyProof.Rows L2

/-! ### list comprehensions -/
structure RTs (X : Cx) (ifs : List Expr) (m : FT) : Prop where
  pts : PTs X ifs (tT X.K m)
theorem _root_.L2.PTs.imp {X : Cx} {ifs : List Expr} {t t' : TT} (h : PTs X ifs t) (w : ∀ σ H Q, t' σ H Q → t σ H Q) : PTs X ifs t' := ⟨fun pins s σ H Q I q => h.run pins s σ H Q I (w σ H Q q)⟩
def tYs : FT := fun _ M Q => Q true M
theorem rts_nil {X : Cx} : RTs X [] tYs := ⟨pts_nil.imp fun σ H Q ⟨G, B, f, M, Q', rep, hm, k⟩ => k _ _ _ hm rep .refl⟩
theorem rts_one {X : Cx} {c : Expr} {m : FT} (h : RT X c m) : RTs X [c] m := ⟨pts_one h.pt⟩
/-- the slots of a comprehension's own names forgotten -/
def wpF (f : Fm) : List Nat → Fm
  | [] => f
  | i :: r => st (wpF f r) i none
theorem Rep.wipe {K : PySem.W.Frag} {G : Gh} {B : Addr → Prop} {f : Fm} {M : Sto} {σ : L2.St} {H : Hp} (r : Rep K G B f M σ H) : ∀ ws : List Nat, Rep K G B (wpF f ws) M (L2.wipe σ ws) H
  | [] => r
  | i :: ws => (Rep.wipe r ws).drop none
def lcP (g : FG) (mt : FT) (me : FE) (fw : Fm) : List PV → List PV → Sto → (List PV → Sto → Prop) → Prop
  | [], acc, M, Q => Q acc M
  | x :: xs, acc, M, Q => g x fw fun f2 => mt f2 M fun b M2 => (b = true → me f2 M2 fun y M3 => match y with
      | .v p => lcP g mt me fw xs (acc ++ [p]) M3 Q
      | .b _ => False) ∧ (b = false → lcP g mt me fw xs acc M2 Q)
def fLc (mi : FI) (g : FG) (mt : FT) (me : FE) (ws : List Nat) : FF := fun f M Q => mi f M fun xs M1 => xs.length ≤ sizeLine ∧ lcP g mt me (wpF f ws) xs [] M1 Q
section
variable {X : Cx} {tg elt iter : Expr} {ifs : List Expr} {scope : Scope} {own : List (Str × Nat)} {pos : Pos} {mi : FI} {g : FG} {mt : FT} {me : FE} {ws : List Nat}
theorem Evo.trans {B B1 B2 : Addr → Prop} {H H1 H2 : Hp} (a : Evo B B1 H H1) (b : Evo B1 B2 H1 H2) : Evo B B2 H H2 :=
  ⟨fun c o e n => b.keep c o (a.keep c o e n) (a.safe c o e n), fun c o e n => b.safe c o (a.keep c o e n) (a.safe c o e n)⟩
/-- the heap with the new list written -/
theorem Rep.wrNew {K : PySem.W.Frag} {G : Gh} {B : Addr → Prop} {f : Fm} {M : Sto} {σ : L2.St} {H : Hp} {D : Addr} {vs ws : List V} (r : Rep K G (orp B D) f M σ H) (hn : ¬ B D) (h0 : G.H0 D = none) (hc : ¬ G.C D)
    (hs : ∀ i xs, gt f i = some (.b xs) → σ[i]? ≠ some (some (.ref D))) : Rep K G (orp B D) f M σ (upd H D (.lst ws)) ∧ Evo (orp B D) (orp B D) H (upd H D (.lst ws)) := by
  have ev : Evo (orp B D) (orp B D) H (upd H D (.lst ws)) := ⟨fun c u e n => by
    have ne : c ≠ D := fun z => n (.inr z)
    rw [upd_ne ne]
    exact e, fun _ _ _ n => n⟩
  refine ⟨⟨r.len, fun i x hi => ?_, r.sep, fun c => ⟨fun hcc => ?_, (r.cells c).2⟩, fun c o e n => ?_, fun c hb => ?_, r.sub, r.amb, r.amb0, fun q hq => (r.pin q hq).evo r.mu ev⟩, ev⟩
  · obtain ⟨v, h1, h2⟩ := r.slot i x hi
    refine ⟨v, h1, ?_⟩
    cases x with
    | v p => exact R.evo r.mu ev h2
    | b xs =>
      obtain ⟨a, us, e, hb, hc', h0', ha, hr⟩ := h2
      have ne : a ≠ D := fun z => hs i xs hi (by rw [h1, e, z])
      exact ⟨a, us, e, hb, hc', h0', by rw [upd_ne ne]; exact ha, hr.evo r.mu ev⟩
  · obtain ⟨xs, us, h1, h2, h3⟩ := (r.cells c).1 hcc
    have ne : c ≠ D := fun z => hc (by rw [← z]; exact hcc)
    exact ⟨xs, us, h1, by rw [upd_ne ne]; exact h2, h3.evo r.mu ev⟩
  · have ne : c ≠ D := fun z => by rw [z, h0] at e; cases e
    rw [upd_ne ne]
    exact r.keep c o e n
  · by_cases e : c = D
    · rw [e, upd_same]
      trivial
    · rw [upd_ne e]
      exact r.mu c hb
theorem gt_wpF {f : Fm} {i : Nat} {x : EV} : ∀ {ws : List Nat}, gt (wpF f ws) i = some x → gt f i = some x ∧ i ∉ ws
  | [], h => ⟨h, by simp⟩
  | j :: ws, h => by
    rcases gt_st h with ⟨e, q⟩ | ⟨e, q⟩
    · cases q
    · obtain ⟨h1, h2⟩ := gt_wpF q
      exact ⟨h1, by simp only [List.mem_cons, not_or]; exact ⟨e, h2⟩⟩
theorem lc_ok {K : PySem.W.Frag} {vs0 : List Nat} (hw : ∀ i ∈ ws, i ∈ vs0) {σ : L2.St} {H : Hp} {Q : VK} (h : tF K (fLc mi g mt me vs0) σ H Q) : tLc (tI K mi) (tG K ws g) (tT K mt) (tE K me) vs0 σ H Q := by
  obtain ⟨G, B, f, M, Q', rep, hm, k⟩ := h
  refine ⟨G, B, f, M, _, rep, hm, fun xs M1 J pins H1 q rep1 c1 hpin it D hD => ?_⟩
  obtain ⟨hz, q⟩ := q
  have nb : ¬ B D := rep1.nb hD
  have h0 : G.H0 D = none := rep1.fresh0 hD
  have nc : ¬ G.C D := fun z => nb (rep1.sb D z)
  have nsl : ∀ i ys, gt f i = some (.b ys) → σ[i]? ≠ some (some (.ref D)) := fun i ys hi e => by
    obtain ⟨v, e1, a, vs, e2, hb, _⟩ := rep.slot i _ hi
    rw [e] at e1
    cases e1
    cases e2
    exact nb hb
  have r0 : Rep K { G with pins := pins ++ G.pins } (orp B D) f M1 σ (upd H1 D (.lst [])) := (rep1.newL hD).pinned fun q hq => (hpin q hq).evo rep1.mu (evo_new hD)
  -- the invariant: turn, measure, heap
  refine ⟨fun i m H' => m = xs.length - i ∧ i ≤ xs.length ∧ ∃ acc vs M, Rep K { G with pins := pins ++ G.pins } (orp B D) f M σ H' ∧ H' D = some (.lst vs) ∧ RL K H' (orp B D) G.C acc vs ∧ vs.length ≤ i ∧ EvC G.C H1 H' ∧ lcP g mt me (wpF f vs0) (xs.drop i) acc M Q', ⟨xs.length, by simp, Nat.zero_le _, [], [], M1, r0, upd_same, .nil, Nat.le_refl _, .new hD, q⟩, ?_⟩
  rintro i m H' ⟨rfl, hi, acc, vs, M, rep, hD', hr, hlen, ec, hm⟩
  obtain ⟨go, stop, yld⟩ := it i (orp B D) H' (fun q hq => rep.pin q (List.mem_append_left _ hq)) rep.mu
  by_cases hlt : i < xs.length
  · refine .inr ⟨go hlt, fun H' => ∃ acc vs M, Rep K { G with pins := pins ++ G.pins } (orp B D) f M σ H' ∧ H' D = some (.lst vs) ∧ RL K H' (orp B D) G.C acc vs ∧ vs.length ≤ i + 1 ∧ EvC G.C H1 H' ∧ lcP g mt me (wpF f vs0) (xs.drop (i + 1)) acc M Q', fun H' h => ⟨xs.length - (i + 1), by omega, rfl, hlt, h⟩, fun v H2 y => ?_⟩
    obtain ⟨x, hx, gr, r⟩ := yld v H2 hlt y
    have ed : xs.drop i = x :: xs.drop (i + 1) := by
      rw [List.drop_eq_getElem_cons hlt]
      rw [List.getElem?_eq_getElem hlt] at hx
      cases hx
      rfl
    rw [ed] at hm
    have rep2 := rep.grow gr
    have ec2 : EvC G.C H' H2 := fun a o e _ => gr a o e
    have hD2 := gr _ _ hD'
    have hr2 : RL K H2 (orp B D) G.C acc vs := RL.evc (G := { G with pins := pins ++ G.pins }) hr rep ec2
    refine ⟨_, _, _, M, x, _, rep2.wipe _, r, hm, fun f3 σ3 q3 rep3 w3 => ⟨?_, ?_⟩⟩
    · rw [w3 _ hw]
      have idem : ∀ (σ : L2.St) (a b : List Nat), (∀ i ∈ a, i ∈ b) → L2.wipe (L2.wipe σ a) b = L2.wipe σ b := by
        intro σ a
        induction a with
        | nil => intro b _; rfl
        | cons j a ih =>
          intro b hb
          show L2.wipe ((L2.wipe σ a).set j none) b = _
          rw [wipe_set (hb j (by simp)), ih b fun i hi => hb i (List.mem_cons_of_mem _ hi)]
      exact idem σ _ _ fun i hi => hi
    refine ⟨_, _, f3, M, _, rep3, q3, fun b M4 H4 q4 rep4 c4 => ?_⟩
    -- what becomes of the def's own slots
    have back : ∀ {M5 : Sto} {H5 : Hp}, Rep K { G with pins := pins ++ G.pins } (orp B D) f3 M5 σ3 H5 → EvC G.C H2 H5 → Rep K { G with pins := pins ++ G.pins } (orp B D) f M5 σ H5 := fun {M5 H5} r5 e5 => rep2.call e5 r5.cells
    cases b with
    | true =>
      refine iteT ?_
      refine ⟨_, _, f3, M4, _, rep4, q4.1 rfl, fun y M5 w H5 q5 rep5 r5 c5 => ?_⟩
      cases y with
      | b _ => exact q5.elim
      | v p =>
        have e25 : EvC G.C H2 H5 := c4.trans c5
        have hD5 : H5 D = some (.lst vs) := e25 _ _ hD2 nc
        have hr5 : RL K H5 (orp B D) G.C acc vs := RL.evc (G := { G with pins := pins ++ G.pins }) hr2 rep2 e25
        have repf := back rep5 e25
        obtain ⟨repn, ev⟩ := repf.wrNew (vs := vs) (ws := vs ++ [w]) nb h0 nc nsl
        refine ⟨vs, hD5, by omega, acc ++ [p], vs ++ [w], M5, repn, upd_same, (hr5.append (.cons r5 .nil)).evo repf.mu ev, by simp; omega, ?_, q5⟩
        exact fun c o e n => by
          have ne : c ≠ D := ne_of_none e hD
          rw [upd_ne ne]
          exact ((ec.trans ec2).trans e25) c o e n
    | false =>
      refine iteF ?_
      exact ⟨acc, vs, M4, back rep4 c4, c4 _ _ hD2 nc, RL.evc (G := { G with pins := pins ++ G.pins }) hr2 rep2 c4, by omega, (ec.trans ec2).trans c4, q4.2 rfl⟩
  · have e : i = xs.length := by omega
    subst e
    rw [List.drop_length] at hm
    exact .inl ⟨stop, k acc M D vs H' hm rep.unpinned hD' hr nb h0 (c1.trans ec)⟩
theorem rf_lc (hc : X.calm = true) (hN : X.N.Nodup) (hi : RI X tg iter mi) (ok : BlkOk X.N X.env.scope scope own)
    (hg : ∀ (s : Shared) (H : Hp) (C : Addr) (cl : List (Str × Addr)) (fp : List Addr), RG (X.blk s H scope (compEnvC scope cl C X.env) fp) tg ws g) (ht : ∀ (s : Shared) (H : Hp) (C : Addr) (cl : List (Str × Addr)) (fp : List Addr), RTs (X.blk s H scope (compEnvC scope cl C X.env) fp) ifs mt)
    (he : ∀ (s : Shared) (H : Hp) (C : Addr) (cl : List (Str × Addr)) (fp : List Addr), RE (X.blk s H scope (compEnvC scope cl C X.env) fp) elt me) (hw : ∀ i ∈ ws, i ∈ own.map (·.2) := by decide) (hs : ∀ x, foldedSetIterable iter X.env x = pure x := by intro _; rfl) :
    RF X (.ListComp elt [⟨tg, iter, ifs, 0⟩] scope pos) (fLc mi g mt me (own.map (·.2))) := by
  exact ⟨(pe_lc (g := tG X.K ws g) (tt := tT X.K mt) (te := tE X.K me) hc hN hi.pi ok (fun s H C cl fp => (hg s H C cl fp).pg) (fun s H C cl fp => (ht s H C cl fp).pts) (fun s H C cl fp => (he s H C cl fp).pe) hs).imp fun σ H Q q => lc_ok hw q⟩
end
end Fl

namespace Fl
open PySem PySem.Spec PyProof.Rows L2

/-! ### a def -/
def fr0 (n : Nat) (args : List PV) : Fm := args.map (fun p => some (.v p)) ++ List.replicate n none
theorem gt_app1 : ∀ {l r : Fm} {i : Nat} {x : EV}, gt (l ++ r) i = some x → (gt l i = some x ∧ i < l.length) ∨ (l.length ≤ i ∧ gt r (i - l.length) = some x)
  | [], r, i, x, h => .inr ⟨Nat.zero_le _, h⟩
  | a :: l, r, 0, x, h => .inl ⟨h, Nat.succ_pos _⟩
  | a :: l, r, i + 1, x, h => by
    rcases gt_app1 (l := l) (r := r) (i := i) h with ⟨h1, h2⟩ | ⟨h1, h2⟩
    · exact .inl ⟨h1, Nat.succ_lt_succ h2⟩
    · exact .inr ⟨Nat.succ_le_succ h1, by rw [show i + 1 - (a :: l).length = i - l.length by simp]; exact h2⟩
theorem gt_none : ∀ {n i : Nat} {x : EV}, gt (List.replicate n none) i = some x → False
  | 0, _, _, h => nomatch h
  | n + 1, 0, _, h => nomatch h
  | n + 1, i + 1, _, h => gt_none (n := n) (i := i) h
theorem gt_args {K : PySem.W.Frag} {H : Hp} {B C : Addr → Prop} : ∀ {ps : List PV} {vs : List V} {i : Nat} {x : EV}, RL K H B C ps vs → gt (ps.map fun p => some (.v p)) i = some x → ∃ p v, x = .v p ∧ vs[i]? = some v ∧ R K H B C p v
  | _, _, _, _, .nil, h => nomatch h
  | _, _, 0, _, .cons r _, h => by cases h; exact ⟨_, _, rfl, rfl, r⟩
  | _, _, i + 1, x, .cons _ t, h => by
    obtain ⟨p, v, e, h1, h2⟩ := gt_args (i := i) t h
    exact ⟨p, v, e, by simpa using h1, h2⟩
theorem rep_start {K : PySem.W.Frag} {H : Hp} {B0 C : Addr → Prop} {M : Sto} {ps : List PV} {vs : List V} {N : List Str} (hN : vs.length ≤ N.length) (hs : ∀ a, C a → B0 a) (mu : ∀ a, B0 a → Mut (H a)) (cs : Cells K B0 C H M) (r : RL K H B0 C ps vs) :
    Rep K ⟨H, B0, C, []⟩ B0 (fr0 (N.length - vs.length) ps) M (L2.start N vs) H := by
  refine ⟨?_, fun i x h => ?_, fun i j xs ys a h1 h2 e1 e2 => ?_, cs, .refl, mu, hs, fun a h => h, fun a h z => ?_, fun q h => nomatch h⟩
  · unfold fr0 L2.start
    rw [List.length_append, List.length_append, List.length_map, List.length_map, List.length_replicate, List.length_replicate, r.length]
  · unfold fr0 at h
    rcases gt_app1 h with ⟨h1, h2⟩ | ⟨h1, h2⟩
    · obtain ⟨p, v, e, q1, q2⟩ := gt_args r h1
      subst e
      refine ⟨v, ?_, q2⟩
      unfold L2.start
      rw [List.getElem?_append_left (by rw [List.length_map]; exact (List.getElem?_eq_some_iff.mp q1).1), List.getElem?_map, q1]
      rfl
    · exact (gt_none h2).elim
  · unfold fr0 at h1
    rcases gt_app1 h1 with ⟨q1, _⟩ | ⟨_, q2⟩
    · obtain ⟨p, v, e, _⟩ := gt_args r q1
      cases e
    · exact (gt_none q2).elim
  · have := mu a h
    have z : H a = none := z
    rw [z] at this
    exact this
section
variable {P : Program} {w : World} {K : PySem.W.Frag} {mg : Str → Option Value} {base : Heap}
/-- what a body's reading must give -/
abbrev fE (Q : PV → Sto → Prop) : FEnds := { nx := fun _ M => Q .non M, rt := Q }
theorem fn_ok {x qual : Str} {stm : Stmt} {f : Addr} {fd : FuncData} {N ps : List Str} {k n : Nat} {psp : PSp} {mb : FS} (F : Fun K x qual stm f fd) (S : FnScope N ps (defScope stm)) (hn : N.length = ps.length + n)
    (hb : ∀ (cdv : Value) (A : Around) (outer : List Env) (s : Shared) (H : Hp) (E : XK), Room k (A.deeper (envOfC qual (defScope stm) s.heap.objs.size f cdv)) → RSs (cxOf CX0 P w K mg base N qual (defScope stm) f cdv A outer s H E).nox (defBody stm) mb)
    (hp : ∀ args M Q, psp args M Q → args.length = ps.length ∧ mb (fE Q) (fr0 n args) M) : FnOk P w K mg base CX0 (k + 1) f fd ps (spOf K psp) := by
  refine F.ok S (fun vs H Q E h => ?_) (fun cdv A outer s H vs Q E hr h => ?_)
  · obtain ⟨B0, C, M, args, Q', _, _, _, r, h, _⟩ := h
    rw [← r.length]
    exact (hp _ _ _ h).1
  · obtain ⟨B0, C, M, args, Q', h1, h2, h3, r, h, fin⟩ := h
    obtain ⟨hl, h⟩ := hp _ _ _ h
    refine ⟨_, (hb cdv A outer s H E hr).pss, ⟨H, B0, C, []⟩, B0, fr0 (N.length - vs.length) args, M, fE Q', rep_start (by rw [← r.length]; omega) h1 h2 h3 r, ?_, ?_⟩
    · rw [show N.length - vs.length = n by rw [← r.length]; omega]
      exact h
    · refine ⟨fun B f M σ H1 q rep => ?_, fun _ _ _ _ _ q => q.elim, fun _ _ _ _ _ q => q.elim, fun p M v H1 q rt => fin p M v H1 q rt.1 rt.2.1 rt.2.2⟩
      obtain ⟨a1, a2, a3⟩ := rep.ret (x := .v .non) (v := .non) R.non
      exact fin .non M .non H1 q a1 a2 a3
end

/-! ### arithmetic -/
section
variable {K : PySem.W.Frag}
theorem op_scal {r : R2} {op : O2} (h : ∀ G B f M σ H x y v w k Q, Rep K G B f M σ H → RV K G B H x v → RV K G B H y w → op M x y k → (∀ p u H', k p → Rep K G B f M σ H' → R K H' B G.C p u → EvC G.C H H' → Q u H') → r v w H Q) : Op2 K r op := h
def addP : O2 := fun _ x y k => match x, y with
  | .v (.int i), .v (.int j) => k (.int (i + j))
  | .v (.tup xs), .v (.tup ys) => xs.length + ys.length ≤ sizeLine ∧ k (.tup (xs ++ ys))
  | .v (.lst xs), .v (.lst ys) => xs.length + ys.length ≤ sizeLine ∧ k (.lst (xs ++ ys))
  | .b xs, .v (.lst ys) => xs.length + ys.length ≤ sizeLine ∧ k (.lst (xs ++ ys))
  | .v (.lst xs), .b ys => xs.length + ys.length ≤ sizeLine ∧ k (.lst (xs ++ ys))
  | .v (.str a), .v (.str b) => a.length + b.length ≤ sizeLine ∧ k (.str (a ++ b))
  | _, _ => False
/-- a list to be read -/
theorem rv_lst {G : Gh} {B : Addr → Prop} {f : Fm} {M : Sto} {σ : L2.St} {H : Hp} {xs : List PV} {v : V} (h : RV K G B H (.v (.lst xs)) v) : ∃ a vs, v = .ref a ∧ H a = some (.lst vs) ∧ RL K H B G.C xs vs := by
  have h' : R K H B G.C (.lst xs) v := h
  cases h' with
  | lst h1 r => exact ⟨_, _, rfl, h1.1, r⟩
theorem rv_b {G : Gh} {B : Addr → Prop} {H : Hp} {xs : List PV} {v : V} (h : RV K G B H (.b xs) v) : ∃ a vs, v = .ref a ∧ H a = some (.lst vs) ∧ RL K H B G.C xs vs := by
  obtain ⟨a, vs, e, _, _, _, ha, r⟩ := h
  exact ⟨a, vs, e, ha, r⟩
theorem new_lst {G : Gh} {B : Addr → Prop} {f : Fm} {M : Sto} {σ : L2.St} {H : Hp} {xs : List PV} {vs : List V} {p : Addr} (rep : Rep K G B f M σ H) (r : RL K H B G.C xs vs) (hp : H p = none) : R K (upd H p (.lst vs)) B G.C (.lst xs) (.ref p) :=
  .lst ⟨upd_same, rep.nb hp⟩ (r.evc rep (.new hp))
theorem new_tup {G : Gh} {B : Addr → Prop} {f : Fm} {M : Sto} {σ : L2.St} {H : Hp} {xs : List PV} {vs : List V} {p : Addr} (rep : Rep K G B f M σ H) (r : RL K H B G.C xs vs) (hp : H p = none) : R K (upd H p (.tup vs)) B G.C (.tup xs) (.ref p) :=
  .tup (.inl (.inl upd_same)) (r.evc rep (.new hp))
theorem add_ok {X : Cx} : ∃ r, OpR X (binaryOp .Add) r ∧ Op2 X.K r addP := by
  refine ⟨_, op_add.or (op_catA.or (op_cat.or op_add_str)), fun G B f M σ H x y v w k Q rep rx ry h fin => ?_⟩
  have cat : ∀ {a b : Addr} {vs us : List V} {xs ys : List PV}, H a = some (.lst vs) → RL X.K H B G.C xs vs → H b = some (.lst us) → RL X.K H B G.C ys us → (xs.length + ys.length ≤ sizeLine ∧ k (.lst (xs ++ ys))) → rCat (.ref a) (.ref b) H Q := fun ha ra hb rb h =>
    ⟨_, _, _, _, rfl, rfl, ha, hb, by rw [← ra.length, ← rb.length]; exact h.1, fun p hp => fin _ _ _ h.2 (rep.new hp) (new_lst rep (ra.append rb) hp) (.new hp)⟩
  unfold addP at h
  split at h
  · cases rx
    cases ry
    exact .inl ⟨_, _, rfl, rfl, fin _ _ _ h rep (.int _) .refl⟩
  · rename_i xs ys
    have rx : R X.K H B G.C (.tup xs) v := rx
    have ry : R X.K H B G.C (.tup ys) w := ry
    cases rx with
    | tup h1 r1 =>
    cases ry with
    | tup h2 r2 =>
    refine .inr (.inl ⟨_, _, _, _, rfl, rfl, h1, h2, by rw [← r1.length, ← r2.length]; exact h.1, fun e => ?_, fun e e2 => ?_, fun e e2 p hp => fin _ _ _ h.2 (rep.new hp) (new_tup rep (r1.append r2) hp) (.new hp)⟩)
    · subst e
      cases r1
      exact fin _ _ _ h.2 rep (.tup h2 r2) .refl
    · subst e2
      cases r2
      exact fin _ _ _ (by have := h.2; rw [List.append_nil] at this; exact this) rep (.tup h1 r1) .refl
  · obtain ⟨a, vs, rfl, ha, ra⟩ := rv_lst (f := f) (M := M) (σ := σ) rx
    obtain ⟨b, us, rfl, hb, rb⟩ := rv_lst (f := f) (M := M) (σ := σ) ry
    exact .inr (.inr (.inl (cat ha ra hb rb h)))
  · obtain ⟨a, vs, rfl, ha, ra⟩ := rv_b rx
    obtain ⟨b, us, rfl, hb, rb⟩ := rv_lst (f := f) (M := M) (σ := σ) ry
    exact .inr (.inr (.inl (cat ha ra hb rb h)))
  · obtain ⟨a, vs, rfl, ha, ra⟩ := rv_lst (f := f) (M := M) (σ := σ) rx
    obtain ⟨b, us, rfl, hb, rb⟩ := rv_b ry
    exact .inr (.inr (.inl (cat ha ra hb rb h)))
  · cases rx
    cases ry
    exact .inr (.inr (.inr ⟨_, _, rfl, rfl, h.1, fin _ _ _ h.2 rep (.str _) .refl⟩))
  · exact h.elim
def i2 (g : Int → Int → (PV → Prop) → Prop) : O2 := fun _ x y k => match x, y with
  | .v (.int i), .v (.int j) => g i j k
  | _, _ => False
theorem i2_ok {r : R2} {g : Int → Int → (PV → Prop) → Prop} (h : ∀ i j H Q k, g i j k → (∀ n : Int, k (.int n) → Q (.int n) H) → (∀ b : Bool, k (.bl b) → Q (.bl b) H) → r (.int i) (.int j) H Q) : Op2 K r (i2 g) := fun G B f M σ H x y v w k Q rep rx ry hx fin => by
  unfold i2 at hx
  split at hx
  · cases rx
    cases ry
    exact h _ _ _ _ _ hx (fun n q => fin _ _ _ q rep (.int n) .refl) fun b q => fin _ _ _ q rep (.bl b) .refl
  · exact hx.elim
def subP : O2 := i2 fun i j k => k (.int (i - j))
theorem sub_ok {X : Cx} : Op2 X.K (rI0 fun i j => .int (i - j)) subP := i2_ok fun i j H Q k h q _ => ⟨_, _, rfl, rfl, q _ h⟩
theorem op_mulG {X : Cx} : OpR X (binaryOp .Mult) (rI IntMulOk fun i j => .int (i * j)) := opI fun _ _ _ _ _ _ _ hc q => mul_int q hc
def mulP : O2 := i2 fun i j k => IntMulOk i j ∧ k (.int (i * j))
theorem mul_ok {X : Cx} : Op2 X.K (rI IntMulOk fun i j => .int (i * j)) mulP := i2_ok fun i j H Q k h q _ => ⟨_, _, rfl, rfl, h.1, q _ h.2⟩
/-- a floor division by a number above 0 -/
def divP : O2 := i2 fun i j k => (0 < j ∧ j.natAbs.log2 < 9000) ∧ k (.int (i / j))
theorem div_ok {X : Cx} : Op2 X.K (rI CDivW fun i j => .int (i / j)) divP := i2_ok fun i j H Q k h q _ => ⟨_, _, rfl, rfl, h.1, q _ h.2⟩
def divN : O2 := i2 fun i j k => (j ≠ 0 ∧ j.natAbs < 1073741824) ∧ k (.int (i.fdiv j))
theorem divN_ok {X : Cx} : Op2 X.K (rI CDivN fun i j => .int (i.fdiv j)) divN := i2_ok fun i j H Q k h q _ => ⟨_, _, rfl, rfl, h.1, q _ h.2⟩
def modP : O2 := i2 fun i j k => 0 < j ∧ k (.int (i % j))
theorem mod_ok {X : Cx} : Op2 X.K (rI (fun _ j => 0 < j) fun i j => .int (i % j)) modP := i2_ok fun i j H Q k h q _ => ⟨_, _, rfl, rfl, h.1, q _ h.2⟩
def powP : O2 := i2 fun i j k => (0 ≤ j ∧ j ≤ 1000000 ∧ i.natAbs < 2 ^ 64) ∧ k (.int (i ^ j.toNat))
theorem pow_ok {X : Cx} : Op2 X.K (rI CPow fun i j => .int (i ^ j.toNat)) powP := i2_ok fun i j H Q k h q _ => ⟨_, _, rfl, rfl, h.1, q _ h.2⟩
def ltP : O2 := i2 fun i j k => k (.bl (decide (i < j)))
def leP : O2 := i2 fun i j k => k (.bl (decide (i ≤ j)))
def gtP : O2 := i2 fun i j k => k (.bl (decide (j < i)))
def geP : O2 := i2 fun i j k => k (.bl (decide (j ≤ i)))
theorem lt_ok {X : Cx} : Op2 X.K (rI0 fun i j => .bl (decide (i < j))) ltP := i2_ok fun i j H Q k h _ q => ⟨_, _, rfl, rfl, q _ h⟩
theorem le_ok {X : Cx} : Op2 X.K (rI0 fun i j => .bl (decide (i ≤ j))) leP := i2_ok fun i j H Q k h _ q => ⟨_, _, rfl, rfl, q _ h⟩
theorem gt_ok {X : Cx} : Op2 X.K (rI0 fun i j => .bl (decide (j < i))) gtP := i2_ok fun i j H Q k h _ q => ⟨_, _, rfl, rfl, q _ h⟩
theorem ge_ok {X : Cx} : Op2 X.K (rI0 fun i j => .bl (decide (j ≤ i))) geP := i2_ok fun i j H Q k h _ q => ⟨_, _, rfl, rfl, q _ h⟩
def negP : O1 := fun _ x k => match x with
  | .v (.int i) => k (.int (-i))
  | _ => False
theorem neg_ok {X : Cx} : Op1 X.K (rU fun i => .int (-i)) negP := fun G B f M σ H x v k Q rep rx hx fin => by
  unfold negP at hx
  split at hx
  · cases rx
    exact ⟨_, rfl, fin _ _ _ hx rep (.int _) .refl⟩
  · exact hx.elim
end

/-! ### == and != -/
mutual
def eqv : PV → PV → Bool
  | .non, y => match y with | .non => true | _ => false
  | .bl a, y => match y with | .bl b => a == b | .int j => (if a then 1 else 0) == j | _ => false
  | .int i, y => match y with | .bl b => i == (if b then 1 else 0) | .int j => i == j | _ => false
  | .str a, y => match y with | .str b => a == b | _ => false
  | .tup xs, y => match y with | .tup ys => eqvs xs ys | _ => false
  | .lst xs, y => match y with | .lst ys => eqvs xs ys | .fro ys => eqvs xs ys | _ => false
  | .fro xs, y => match y with | .lst ys => eqvs xs ys | .fro ys => eqvs xs ys | _ => false
  | .cell _, _ => false
  | .xtp _, _ => false
def eqvs : List PV → List PV → Bool
  | [], ys => match ys with | [] => true | _ => false
  | x :: xs, ys => match ys with | y :: ys => eqv x y && eqvs xs ys | [] => false
end
mutual
def toD : PV → PyData
  | .non => .none
  | .bl b => .bool b
  | .int i => .int i
  | .str s => .str s
  | .tup xs => .tuple (toDs xs)
  | .lst xs => .list (toDs xs)
  | .fro xs => .list (toDs xs)
  | .cell _ => .dict []
  | .xtp _ => .dict []
def toDs : List PV → List PyData
  | [] => []
  | x :: xs => toD x :: toDs xs
end
mutual
theorem eqv_toD : ∀ x y : PV, PyData.eqv (toD x) (toD y) = eqv x y
  | .non, y => by cases y <;> simp only [toD, eqv, PyData.eqv]
  | .bl a, y => by cases y <;> simp only [toD, eqv, PyData.eqv]
  | .int a, y => by cases y <;> simp only [toD, eqv, PyData.eqv]
  | .str a, y => by cases y <;> simp only [toD, eqv, PyData.eqv]
  | .tup xs, y => by cases y <;> simp only [toD, eqv, PyData.eqv, eqvs_toD xs]
  | .lst xs, y => by cases y <;> simp only [toD, eqv, PyData.eqv, eqvs_toD xs]
  | .fro xs, y => by cases y <;> simp only [toD, eqv, PyData.eqv, eqvs_toD xs]
  | .cell a, y => by cases y <;> simp only [toD, eqv, PyData.eqv]
  | .xtp a, y => by cases y <;> simp only [toD, eqv, PyData.eqv]
theorem eqvs_toD : ∀ xs ys : List PV, PyData.eqvAll (toDs xs) (toDs ys) = eqvs xs ys
  | [], ys => by cases ys <;> simp only [toDs, eqvs, PyData.eqvAll]
  | x :: xs, ys => by
    cases ys with
    | nil => simp only [toDs, eqvs, PyData.eqvAll]
    | cons y ys => simp only [toDs, eqvs, PyData.eqvAll, eqv_toD x y, eqvs_toD xs ys]
end
mutual
theorem R.dp {K : PySem.W.Frag} {H : Hp} {B C : Addr → Prop} : ∀ {x : PV} {v : V}, R K H B C x v → (toD x).canLay0 = true → Dp K H v (toD x)
  | _, _, .non, _ => .non
  | _, _, .bl b, _ => .bl b
  | _, _, .int i, _ => .int i
  | _, _, .str s, _ => .str s
  | .tup xs, _, .tup h t, q => by
    rw [toD, PyData.canLay0] at q
    rw [toD]
    exact .tup h (RL.dp t q)
  | .lst xs, _, .lst h t, q => by
    rw [toD, PyData.canLay0] at q
    rw [toD]
    exact .lst h.sq (RL.dp t q)
  | .fro xs, _, .fro h t, q => by
    rw [toD, PyData.canLay0] at q
    rw [toD]
    exact .lst h.sq (RL.dp t q)
  | .cell a, _, .cell h, q => by rw [toD, PyData.canLay0] at q; cases q
  | .xtp a, _, .xtp h t, q => by rw [toD, PyData.canLay0] at q; cases q
theorem RL.dp {K : PySem.W.Frag} {H : Hp} {B C : Addr → Prop} : ∀ {xs : List PV} {vs : List V}, RL K H B C xs vs → PyData.canLayAll0 (toDs xs) = true → DpAll K H vs (toDs xs)
  | [], _, .nil, _ => by rw [toDs]; exact .nil
  | x :: xs, _, .cons h t, q => by
    rw [toDs, PyData.canLayAll0, Bool.and_eq_true] at q
    rw [toDs]
    exact .cons (R.dp h q.1) (RL.dp t q.2)
end
/-- what may be compared by == -/
def okD (p : PV) : Prop := SeqAt.shaped (toD p) = true
def okE : EV → Prop
  | .v p => okD p
  | .b xs => okD (.lst xs)
theorem rv_dp {K : PySem.W.Frag} {G : Gh} {B : Addr → Prop} {H : Hp} {v : V} : ∀ {x : EV}, RV K G B H x v → okE x → Dp K H v (toD (outP x))
  | .v p, h, q => R.dp h (SeqAt.canLay_of_shaped q)
  | .b xs, ⟨a, vs, e, hb, hc, h0, ha, r⟩, q => by
    subst e
    have q' : (toD (.lst xs)).canLay0 = true := SeqAt.canLay_of_shaped q
    rw [toD, PyData.canLay0] at q'
    show Dp K H _ (toD (.lst xs))
    rw [toD]
    exact .lst (.of ha) (r.dp q')
def eqP : O2 := fun _ x y k => (okE x ∧ okE y) ∧ k (.bl (eqv (outP x) (outP y)))
def neP : O2 := fun _ x y k => (okE x ∧ okE y) ∧ k (.bl (!eqv (outP x) (outP y)))
theorem okE_sh : ∀ {x : EV}, okE x → SeqAt.shaped (toD (outP x)) = true
  | .v _, h => h
  | .b _, h => h
theorem eq_ok {K : PySem.W.Frag} : Op2 K (rEqD K) eqP := fun G B f M σ H x y v w k Q rep rx ry h fin =>
  ⟨_, _, rv_dp rx h.1.1, rv_dp ry h.1.2, okE_sh h.1.1, okE_sh h.1.2, fin _ _ _ h.2 rep (by rw [eqv_toD]; exact .bl _) .refl⟩
theorem ne_ok {K : PySem.W.Frag} : Op2 K (rNeD K) neP := fun G B f M σ H x y v w k Q rep rx ry h fin =>
  ⟨_, _, rv_dp rx h.1.1, rv_dp ry h.1.2, okE_sh h.1.1, okE_sh h.1.2, fin _ _ _ h.2 rep (by rw [eqv_toD]; exact .bl _) .refl⟩
end Fl

namespace Fl
open PySem PySem.Spec PyProof.Rows L2

section
variable {K : PySem.W.Frag} {H : Hp} {B C : Addr → Prop} {xs : List PV} {vs : List V}
theorem RL.at {i : Int} {p : PV} (r : RL K H B C xs vs) (h : atI xs i = some p) : ∃ v, atI vs i = some v ∧ R K H B C p v := by
  unfold atI at h ⊢
  rw [r.length] at h
  cases e : ixN vs.length i with
  | none => rw [e] at h; cases h
  | some j =>
    rw [e] at h
    exact r.get h
/-- what is handed as a sequence: its place, its items -/
def seqP : EV → Option (List PV)
  | .v (.tup xs) => some xs
  | .v (.lst xs) => some xs
  | .v (.fro xs) => some xs
  | .b xs => some xs
  | _ => none
theorem rv_seq {G : Gh} {v : V} : ∀ {x : EV} {xs : List PV}, RV K G B H x v → seqP x = some xs → ∃ a vs, v = .ref a ∧ (SqL K H a vs ∨ SqT K H a vs) ∧ RL K H B G.C xs vs
  | .v (.tup ys), xs, h, e => by
    cases e
    have h' : R K H B G.C (.tup ys) v := h
    cases h' with
    | tup h1 r => exact ⟨_, _, rfl, .inr h1, r⟩
  | .v (.lst ys), xs, h, e => by
    cases e
    have h' : R K H B G.C (.lst ys) v := h
    cases h' with
    | lst h1 r => exact ⟨_, _, rfl, .inl h1.sq, r⟩
  | .v (.fro ys), xs, h, e => by
    cases e
    have h' : R K H B G.C (.fro ys) v := h
    cases h' with
    | fro h1 r => exact ⟨_, _, rfl, .inl h1.sq, r⟩
  | .b ys, xs, h, e => by
    cases e
    obtain ⟨a, vs, e, ha, r⟩ := rv_b h
    exact ⟨a, vs, e, .inl (.of ha), r⟩
  | .v .non, _, _, e => nomatch e
  | .v (.bl _), _, _, e => nomatch e
  | .v (.int _), _, _, e => nomatch e
  | .v (.str _), _, _, e => nomatch e
  | .v (.cell _), _, _, e => nomatch e
  | .v (.xtp _), _, _, e => nomatch e
end
section
variable {X : Cx}
/-- len -/
def lenP : ON := fun M xs k => match xs with
  | [.v (.cell a)] => ∃ ys, M a = some ys ∧ k (.int ys.length)
  | [.v (.str s)] => s.length ≤ sizeLine ∧ k (.int s.length)
  | [x] => match seqP x with
    | some ys => k (.int ys.length)
    | none => False
  | _ => False
theorem len_ok : OpN X.K (fun xs H Q => (∃ p ys, xs = [.ref p] ∧ (SqL X.K H p ys ∨ SqT X.K H p ys) ∧ Q (.int ys.length) H) ∨ ∃ z, xs = [.str z] ∧ z.length ≤ sizeLine ∧ Q (.int z.length) H) lenP := fun G B f M σ H xs vs k Q rep r h fin => by
  unfold lenP at h
  split at h
  · obtain ⟨ys, hM, h⟩ := h
    match vs, r with
    | [v], ⟨r, _⟩ =>
      cases r with
      | cell hc =>
        obtain ⟨zs, ws, g1, g2, g3⟩ := (rep.cells _).1 hc
        rw [hM] at g1
        cases g1
        exact .inl ⟨_, _, rfl, .inl (.of g2), fin _ _ _ h rep (by rw [g3.length]; exact .int _) .refl⟩
  · match vs, r with
    | [v], ⟨r, _⟩ =>
      cases r
      exact .inr ⟨_, rfl, h.1, fin _ _ _ h.2 rep (.int _) .refl⟩
  · split at h
    · rename_i ys hy
      match vs, r with
      | [v], ⟨r, _⟩ =>
        obtain ⟨a, ws, e, hs, hr⟩ := rv_seq r hy
        subst e
        exact .inl ⟨_, _, rfl, hs, fin _ _ _ h rep (by rw [hr.length]; exact .int _) .refl⟩
    · exact h.elim
  · exact h.elim
theorem call_lenA : CallR X (.builtin "len") (fun xs H Q => (∃ p ys, xs = [.ref p] ∧ (SqL X.K H p ys ∨ SqT X.K H p ys) ∧ Q (.int ys.length) H) ∨ ∃ z, xs = [.str z] ∧ z.length ≤ sizeLine ∧ Q (.int z.length) H) := call_len_seq.or call_len_str
/-- x[i] -/
def ixP : O2 := fun M x y k => match y with
  | .v (.int i) => match x with
    | .v (.cell a) => ∃ xs, M a = some xs ∧ ∃ p, atI xs i = some p ∧ k p
    | .v (.str s) => s.length ≤ sizeLine ∧ ∃ c, atI s.cps.toList i = some c ∧ k (.str ⟨#[c]⟩)
    | x => match seqP x with
      | some xs => ∃ p, atI xs i = some p ∧ k p
      | none => False
  | _ => False
theorem ix_ok : Op2 X.K (rIx X.K) ixP := fun G B f M σ H x y v w k Q rep rx ry h fin => by
  unfold ixP at h
  split at h
  · cases ry
    split at h
    · obtain ⟨xs, hM, p, hp, h⟩ := h
      cases rx with
      | cell hc =>
        obtain ⟨zs, ws, g1, g2, g3⟩ := (rep.cells _).1 hc
        rw [hM] at g1
        cases g1
        obtain ⟨u, q1, q2⟩ := g3.at hp
        exact .inl ⟨_, _, _, _, rfl, rfl, .of g2, q1, fin _ _ _ h rep q2 .refl⟩
    · obtain ⟨hz, c, hc, h⟩ := h
      cases rx
      exact .inr (.inr ⟨_, _, _, rfl, rfl, hz, hc, fin _ _ _ h rep (.str _) .refl⟩)
    · split at h
      · rename_i xs hy
        obtain ⟨p, hp, h⟩ := h
        obtain ⟨a, ws, e, hs, hr⟩ := rv_seq rx hy
        subst e
        obtain ⟨u, q1, q2⟩ := hr.at hp
        rcases hs with hs | hs
        · exact .inl ⟨_, _, _, _, rfl, rfl, hs, q1, fin _ _ _ h rep q2 .refl⟩
        · exact .inr (.inl ⟨_, _, _, _, rfl, rfl, hs, q1, fin _ _ _ h rep q2 .refl⟩)
      · exact h.elim
  · exact h.elim
theorem re_ix {a b : Expr} {ma mb : FE} {pos : Pos} (ha : RE X a ma) (hb : RE X b mb) (hs : PlainIx b := by exact fun _ _ => rfl) : RE X (.Subscript a b pos) (e2 ixP ma mb) := ⟨(pe_ix ix_seq ha.pe hb.pe hs).imp (e2_ok ix_ok)⟩
/-- x[lo:hi] -/
abbrev FO := Fm → Sto → (Option Int → Sto → Prop) → Prop
def tO (K : PySem.W.Frag) (m : FO) : TO := fun σ H Q => ∃ G B f M Q', Rep K G B f M σ H ∧ m f M Q' ∧ ∀ o M' H', Q' o M' → Rep K G B f M' σ H' → EvC G.C H H' → Q o H'
structure RO (X : Cx) (e : Option Expr) (m : FO) : Prop where
  po : PO X e (tO X.K m)
theorem _root_.L2.PO.imp {X : Cx} {e : Option Expr} {t t' : TO} (h : PO X e t) (w : ∀ σ H Q, t' σ H Q → t σ H Q) : PO X e t' := ⟨fun pins s σ H Q I q => h.run pins s σ H Q I (w σ H Q q)⟩
def oN : FO := fun _ M Q => Q none M
def oS (m : FE) : FO := fun f M Q => m f M fun x M1 => match x with
  | .v (.int i) => Q (some i) M1
  | _ => False
theorem ro_none : RO X none oN := ⟨po_none.imp fun σ H Q ⟨G, B, f, M, Q', rep, hm, k⟩ => k _ _ _ hm rep .refl⟩
theorem ro_some {e : Expr} {m : FE} (h : RE X e m) : RO X (some e) (oS m) := ⟨(po_some h.pe).imp fun σ H Q ⟨G, B, f, M, Q', rep, hm, k⟩ => ⟨G, B, f, M, _, rep, hm, fun x M1 v H1 q rep1 r1 c1 => by
  split at q
  · cases r1
    exact ⟨_, rfl, k _ _ _ q rep1 c1⟩
  · exact q.elim⟩⟩
def cut {α : Type} (xs : List α) (lo hi : Option Int) : List α := (xs.drop (HT.sIx xs.length 0 lo)).take (HT.sIx xs.length xs.length hi - HT.sIx xs.length 0 lo)
theorem RL.cut {K : PySem.W.Frag} {H : Hp} {B C : Addr → Prop} {xs : List PV} {vs : List V} (r : RL K H B C xs vs) (lo hi : Option Int) : RL K H B C (Fl.cut xs lo hi) (cutV vs lo hi) := by
  unfold Fl.cut cutV
  rw [r.length]
  exact (r.drop _).take _
theorem cutV_all {vs : List V} {lo hi : Option Int} (h : HT.sIx vs.length 0 lo = 0 ∧ HT.sIx vs.length vs.length hi = vs.length) : cutV vs lo hi = vs := by
  unfold cutV
  rw [h.1, h.2, List.drop_zero, Nat.sub_zero, List.take_length]
def slP (lo hi : Option Int) : O1 := fun _ x k => match x with
  | .v (.tup xs) => k (.tup (cut xs lo hi))
  | .v (.lst xs) => k (.lst (cut xs lo hi))
  | .v (.fro xs) => k (.lst (cut xs lo hi))
  | .b xs => k (.lst (cut xs lo hi))
  | _ => False
def eSl (m : FE) (ml mh : FO) : FE := fun f M Q => m f M fun x M1 => ml f M1 fun lo M2 => mh f M2 fun hi M3 => slP lo hi M3 x fun p => Q (.v p) M3
theorem re_sl {e : Expr} {lo hi : Option Expr} {m : FE} {ml mh : FO} {p2 pos : Pos} (he : RE X e m) (hl : RO X lo ml) (hh : RO X hi mh) : RE X (.Subscript e (.Slice lo hi none p2) pos) (eSl m ml mh) := by
  refine ⟨(pe_slice (sl_list.or sl_tupA) he.pe hl.po hh.po).imp fun σ H Q ⟨G, B, f, M, Q', rep, hm, k⟩ => ⟨G, B, f, M, _, rep, hm, fun x M1 v H1 q rep1 r1 c1 => ⟨G, B, f, M1, _, rep1, q, fun lo M2 H2 q2 rep2 c2 => ⟨G, B, f, M2, _, rep2, q2, fun hi M3 H3 q3 rep3 c3 => ?_⟩⟩⟩⟩
  have r3 := (r1.evc rep1 c2).evc rep2 c3
  have c := (c1.trans c2).trans c3
  have lst : ∀ {a : Addr} {xs : List PV} {vs : List V}, v = .ref a → SqL X.K H3 a vs → RL X.K H3 B G.C xs vs → Q' (.v (.lst (cut xs lo hi))) M3 → rSlL X.K v lo hi H3 Q := fun {a xs vs} e hs hr h =>
    ⟨a, vs, e, hs, fun p hp => k _ _ _ _ h (rep3.new hp) (new_lst rep3 (hr.cut lo hi) hp) (c.trans (.new hp))⟩
  unfold slP at q3
  split at q3
  · rename_i xs
    have r3' : R X.K H3 B G.C (.tup xs) v := r3
    cases r3' with
    | tup h1 r =>
    refine .inr ⟨_, _, rfl, h1, fun e => k _ _ _ _ q3 rep3 ?_ c, fun e p hp => k _ _ _ _ q3 (rep3.new hp) (new_tup rep3 (r.cut lo hi) hp) (c.trans (.new hp))⟩
    have q := r.cut lo hi
    rw [cutV_all e] at q
    exact R.tup h1 q
  · rename_i xs
    obtain ⟨a, vs, e, ha, r⟩ := rv_lst (f := f) (M := M3) (σ := σ) r3
    exact .inl (lst e (.of ha) r q3)
  · rename_i xs
    obtain ⟨a, vs, e, hs, r⟩ := rv_seq (x := .v (.fro xs)) r3 rfl
    have r3' : R X.K H3 B G.C (.fro xs) v := r3
    cases r3' with
    | fro h1 r => exact .inl (lst rfl h1.sq r q3)
  · obtain ⟨a, vs, e, ha, r⟩ := rv_b r3
    exact .inl (lst e (.of ha) r q3)
  · exact q3.elim
/-- tuple(x) -/
def tupP : ON := fun _ xs k => match xs with
  | [x] => match seqP x with
    | some ys => k (.tup ys)
    | none => False
  | _ => False
theorem tup_ok : OpN X.K (fun xs H Q => ∃ p ys, xs = [.ref p] ∧ ((SqL X.K H p ys ∧ ∀ l, H l = none → Q (.ref l) (upd H l (.tup ys))) ∨ (SqT X.K H p ys ∧ Q (.ref p) H))) tupP := fun G B f M σ H xs vs k Q rep r h fin => by
  unfold tupP at h
  split at h
  · split at h
    · rename_i ys hy
      match vs, r with
      | [v], ⟨r, _⟩ =>
        obtain ⟨a, ws, e, hs, hr⟩ := rv_seq r hy
        subst e
        refine ⟨a, ws, rfl, ?_⟩
        rcases hs with hs | hs
        · exact .inl ⟨hs, fun p hp => fin _ _ _ h (rep.new hp) (new_tup rep hr hp) (.new hp)⟩
        · exact .inr ⟨hs, fin _ _ _ h rep (.tup hs hr) .refl⟩
    · exact h.elim
  · exact h.elim
theorem re_tupOf {e : Expr} {t : FA} {p pos : Pos} (hg : Gl X "tuple") (hm : X.mg "tuple" = none) (ha : RA X [e] t) (he : starEach [e] X.env = (false, eval e X.env) :: starEach [] X.env := by rfl) : RE X (.Call (.Name "tuple" p) [e] [] pos) (eN tupP t) :=
  re_type call_tuple_of tup_ok hg hm boot_tuple ha (by decide) (by decide) he rfl
/-- list(x) -/
def fList (t : FA) : FF := fun f M Q => t f M fun xs M1 => match xs with
  | [x] => match seqP x with
    | some ys => Q ys M1
    | none => False
  | _ => False
theorem rf_listOf {e : Expr} {t : FA} {p pos : Pos} (hg : Gl X "list") (hm : X.mg "list" = none) (ha : RA X [e] t) (he : starEach [e] X.env = (false, eval e X.env) :: starEach [] X.env := by rfl) : RF X (.Call (.Name "list" p) [e] [] pos) (fList t) :=
  ⟨(pe_callTy call_list_of hg hm boot_list ha.pa (by decide) (by decide) he rfl).imp fun σ H Q ⟨G, B, f, M, Q', rep, hm, k⟩ => ⟨G, B, f, M, _, rep, hm, fun xs M1 vs H1 q hl rep1 r1 c1 => by
    split at q
    · split at q
      · rename_i ys hy
        match vs, r1 with
        | [v], ⟨r, _⟩ =>
          obtain ⟨a, ws, e, hs, hr⟩ := rv_seq r hy
          subst e
          exact ⟨a, ws, rfl, hs, fun p hp => k _ _ _ _ _ q (rep1.newL hp) upd_same (hr.evo rep1.mu (evo_new hp)) (rep1.nb hp) (rep1.fresh0 hp) (c1.trans (.new hp))⟩
      · exact q.elim
    · exact q.elim⟩⟩
/-- abs, int, min, max of ints -/
def absP : ON := fun _ xs k => match xs with
  | [.v (.int i)] => k (.int (if i < 0 then -i else i))
  | _ => False
theorem abs_ok : OpN X.K (fun xs H Q => ∃ i, xs = [.int i] ∧ Q (.int (if i < 0 then -i else i)) H) absP := fun G B f M σ H xs vs k Q rep r h fin => by
  unfold absP at h
  split at h
  · match vs, r with
    | [v], ⟨r, _⟩ =>
      cases r
      exact ⟨_, rfl, fin _ _ _ h rep (.int _) .refl⟩
  · exact h.elim
def intP : ON := fun _ xs k => match xs with
  | [.v (.int i)] => k (.int i)
  | [.v (.bl b)] => k (.int (if b then 1 else 0))
  | _ => False
theorem int_ok : OpN X.K (fun xs H Q => (∃ i, xs = [.int i] ∧ Q (.int i) H) ∨ ∃ k, xs = [.bl k] ∧ Q (.int (if k then 1 else 0)) H) intP := fun G B f M σ H xs vs k Q rep r h fin => by
  unfold intP at h
  split at h
  · match vs, r with
    | [v], ⟨r, _⟩ =>
      cases r
      exact .inl ⟨_, rfl, fin _ _ _ h rep (.int _) .refl⟩
  · match vs, r with
    | [v], ⟨r, _⟩ =>
      cases r
      exact .inr ⟨_, rfl, fin _ _ _ h rep (.int _) .refl⟩
  · exact h.elim
def iiN (g : Int → Int → Int) : ON := fun _ xs k => match xs with
  | [.v (.int i), .v (.int j)] => k (.int (g i j))
  | _ => False
theorem iiN_ok {g : Int → Int → Int} : OpN X.K (fun xs H Q => ∃ i j, xs = [.int i, .int j] ∧ Q (.int (g i j)) H) (iiN g) := fun G B f M σ H xs vs k Q rep r h fin => by
  unfold iiN at h
  split at h
  · match vs, r with
    | [v, w], ⟨r, r2, _⟩ =>
      cases r
      cases r2
      exact ⟨_, _, rfl, fin _ _ _ h rep (.int _) .refl⟩
  · exact h.elim
abbrev maxP : ON := iiN fun i j => if j > i then j else i
abbrev minP : ON := iiN fun i j => if j < i then j else i
/-- any, all, sum of a list -/
theorem RL.bls {K : PySem.W.Frag} {H : Hp} {B C : Addr → Prop} : ∀ {ns : List Bool} {vs : List V}, RL K H B C (ns.map PV.bl) vs → vs = ns.map V.bl
  | [], _, .nil => rfl
  | n :: ns, _, .cons r t => by
    cases r
    rw [RL.bls t]
    rfl
def lstP : EV → Option (List PV)
  | .v (.lst xs) => some xs
  | .b xs => some xs
  | _ => none
theorem rv_lstP {K : PySem.W.Frag} {G : Gh} {B : Addr → Prop} {H : Hp} {v : V} : ∀ {x : EV} {xs : List PV}, RV K G B H x v → lstP x = some xs → ∃ a vs, v = .ref a ∧ H a = some (.lst vs) ∧ RL K H B G.C xs vs
  | .v (.lst ys), xs, h, e => by
    cases e
    have h' : R K H B G.C (.lst ys) v := h
    cases h' with
    | lst h1 r => exact ⟨_, _, rfl, h1.1, r⟩
  | .b ys, xs, h, e => by
    cases e
    exact rv_b h
  | .v (.tup _), _, _, e => nomatch e
  | .v (.fro _), _, _, e => nomatch e
  | .v .non, _, _, e => nomatch e
  | .v (.bl _), _, _, e => nomatch e
  | .v (.int _), _, _, e => nomatch e
  | .v (.str _), _, _, e => nomatch e
  | .v (.cell _), _, _, e => nomatch e
  | .v (.xtp _), _, _, e => nomatch e
def blsN (g : List Bool → Bool) : ON := fun _ xs k => match xs with
  | [x] => match lstP x with
    | some ys => ∃ bs : List Bool, ys = bs.map PV.bl ∧ k (.bl (g bs))
    | none => False
  | _ => False
theorem bls_ok {g : List Bool → Bool} : OpN X.K (fun vs H Q => ∃ (a : Addr) (bs : List Bool), vs = [V.ref a] ∧ SqL X.K H a (bs.map V.bl) ∧ Q (.bl (g bs)) H) (blsN g) := fun G B f M σ H xs vs k Q rep r h fin => by
  unfold blsN at h
  split at h
  · split at h
    · rename_i ys hy
      obtain ⟨bs, e, h⟩ := h
      subst e
      match vs, r with
      | [v], ⟨r, _⟩ =>
        obtain ⟨a, ws, e, hs, hr⟩ := rv_lstP r hy
        subst e
        rw [hr.bls] at hs
        exact ⟨_, _, rfl, .of hs, fin _ _ _ h rep (.bl _) .refl⟩
    · exact h.elim
  · exact h.elim
abbrev anyP : ON := blsN fun bs => bs.any id
abbrev allP : ON := blsN fun bs => bs.all id
def sumP : ON := fun _ xs k => match xs with
  | [x] => match lstP x with
    | some ys => ∃ ns : List Int, ys = ns.map PV.int ∧ k (.int ns.sum)
    | none => False
  | _ => False
theorem sum_ok : OpN X.K (rSum X.K) sumP := fun G B f M σ H xs vs k Q rep r h fin => by
  unfold sumP at h
  split at h
  · split at h
    · rename_i ys hy
      obtain ⟨bs, e, h⟩ := h
      subst e
      match vs, r with
      | [v], ⟨r, _⟩ =>
        obtain ⟨a, ws, e, hs, hr⟩ := rv_lstP r hy
        subst e
        rw [hr.ints] at hs
        exact ⟨_, _, rfl, .of hs, fin _ _ _ h rep (.int _) .refl⟩
    · exact h.elim
  · exact h.elim
/-- tuple(reversed(x)), x a list -/
def tRevP : O1 := fun _ x k => match lstP x with
  | some ys => k (.tup ys.reverse)
  | none => False
theorem re_tupRev {e : Expr} {m : FE} {p p2 pos pos2 : Pos} (hc : X.calm = true) (hg : Gl X "tuple") (hm : X.mg "tuple" = none) (hg2 : Gl X "reversed") (hm2 : X.mg "reversed" = none) (he : RE X e m)
    (hs : starEach [e] X.env = (false, eval e X.env) :: starEach [] X.env := by rfl)
    (hs2 : starEach [.Call (.Name "reversed" p2) [e] [] pos2] X.env = (false, eval (.Call (.Name "reversed" p2) [e] [] pos2) X.env) :: starEach [] X.env := by rfl) :
    RE X (.Call (.Name "tuple" p) [.Call (.Name "reversed" p2) [e] [] pos2] [] pos) (e1 tRevP m) := ⟨(RT.pe_tupRev hc hg hm hg2 hm2 he.pe hs hs2).imp fun σ H Q ⟨G, B, f, M, Q', rep, hm, k⟩ => ⟨G, B, f, M, _, rep, hm, fun x M1 v H1 q rep1 r1 c1 => by
  unfold tRevP at q
  split at q
  · rename_i ys hy
    obtain ⟨a, ws, e, hs, hr⟩ := rv_lstP r1 hy
    exact ⟨a, ws, e, .of hs, fun p hp => k _ _ _ _ q (rep1.new hp) (new_tup rep1 hr.reverse hp) (c1.trans (.new hp))⟩
  · exact q.elim⟩⟩
/-- x[::-1], x a list -/
def fRevL (m : FE) : FF := fun f M Q => m f M fun x M1 => match lstP x with
  | some ys => Q ys.reverse M1
  | none => False
theorem rf_revL {e : Expr} {m : FE} {k : Nat} {p1 p2 p3 pos : Pos} (he : RE X e m) : RF X (.Subscript e (.Slice none none (some (.UnaryOp .USub (.Constant (.int 1) k p1) p2)) p3) pos) (fRevL m) := ⟨(pe_revL he.pe).imp fun σ H Q ⟨G, B, f, M, Q', rep, hm, k⟩ => ⟨G, B, f, M, _, rep, hm, fun x M1 v H1 q rep1 r1 c1 => by
  split at q
  · rename_i ys hy
    obtain ⟨a, ws, e, hs, hr⟩ := rv_lstP r1 hy
    exact ⟨a, ws, e, .of hs, fun p hp => k _ _ _ _ _ q (rep1.newL hp) upd_same (hr.reverse.evo rep1.mu (evo_new hp)) (rep1.nb hp) (rep1.fresh0 hp) (c1.trans (.new hp))⟩
  · exact q.elim⟩⟩
end
end Fl

namespace Fl
open PySem PySem.Spec PyProof.Rows L2

/-! ### short words for printed derivations -/
section
variable {X : Cx} {e a b c : Expr} {es : List Expr} {m ma mb mc : FE} {t : FT} {ta : FA} {mf : FF} {pos p : Pos}
theorem re_add (ha : RE X a ma) (hb : RE X b mb) : RE X (.BinOp a .Add b pos) (e2 addP ma mb) := let ⟨_, h, o⟩ := add_ok (X := X); re_op h o ha hb
theorem re_sub (ha : RE X a ma) (hb : RE X b mb) : RE X (.BinOp a .Sub b pos) (e2 subP ma mb) := re_op op_sub sub_ok ha hb
theorem re_div (ha : RE X a ma) (hb : RE X b mb) : RE X (.BinOp a .FloorDiv b pos) (e2 divP ma mb) := re_op op_fdivW div_ok ha hb
theorem re_divN (ha : RE X a ma) (hb : RE X b mb) : RE X (.BinOp a .FloorDiv b pos) (e2 divN ma mb) := re_op op_fdivN divN_ok ha hb
theorem re_mod (ha : RE X a ma) (hb : RE X b mb) : RE X (.BinOp a .Mod b pos) (e2 modP ma mb) := re_op op_mod mod_ok ha hb
theorem re_pow (ha : RE X a ma) (hb : RE X b mb) : RE X (.BinOp a .Pow b pos) (e2 powP ma mb) := re_op op_pow pow_ok ha hb
theorem re_mulI (ha : RE X a ma) (hb : RE X b mb) : RE X (.BinOp a .Mult b pos) (e2 mulP ma mb) := re_op op_mulG mul_ok ha hb
theorem re_neg (ha : RE X a ma) : RE X (.UnaryOp .USub a pos) (e1 negP ma) := re_un un_neg neg_ok ha
structure CmpR (X : Cx) (op : CmpOp) (o : O2) : Prop where
  ex : ∃ r, OpR X (compareOp op) r ∧ Op2 X.K r o
theorem c_lt : CmpR X .Lt ltP := ⟨_, op_lt, lt_ok⟩
theorem c_le : CmpR X .LtE leP := ⟨_, op_le, le_ok⟩
theorem c_gt : CmpR X .Gt gtP := ⟨_, op_gt, gt_ok⟩
theorem c_ge : CmpR X .GtE geP := ⟨_, op_ge, ge_ok⟩
theorem c_eq (hu : X.A.units + 64 < cLine) : CmpR X .Eq eqP := ⟨_, op_eqD hu, eq_ok⟩
theorem c_ne (hu : X.A.units + 64 < cLine) : CmpR X .NotEq neP := ⟨_, op_neD hu, ne_ok⟩
theorem rec {op : CmpOp} {o : O2} (h : CmpR X op o) (ha : RE X a ma) (hb : RE X b mb) (hm : behindInMarks op b = false := by first | exact nomark _ | rfl) : RE X (.Compare a [op] [b] pos) (e2 o ma mb) := let ⟨_, h, o⟩ := h.ex; re_cmp h o ha hb hm
theorem rtc {op : CmpOp} {o : O2} (h : CmpR X op o) (ha : RE X a ma) (hb : RE X b mb) (hm : behindInMarks op b = false := by first | exact nomark _ | rfl) : RT X (.Compare a [op] [b] pos) (cB o ma mb) := let ⟨_, h, o⟩ := h.ex; rt_cmp h o ha hb hm
theorem rec2 {op op' : CmpOp} {o o' : O2} (h : CmpR X op o) (h' : CmpR X op' o') (ha : RE X a ma) (hb : RE X b mb) (hc : RE X c mc) (hm : lastMarks [op, op'] [b, c] = false := by with_unfolding_all rfl) : RE X (.Compare a [op, op'] [b, c] pos) (eT (cCh o o' ma mb mc)) :=
  let ⟨_, h, o⟩ := h.ex; let ⟨_, h', o'⟩ := h'.ex; re_chain h h' o o' ha hb hc hm
theorem rtc2 {op op' : CmpOp} {o o' : O2} (h : CmpR X op o) (h' : CmpR X op' o') (ha : RE X a ma) (hb : RE X b mb) (hc : RE X c mc) (hm : lastMarks [op, op'] [b, c] = false := by with_unfolding_all rfl) : RT X (.Compare a [op, op'] [b, c] pos) (cCh o o' ma mb mc) :=
  let ⟨_, h, o⟩ := h.ex; let ⟨_, h', o'⟩ := h'.ex; rt_chain h h' o o' ha hb hc hm
/-- is None, is not None -/
def isN : O2 := fun _ x y k => match y with
  | .v .non => match x with
    | .v .non => k (.bl true)
    | _ => k (.bl false)
  | _ => False
def notN : O2 := fun _ x y k => match y with
  | .v .non => match x with
    | .v .non => k (.bl false)
    | _ => k (.bl true)
  | _ => False
theorem rv_non {K : PySem.W.Frag} {G : Gh} {B : Addr → Prop} {H : Hp} {v : V} {x : EV} (h : RV K G B H x v) : (x = .v .non ∧ v = .non) ∨ (x ≠ .v .non ∧ v ≠ .non) := by
  cases x with
  | b xs =>
    obtain ⟨a, vs, e, _⟩ := h
    exact .inr ⟨(fun z => nomatch z), by rw [e]; exact (fun z => nomatch z)⟩
  | v p =>
    have h' : R K H B G.C p v := h
    cases h' with
    | non => exact .inl ⟨rfl, rfl⟩
    | _ => exact .inr ⟨(fun z => nomatch z), (fun z => nomatch z)⟩
theorem c_is : CmpR X .Is isN := ⟨_, op_isN, fun G B f M σ H x y v w k Q rep rx ry h fin => by
  unfold isN at h
  split at h
  · cases ry
    refine ⟨rfl, ?_⟩
    rcases rv_non rx with ⟨e1, e2⟩ | ⟨e1, e2⟩
    · subst e1 e2
      exact fin _ _ _ h rep (R.bl true) .refl
    · rw [decide_eq_false e2]
      split at h
      · exact absurd rfl e1
      · exact fin _ _ _ h rep (R.bl false) .refl
  · exact h.elim⟩
theorem c_isnot : CmpR X .IsNot notN := ⟨_, op_notN, fun G B f M σ H x y v w k Q rep rx ry h fin => by
  unfold notN at h
  split at h
  · cases ry
    refine ⟨rfl, ?_⟩
    rcases rv_non rx with ⟨e1, e2⟩ | ⟨e1, e2⟩
    · subst e1 e2
      exact fin _ _ _ h rep (R.bl false) .refl
    · rw [decide_eq_false e2]
      split at h
      · exact absurd rfl e1
      · exact fin _ _ _ h rep (R.bl true) .refl
  · exact h.elim⟩
/-! built-ins by name -/
theorem re_len (hg : Gl X "len") (hm : X.mg "len" = none) (ha : RA X (e :: es) ta) (he : starEach (e :: es) X.env = (false, eval e X.env) :: starEach es X.env := by rfl) (hpl : (backTo pos (starEach es X.env)).any (·.1) = false := by rfl) : RE X (.Call (.Name "len" p) (e :: es) [] pos) (eN lenP ta) := re_bltin call_lenA len_ok hg hm PySem.boot_len ha (by decide) (by decide) he hpl
theorem re_abs (hg : Gl X "abs") (hm : X.mg "abs" = none) (ha : RA X (e :: es) ta) (he : starEach (e :: es) X.env = (false, eval e X.env) :: starEach es X.env := by rfl) (hpl : (backTo pos (starEach es X.env)).any (·.1) = false := by rfl) : RE X (.Call (.Name "abs" p) (e :: es) [] pos) (eN absP ta) := re_bltin call_abs abs_ok hg hm (by decide +kernel) ha (by decide) (by decide) he hpl
theorem re_max (hc : X.calm = true) (hg : Gl X "max") (hm : X.mg "max" = none) (ha : RA X (e :: es) ta) (he : starEach (e :: es) X.env = (false, eval e X.env) :: starEach es X.env := by rfl) (hpl : (backTo pos (starEach es X.env)).any (·.1) = false := by rfl) : RE X (.Call (.Name "max" p) (e :: es) [] pos) (eN maxP ta) := re_bltin (call_max2 hc) iiN_ok hg hm (by decide +kernel) ha (by decide) (by decide) he hpl
theorem re_min (hc : X.calm = true) (hg : Gl X "min") (hm : X.mg "min" = none) (ha : RA X (e :: es) ta) (he : starEach (e :: es) X.env = (false, eval e X.env) :: starEach es X.env := by rfl) (hpl : (backTo pos (starEach es X.env)).any (·.1) = false := by rfl) : RE X (.Call (.Name "min" p) (e :: es) [] pos) (eN minP ta) := re_bltin (call_min2 hc) iiN_ok hg hm (by decide +kernel) ha (by decide) (by decide) he hpl
theorem re_any (hc : X.calm = true) (hg : Gl X "any") (hm : X.mg "any" = none) (ha : RA X (e :: es) ta) (he : starEach (e :: es) X.env = (false, eval e X.env) :: starEach es X.env := by rfl) (hpl : (backTo pos (starEach es X.env)).any (·.1) = false := by rfl) : RE X (.Call (.Name "any" p) (e :: es) [] pos) (eN anyP ta) := re_bltin (cr_any hc) bls_ok hg hm (by decide +kernel) ha (by decide) (by decide) he hpl
theorem re_sum (hc : X.calm = true) (hg : Gl X "sum") (hm : X.mg "sum" = none) (ha : RA X (e :: es) ta) (he : starEach (e :: es) X.env = (false, eval e X.env) :: starEach es X.env := by rfl) (hpl : (backTo pos (starEach es X.env)).any (·.1) = false := by rfl) : RE X (.Call (.Name "sum" p) (e :: es) [] pos) (eN sumP ta) := re_bltin (cr_sum hc) sum_ok hg hm (by decide +kernel) ha (by decide) (by decide) he hpl
theorem re_intc (hg : Gl X "int") (hm : X.mg "int" = none) (ha : RA X (e :: es) ta) (he : starEach (e :: es) X.env = (false, eval e X.env) :: starEach es X.env := by rfl) (hpl : (backTo pos (starEach es X.env)).any (·.1) = false := by rfl) : RE X (.Call (.Name "int" p) (e :: es) [] pos) (eN intP ta) := re_type call_int1 int_ok hg hm (by decide +kernel) ha (by decide) (by decide) he hpl
end

/-! ### a def as it stands, a def that keeps its promise -/
structure Dfn (K : PySem.W.Frag) (mg : Str → Option Value) (id name : Str) (stm : Stmt) (ps : List Str) : Prop where
  ex : ∃ f fd, Fun K name name stm f fd ∧ mg id = some (.ref f) ∧ Binds K fd ps []
structure Cal (P : Program) (w : World) (K : PySem.W.Frag) (mg : Str → Option Value) (base : Heap) (k : Nat) (id : Str) (ps : List Str) (psp : PSp) : Prop where
  ex : ∃ f fd, FnOk P w K mg base CX0 k f fd ps (spOf K psp) ∧ mg id = some (.ref f) ∧ PySem.W.keepIn K (.ref f) = true ∧ Binds K fd ps []
section
variable {P : Program} {w : World} {K : PySem.W.Frag} {mg : Str → Option Value} {base : Heap}
theorem cal_ok {id name : Str} {stm : Stmt} {N ps : List Str} {k n : Nat} {psp : PSp} {mb : FS} (D : Dfn K mg id name stm ps) (S : FnScope N ps (defScope stm)) (hn : N.length = ps.length + n)
    (hb : ∀ (f : Addr) (cdv : Value) (A : Around) (outer : List Env) (s : Shared) (H : Hp) (E : XK), Room k (A.deeper (envOfC name (defScope stm) s.heap.objs.size f cdv)) → RSs (cxOf CX0 P w K mg base N name (defScope stm) f cdv A outer s H E).nox (defBody stm) mb)
    (hp : ∀ args M Q, psp args M Q → args.length = ps.length ∧ mb (fE Q) (fr0 n args) M) : Cal P w K mg base (k + 1) id ps psp := by
  obtain ⟨f, fd, F, m, b⟩ := D.ex
  exact ⟨f, fd, fn_ok F S hn (hb f) hp, m, F.kp, b⟩
theorem Cal.mono {j k : Nat} {id : Str} {ps : List Str} {psp : PSp} (c : Cal P w K mg base j id ps psp) (h : j ≤ k) : Cal P w K mg base k id ps psp := let ⟨f, fd, F, r⟩ := c.ex; ⟨f, fd, F.mono h, r⟩
theorem Cal.imp {k : Nat} {id : Str} {ps : List Str} {psp psp' : PSp} (c : Cal P w K mg base k id ps psp) (h : ∀ args M Q, psp' args M Q → psp args M Q) : Cal P w K mg base k id ps psp' :=
  let ⟨f, fd, F, r⟩ := c.ex
  ⟨f, fd, F.imp fun vs H Q E ⟨B0, C, M, qs, Q', h1, h2, h3, r, q, fin⟩ => ⟨B0, C, M, qs, Q', h1, h2, h3, r, h _ _ _ q, fin⟩, r⟩
end
section
variable {X : Cx} {k j : Nat} {x : Str} {ps : List Str} {psp : PSp} {p pos : Pos} {e : Expr} {es : List Expr} {t : FA}
theorem rcl (c : Cal X.prog X.w X.K X.mg X.base k x ps psp) (hr : Room j X.A) (ha : RA X (e :: es) t) (hkj : k ≤ j := by decide) (hg : Gl X x := by rfl) (hdb : (x == ("__debug__" : Str)) = false := by decide) (he : starEach (e :: es) X.env = (false, eval e X.env) :: starEach es X.env := by rfl)
    (hpl : (backTo pos (starEach es X.env)).any (·.1) = false := by rfl) : RE X (.Call (.Name x p) (e :: es) [] pos) (eCall psp t) := let ⟨f, fd, F, m, kp, b⟩ := c.ex; re_call F (hr.mono hkj) hg m kp b pass0 ha hdb he hpl
theorem rclB (c : Cal X.prog X.w X.K X.mg X.base k x ps psp) (hr : Room j X.A) (ha : RA X (e :: es) t) (hkj : k ≤ j := by decide) (hg : Gl X x := by rfl) (hdb : (x == ("__debug__" : Str)) = false := by decide) (he : starEach (e :: es) X.env = (false, eval e X.env) :: starEach es X.env := by rfl)
    (hpl : (backTo pos (starEach es X.env)).any (·.1) = false := by rfl) : RE X (.Call (.Name x p) (e :: es) [] pos) (eCallB psp t) := let ⟨f, fd, F, m, kp, b⟩ := c.ex; re_callB F (hr.mono hkj) hg m kp b pass0 ha hdb he hpl
theorem rcl0 (c : Cal X.prog X.w X.K X.mg X.base k x ps psp) (hr : Room j X.A) (hkj : k ≤ j := by decide) (hg : Gl X x := by rfl) (hdb : (x == ("__debug__" : Str)) = false := by decide) : RE X (.Call (.Name x p) [] [] pos) (eCall psp aNil) := let ⟨f, fd, F, m, kp, b⟩ := c.ex; re_call0 F (hr.mono hkj) hg m kp b pass0 hdb
end

/-! ### stores of a comprehension, pairs of names, tuples or lists taken apart -/
section
variable {X : Cx} {i j l : Nat} {x y z : Str} {px py pz pt : Pos} {pos : Pos} {e a b c : Expr} {m ma mb mc : FE} {mf : FF} {ta : FA}
theorem st1 (i : Nat) (hN : X.N.Nodup) (he : RE X e m) (hi : X.N[i]? = some x := by rfl) (hx : Loc X.env.scope x := by first | exact Or.inl rfl | exact Or.inr rfl) (hs : swapsWith e (some (.Name x px)) pos.line X.env = pure false := by rfl) (hf : X.fn x = true ∨ X.env.scope.names.lookup x = some .local := by first | exact .inl rfl | exact .inr rfl) :
    RS X (.Assign [.Name x px] e pos) (sSet i m) := rs_set hN hi hx he hs hf
theorem stB (i : Nat) (hN : X.N.Nodup) (he : RF X e mf) (hi : X.N[i]? = some x := by rfl) (hx : Loc X.env.scope x := by first | exact Or.inl rfl | exact Or.inr rfl) (hs : swapsWith e (some (.Name x px)) pos.line X.env = pure false := by rfl) (hf : X.fn x = true ∨ X.env.scope.names.lookup x = some .local := by first | exact .inl rfl | exact .inr rfl) :
    RS X (.Assign [.Name x px] e pos) (sBld i mf) := rs_bld hN hi hx he hs hf
theorem tg1 (i : Nat) (hN : X.N.Nodup) (hi : X.N[i]? = some x := by rfl) (hx : Loc X.env.scope x := by first | exact Or.inl rfl | exact Or.inr rfl) (hf : X.fn x = true ∨ X.env.scope.names.lookup x = some .local := by first | exact .inl rfl | exact .inr rfl) : RG X (.Name x px) [i] (gN i) := rg_name hN hi hx hf
/-- x, y = a, b: names of the frame -/
def sPar (i j : Nat) (ta : FA) : FS := fun D f M => ta f M fun xs M1 => match xs with
  | [.v p, .v q] => D.nx (st (st f i (some (.v p))) j (some (.v q))) M1
  | _ => False
theorem st2 (i j : Nat) {kt k2 pt2} (hc : X.calm = true) (hN : X.N.Nodup) (ha : RA X [a, b] ta) (hi : X.N[i]? = some x := by rfl) (hj : X.N[j]? = some y := by rfl) (hij : i ≠ j := by decide)
    (hx : X.env.scope.names.lookup x = some .local := by rfl) (hy : X.env.scope.names.lookup y = some .local := by rfl)
    (hw : swappedStores [.Tuple [.Name x px, .Name y py] kt pt] (.Tuple [a, b] k2 pt2) X.env = pure (some [x, y]) := by rfl)
    (hs : swapsWithSole [.Tuple [.Name x px, .Name y py] kt pt] (.Tuple [a, b] k2 pt2) pos.line X.env = pure false := by rfl) : RS X (.Assign [.Tuple [.Name x px, .Name y py] kt pt] (.Tuple [a, b] k2 pt2) pos) (sPar i j ta) :=
  ⟨(ps_par hc hN hi hj hij hx hy ha.pa hw hs).imp fun D σ H ⟨G, B, f, M, D', rep, hm, k⟩ => ⟨G, B, f, M, _, rep, hm, fun xs M1 vs H1 q hl rep1 r1 c1 => by
    split at q
    · match vs, r1 with
      | [v, w], ⟨r, r2, _⟩ =>
        exact ⟨v, w, rfl, k.nx _ _ _ _ _ q ((rep1.set r).set r2)⟩
    · exact q.elim⟩⟩
def sPar3 (i j l : Nat) (ta : FA) : FS := fun D f M => ta f M fun xs M1 => match xs with
  | [.v p, .v q, .v r] => D.nx (st (st (st f i (some (.v p))) j (some (.v q))) l (some (.v r))) M1
  | _ => False
theorem st3 (i j l : Nat) {kt k2 pt2} (hc : X.calm = true) (hN : X.N.Nodup) (ha : RA X [a, b, c] ta) (hi : X.N[i]? = some x := by rfl) (hj : X.N[j]? = some y := by rfl) (hl : X.N[l]? = some z := by rfl) (hij : i ≠ j := by decide) (hil : i ≠ l := by decide) (hjl : j ≠ l := by decide)
    (hx : X.env.scope.names.lookup x = some .local := by rfl) (hy : X.env.scope.names.lookup y = some .local := by rfl) (hz : X.env.scope.names.lookup z = some .local := by rfl)
    (hw : swappedStores [.Tuple [.Name x px, .Name y py, .Name z pz] kt pt] (.Tuple [a, b, c] k2 pt2) X.env = pure (some [x, y, z]) := by rfl)
    (hs : swapsWithSole [.Tuple [.Name x px, .Name y py, .Name z pz] kt pt] (.Tuple [a, b, c] k2 pt2) pos.line X.env = pure false := by rfl) : RS X (.Assign [.Tuple [.Name x px, .Name y py, .Name z pz] kt pt] (.Tuple [a, b, c] k2 pt2) pos) (sPar3 i j l ta) :=
  ⟨(ps_par3 hc hN hi hj hl hij hil hjl hx hy hz ha.pa hw hs).imp fun D σ H ⟨G, B, f, M, D', rep, hm, k⟩ => ⟨G, B, f, M, _, rep, hm, fun xs M1 vs H1 q hl' rep1 r1 c1 => by
    split at q
    · match vs, r1 with
      | [v, w, u], ⟨r, r2, r3, _⟩ =>
        exact ⟨v, w, u, rfl, k.nx _ _ _ _ _ q (((rep1.set r).set r2).set r3)⟩
    · exact q.elim⟩⟩
/-- a, b, .. = a tuple or a list -/
def gS (n : Nat) (gs : FGs) : FG := fun p f k => match p with
  | .tup ps => ps.length = n ∧ gs ps f k
  | .lst ps => ps.length = n ∧ gs ps f k
  | _ => False
theorem _root_.L2.PG.orr {e : Expr} {t t' : TG} (h : PG X e t) (h' : PG X e t') : PG X e (fun v σ H Q => t v σ H Q ∨ t' v σ H Q) := ⟨fun pins s σ H v u Q I r q => q.elim (h.run pins s σ H v u Q I r) (h'.run pins s σ H v u Q I r)⟩
theorem tgS {ts : List Expr} {ws : List Nat} {gs : FGs} {k n : Nat} (hc : X.calm = true) (h : RGs X ts ws gs) (hn : (assignEach ts X.env).length = n := by rfl) (hst : (assignEach ts X.env).findIdx? (·.1) = none := by rfl) : RG X (.Tuple ts k pos) ws (gS n gs) :=
  ⟨((pg_tup hc h.pgs hn hst).orr (pg_unl hc h.pgs hn hst)).imp fun v σ H Q ⟨G, B, f, M, p, Q', rep, r, hg, k⟩ => by
    cases p with
    | tup ps =>
      obtain ⟨hl, hg⟩ := hg
      cases r with
      | tup hq hr => exact .inl ⟨_, _, rfl, hq, hr.length.symm.trans hl, G, B, f, M, ps, Q', rep, hr, hg, k⟩
    | lst ps =>
      obtain ⟨hl, hg⟩ := hg
      cases r with
      | lst hq hr => exact .inr ⟨_, _, rfl, hq.sq, hr.length.symm.trans hl, G, B, f, M, ps, Q', rep, hr, hg, k⟩
    | _ => exact hg.elim⟩
theorem tgc {ts : List Expr} {t : Expr} {ws ws' : List Nat} {g : FG} {gs : FGs} (h1 : RG X t ws g) (h2 : RGs X ts ws' gs) (hs : (assignEach (t :: ts) X.env).map (·.2) = assign t X.env :: (assignEach ts X.env).map (·.2) := by rfl) : RGs X (t :: ts) (ws ++ ws') (gsCons g gs) := rgs_cons h1 h2 hs
end
end Fl

namespace Fl
open PySem PySem.Spec PyProof.Rows L2

/-! ### a tuple times an int, whatever it is -/
theorem tuple_mul_same (l : Addr) (items : Array Value) (n : Nat) (dd : Option Addr) (sl : Array (Option Value)) (x : Int) (u : Tok) (c0 : (decide (x < -(2 ^ 63)) || decide (x ≥ 2 ^ 63)) = false) (c1 : (items.isEmpty || x == 1) = true) :
    Meets (Builtin.«tuple.__mul__» ⟨[.ref l, .int x u], []⟩) (fun _ R s => s.heap.get? l = some { cls := .type "tuple", dict := dd, data := .seq items n, slots := sl } ∧ R (.ok (.ret (Value.ref l))) s) :=
  .of_wp fun prog w A R s h => by
    obtain ⟨hp, g, d, tk, os⟩ := s
    obtain ⟨hl, h⟩ := h
    have f1 := AutoSeq1.idx_int
    have ht : Shared.TypeIs ⟨hp, g, d, tk, os⟩ (.ref l) "tuple" := ⟨_, hl, rfl⟩
    wp_walk using wpAny_loadPart' hl
    repeat (first
      | (refine wpAny_ite_false (decide_eq_false (by rw [c0]; exact Bool.false_ne_true)) ?_; wp_walk using wpAny_loadPart' hl)
      | (refine wpAny_ite_true (decide_eq_true c1) ?_; wp_walk using wpAny_loadPart' hl))
    exact ⟨_, rfl, h⟩
theorem tuple_mul_nil (l : Addr) (items : Array Value) (n : Nat) (dd : Option Addr) (sl : Array (Option Value)) (x : Int) (u : Tok) (c0 : (decide (x < -(2 ^ 63)) || decide (x ≥ 2 ^ 63)) = false) (c1 : (items.isEmpty || x == 1) = false) (c2 : (decide (x ≤ 0) || items.isEmpty) = true) :
    Meets (Builtin.«tuple.__mul__» ⟨[.ref l, .int x u], []⟩) (fun _ R s => s.heap.get? l = some { cls := .type "tuple", dict := dd, data := .seq items n, slots := sl } ∧ R (.ok (.ret (Value.ref s.heap.objs.size))) { s with heap := s.heap.push { cls := Value.type "tuple", data := Data.seq #[] }, toks := s.toks }) :=
  .of_wp fun prog w A R s h => by
    obtain ⟨hp, g, d, tk, os⟩ := s
    obtain ⟨hl, h⟩ := h
    have f1 := AutoSeq1.idx_int
    wp_walk using wpAny_loadPart' hl
    repeat (first
      | (refine wpAny_ite_false (decide_eq_false (by rw [c0]; exact Bool.false_ne_true)) ?_; wp_walk using wpAny_loadPart' hl)
      | (refine wpAny_ite_false (decide_eq_false (by rw [c1]; exact Bool.false_ne_true)) ?_; wp_walk using wpAny_loadPart' hl)
      | (refine wpAny_ite_true (decide_eq_true c2) ?_; wp_walk using wpAny_loadPart' hl))
    exact ⟨_, rfl, h⟩
def rRepA (K : PySem.W.Frag) : R2 := fun x y H Q => ∃ l k xs, x = .ref l ∧ y = .int k ∧ SqT K H l xs ∧ (-(2 ^ 62) ≤ k ∧ k < 2 ^ 62) ∧ xs.length * k.toNat ≤ sizeLine ∧ ((xs = [] ∨ k = 1) → Q (.ref l) H) ∧
  (¬ (xs = [] ∨ k = 1) → ∀ p, H p = none → Q (.ref p) (upd H p (.tup (List.replicate k.toNat xs).flatten)))
theorem op_repA {X : Cx} : OpR X (binaryOp .Mult) (rRepA X.K) := by
  intro pins s σ H x y v u Q I rx ry h
  obtain ⟨l, k, xs, rfl, rfl, hT, ⟨b1, b2⟩, hz, q1, q2⟩ := h
  cases rx
  obtain ⟨t, rfl⟩ := ry
  obtain ⟨its, r, ⟨⟨cls, dd, data, sl⟩, ho, hc, n, hd⟩, hs⟩ := I.tuple hT
  simp only at hc hd
  subst hc hd
  have hle : its.length = xs.length := r.length.symm
  have c0 : (decide (k < -(2 ^ 63)) || decide (k ≥ 2 ^ 63)) = false := by
    rw [decide_eq_false (by omega), decide_eq_false (by omega)] <;> rfl
  have emp : its.toArray.isEmpty = decide (xs = []) := by
    cases xs with
    | nil => cases its with
      | nil => rfl
      | cons _ _ => cases hle
    | cons _ _ => cases its with
      | nil => cases hle
      | cons _ _ => rfl
  refine wpAny_binaryOp_repeat_ref (T := "tuple") (U := "int") (by decide) ⟨_, ho, rfl⟩ (fun s' => typeIs_int s' k t) noFill_tuple_mul F.fills_int_mul F.slot_int_rmul repeat_tuple F.slot_int_index.lookup
    (call_meets F.slot_int_rmul (typeIs_int s k t) F.entry_int_rmul (F.args_int_rmul_2 _ _) (int_rmul_tuple k t l its.toArray n dd sl)
      ⟨ho, rfl, ⟨_, ho, rfl⟩, ?_⟩)
  by_cases hsame : xs = [] ∨ k = 1
  · have c1 : (its.toArray.isEmpty || k == 1) = true := by
      rw [emp]
      rcases hsame with e | e
      · rw [decide_eq_true e, Bool.true_or]
      · rw [e, Bool.or_comm]
        rfl
    exact call_meets F.slot_tuple_mul ⟨_, ho, rfl⟩ F.entry_tuple_mul (F.args_tuple_mul_2 _ _) (tuple_mul_same l its.toArray n dd sl k t c0 c1) ⟨ho, ⟨.ref l, H, I, rfl, q1 hsame⟩⟩
  · have hne : xs ≠ [] := fun e => hsame (.inl e)
    have hk1 : k ≠ 1 := fun e => hsame (.inr e)
    have c1 : (its.toArray.isEmpty || k == 1) = false := by
      rw [emp, decide_eq_false hne, Bool.false_or]
      exact beq_eq_false_iff_ne.mpr hk1
    have hf : H s.heap.objs.size = none := I.hok.fresh (Nat.le_refl _)
    by_cases hk : k ≤ 0
    · have c2 : (decide (k ≤ 0) || its.toArray.isEmpty) = true := by rw [decide_eq_true hk, Bool.true_or]
      refine call_meets F.slot_tuple_mul ⟨_, ho, rfl⟩ F.entry_tuple_mul (F.args_tuple_mul_2 _ _) (tuple_mul_nil l its.toArray n dd sl k t c0 c1 c2) ⟨ho, ?_⟩
      have e0 : (List.replicate k.toNat xs).flatten = [] := by
        rw [show k.toNat = 0 by omega]
        rfl
      have q := q2 hsame s.heap.objs.size hf
      rw [e0] at q
      refine ⟨.ref s.heap.objs.size, _, I.laid (t' := s.toks) (o := .tup []) (fun b ob q => Heap.get?_push_of_some _ q) (Nat.le_refl _) ?_, rfl, q⟩
      exact ⟨Nat.zero_le _, [], .nil, ⟨_, Heap.get?_push_size _ rfl, rfl, _, rfl⟩⟩
    · have c2 : (decide (k ≤ 0) || its.toArray.isEmpty) = false := by
        rw [emp, decide_eq_false hne, decide_eq_false hk] <;> rfl
      have hsz0 : its.toArray.size = xs.length := by rw [List.size_toArray, hle]
      have hkn : ((k.toNat : Nat) : Int) = k := by omega
      have hm : ((its.toArray.size : Nat) : Int) * k ≤ (sizeLine : Int) := by
        rw [hsz0, ← hkn, ← Int.natCast_mul]
        exact Int.ofNat_le.mpr hz
      have c4 : Builtin.Tuple.tupleTooMany (((its.toArray.size : Nat) : Int) * k) = false := by
        unfold Builtin.Tuple.tupleTooMany
        exact decide_eq_false (by omega)
      have flen : (List.replicate k.toNat its).flatten.length ≤ sizeLine := by
        rw [PyProof.Rows.lm_len_rep_flat, hle, Nat.mul_comm]
        exact hz
      have hcap : (sizeLine : Int) ≤ (2 ^ 63 - 1) / 8 := by
        rw [sizeLine_eq]
        decide
      refine call_meets F.slot_tuple_mul ⟨_, ho, rfl⟩ F.entry_tuple_mul (F.args_tuple_mul_2 _ _) (tuple_mulW l its.toArray n dd sl k t c0 c1 c2 (by omega) c4 (by rw [size_rep, List.size_toArray]; exact flen)) ⟨ho, ?_⟩
      rw [size_rep]
      refine ⟨.ref s.heap.objs.size, _, I.laid (t' := s.toks) (o := .tup (List.replicate k.toNat xs).flatten) (fun b ob q => Heap.get?_push_of_some _ q) (Nat.le_refl _) ?_, rfl, q2 hsame _ hf⟩
      exact ⟨by rw [PyProof.Rows.lm_len_rep_flat, Nat.mul_comm]; exact hz, _, r.rep k.toNat, IsTup.new _ _⟩
/-- x * y: ints, a tuple or a list times an int -/
def mulA : O2 := fun _ x y k => match y with
  | .v (.int j) => match x with
    | .v (.int i) => IntMulOk i j ∧ k (.int (i * j))
    | .v (.tup xs) => ((-(2 ^ 62) ≤ j ∧ j < 2 ^ 62) ∧ xs.length * j.toNat ≤ sizeLine) ∧ k (.tup (List.replicate j.toNat xs).flatten)
    | .v (.lst xs) => ((-(2 ^ 62) ≤ j ∧ j < 2 ^ 62) ∧ xs.length * j.toNat ≤ sizeLine) ∧ k (.lst (List.replicate j.toNat xs).flatten)
    | _ => False
  | _ => False
theorem flat1 {α : Type} (xs : List α) : (List.replicate 1 xs).flatten = xs := by simp
theorem flat0 {α : Type} : ∀ n : Nat, (List.replicate n ([] : List α)).flatten = []
  | 0 => rfl
  | n + 1 => by
    rw [List.replicate_succ, List.flatten_cons, flat0 n]
    rfl
theorem mulA_ok {X : Cx} : ∃ r, OpR X (binaryOp .Mult) r ∧ Op2 X.K r mulA := by
  refine ⟨_, op_mulG.or (op_repA.or op_rep), fun G B f M σ H x y v w k Q rep rx ry h fin => ?_⟩
  unfold mulA at h
  split at h
  · rename_i j
    cases ry
    split at h
    · cases rx
      exact .inl ⟨_, _, rfl, rfl, h.1, fin _ _ _ h.2 rep (.int _) .refl⟩
    · rename_i xs
      have rx' : R X.K H B G.C (.tup xs) v := rx
      cases rx' with
      | tup h1 r =>
      refine .inr (.inl ⟨_, _, _, rfl, rfl, h1, h.1.1, by rw [← r.length]; exact h.1.2, fun e => ?_, fun e p hp => fin _ _ _ h.2 (rep.new hp) (new_tup rep (r.flat _) hp) (.new hp)⟩)
      have e2 : (List.replicate j.toNat xs).flatten = xs := by
        rcases e with e | e
        · subst e
          cases r
          exact flat0 _
        · rw [e]
          exact flat1 xs
      have q := h.2
      rw [e2] at q
      exact fin _ _ _ q rep (.tup h1 r) .refl
    · obtain ⟨a, vs, rfl, ha, r⟩ := rv_lst (f := f) (M := M) (σ := σ) rx
      exact .inr (.inr ⟨_, _, _, rfl, rfl, ha, by omega, by omega, by rw [← r.length]; exact h.1.2, fun p hp => fin _ _ _ h.2 (rep.new hp) (new_lst rep (r.flat _) hp) (.new hp)⟩)
    · exact h.elim
  · exact h.elim

/-! ### == with ints apart, the order of ints and of tuples -/
def eqA : O2 := fun M x y k => match x, y with
  | .v (.int i), .v (.int j) => k (.bl (decide (i = j)))
  | x, y => eqP M x y k
def neA : O2 := fun M x y k => match x, y with
  | .v (.int i), .v (.int j) => k (.bl (!decide (i = j)))
  | x, y => neP M x y k
theorem sh_int (i : Int) : SeqAt.shaped (toD (.int i)) = true := by
  rw [toD]
  rfl
theorem eqv_int (i j : Int) : eqv (.int i) (.int j) = decide (i = j) := by
  rw [eqv]
  rfl
theorem eqA_ok {K : PySem.W.Frag} : Op2 K (rEqD K) eqA := fun G B f M σ H x y v w k Q rep rx ry h fin => by
  unfold eqA at h
  split at h
  · rename_i i j
    refine eq_ok G B f M σ H _ _ v w k Q rep rx ry ⟨⟨sh_int i, sh_int j⟩, ?_⟩ fin
    show k (.bl (eqv (.int i) (.int j)))
    rw [eqv_int]
    exact h
  · exact eq_ok G B f M σ H _ _ v w k Q rep rx ry h fin
theorem neA_ok {K : PySem.W.Frag} : Op2 K (rNeD K) neA := fun G B f M σ H x y v w k Q rep rx ry h fin => by
  unfold neA at h
  split at h
  · rename_i i j
    refine ne_ok G B f M σ H _ _ v w k Q rep rx ry ⟨⟨sh_int i, sh_int j⟩, ?_⟩ fin
    show k (.bl (!eqv (.int i) (.int j)))
    rw [eqv_int]
    exact h
  · exact ne_ok G B f M σ H _ _ v w k Q rep rx ry h fin
end Fl

namespace Fl
open PySem PySem.Spec PyProof.Rows L2
theorem _root_.L2.PI.orr {X : Cx} {tg e : Expr} {t t' : TI} (h : PI X tg e t) (h' : PI X tg e t') : PI X tg e (fun σ H R => t σ H R ∨ t' σ H R) := ⟨fun pins s σ H R I q => q.elim (h.run pins s σ H R I) (h'.run pins s σ H R I)⟩
section
variable {X : Cx} {tg e a b c : Expr} {m ma mb : FE} {mf : FF} {ta : FA} {pos p : Pos}
theorem re_mul (ha : RE X a ma) (hb : RE X b mb) : RE X (.BinOp a .Mult b pos) (e2 mulA ma mb) := let ⟨_, h, o⟩ := mulA_ok (X := X); re_op h o ha hb
theorem c_eqA (hu : X.A.units + 64 < cLine) : CmpR X .Eq eqA := ⟨_, op_eqD hu, eqA_ok⟩
theorem c_neA (hu : X.A.units + 64 < cLine) : CmpR X .NotEq neA := ⟨_, op_neD hu, neA_ok⟩
/-- for x in a list or a tuple -/
def iSeq (m : FE) : FI := fun f M Q => m f M fun x M1 => match x with
  | .v (.tup xs) => Q xs M1
  | .v (.lst xs) => Q xs M1
  | .v (.fro xs) => Q xs M1
  | _ => False
theorem it_lst {K : PySem.W.Frag} {C : Addr → Prop} {a : Addr} {xs : List PV} : ItP K C (Itl K a) [(.lst xs, .ref a)] xs := fun i B' H' hp mu => by
  have hp' := hp (.lst xs, .ref a) (by simp)
  cases hp' with
  | lst hq' hr' =>
  refine ⟨fun hi => ?_, ⟨_, hq'.sq, Nat.le_of_eq hr'.length.symm⟩, fun w H2 hi y => ?_⟩
  · have hi' := hi
    rw [hr'.length] at hi'
    exact ⟨_, _, hq'.sq, List.getElem?_eq_getElem hi'⟩
  · obtain ⟨e, y⟩ := y
    subst e
    obtain ⟨x, h1, h2⟩ := hr'.get' (y _ hq'.sq)
    exact ⟨x, h1, fun _ _ z => z, h2⟩
theorem it_fro {K : PySem.W.Frag} {C : Addr → Prop} {a : Addr} {xs : List PV} : ItP K C (Itl K a) [(.fro xs, .ref a)] xs := fun i B' H' hp mu => by
  have hp' := hp (.fro xs, .ref a) (by simp)
  cases hp' with
  | fro hq' hr' =>
  refine ⟨fun hi => ?_, ⟨_, hq'.sq, Nat.le_of_eq hr'.length.symm⟩, fun w H2 hi y => ?_⟩
  · have hi' := hi
    rw [hr'.length] at hi'
    exact ⟨_, _, hq'.sq, List.getElem?_eq_getElem hi'⟩
  · obtain ⟨e, y⟩ := y
    subst e
    obtain ⟨x, h1, h2⟩ := hr'.get' (y _ hq'.sq)
    exact ⟨x, h1, fun _ _ z => z, h2⟩
theorem it_tup {K : PySem.W.Frag} {C : Addr → Prop} {a : Addr} {xs : List PV} : ItP K C (Itt K a) [(.tup xs, .ref a)] xs := fun i B' H' hp mu => by
  have hp' := hp (.tup xs, .ref a) (by simp)
  cases hp' with
  | tup hq' hr' =>
  refine ⟨fun hi => ?_, ⟨_, hq', Nat.le_of_eq hr'.length.symm⟩, fun w H2 hi y => ?_⟩
  · have hi' := hi
    rw [hr'.length] at hi'
    exact ⟨_, _, hq', List.getElem?_eq_getElem hi'⟩
  · obtain ⟨e, y⟩ := y
    subst e
    obtain ⟨x, h1, h2⟩ := hr'.get' (y _ hq')
    exact ⟨x, h1, fun _ _ z => z, h2⟩
theorem pin1 {K : PySem.W.Frag} {H : Hp} {B C : Addr → Prop} {x : PV} {v : V} (r : R K H B C x v) : ∀ q ∈ [(x, v)], R K H B C q.1 q.2 := fun q hq => by
  have e : q = (x, v) := by simpa using hq
  subst e
  exact r
theorem ri_seq (h : RE X e m) : RI X tg e (iSeq m) := by
  have hl : PI X tg e (fun σ H S => tE X.K m σ H fun x H1 => ∃ a, x = .ref a ∧ ((∃ xs, SqL X.K H1 a xs) ∧ S (Itl X.K a) H1 ∨ (∃ xs, SqT X.K H1 a xs) ∧ S (Itt X.K a) H1)) := by
    refine ⟨fun pins s σ H R I q => ?_⟩
    refine thn (h.pe.run pins s σ H _ I q) fun v s1 ⟨x, H1, I1, r1, a, ex, q1⟩ => ?_
    subst ex
    cases r1
    rcases q1 with ⟨⟨xs, hq⟩, q⟩ | ⟨⟨xs, hq⟩, q⟩
    · obtain ⟨its, rv, p, hz⟩ := I1.list hq
      refine wpAny_pyIter_list p.isList ?_
      refine ⟨s1.heap.objs.size, [s1.heap.objs.size], _, _, H1, rfl, I1.kept (t' := s1.toks) fun b o e => Heap.get?_push_of_some _ e, turn_list a _, ⟨_, Heap.get?_push_size _ rfl, rfl, rfl⟩, fun b hb => ?_, q⟩
      have e : b = s1.heap.objs.size := by simpa using hb
      subst e
      exact I1.fpOk (Nat.le_refl _) (I1.hok.fresh (Nat.le_refl _))
    · obtain ⟨its, rv, p, hz⟩ := I1.tuple hq
      refine wpAny_pyIter_tuple (show s1.heap.IsTuple a its.toArray from p) ?_
      refine ⟨s1.heap.objs.size, [s1.heap.objs.size], _, _, H1, rfl, I1.kept (t' := s1.toks) fun b o e => Heap.get?_push_of_some _ e, turn_tuple a _, ⟨_, Heap.get?_push_size _ rfl, rfl, rfl⟩, fun b hb => ?_, q⟩
      have e : b = s1.heap.objs.size := by simpa using hb
      subst e
      exact I1.fpOk (Nat.le_refl _) (I1.hok.fresh (Nat.le_refl _))
  refine ⟨hl.imp fun σ H S ⟨G, B, f, M, Q', rep, hm, k⟩ => ⟨G, B, f, M, _, rep, hm, fun x M1 v H1 q rep1 r1 c1 => ?_⟩⟩
  split at q
  · rename_i xs
    have r2 : R X.K H1 B G.C (.tup xs) v := r1
    have r3 := r2
    cases r2 with
    | @tup a vs _ hq hr => exact ⟨a, rfl, .inr ⟨⟨_, hq⟩, k xs M1 _ _ H1 q rep1 c1 (pin1 r3) it_tup⟩⟩
  · rename_i xs
    have r2 : R X.K H1 B G.C (.lst xs) v := r1
    have r3 := r2
    cases r2 with
    | @lst a vs _ hq hr => exact ⟨a, rfl, .inl ⟨⟨_, hq.sq⟩, k xs M1 _ _ H1 q rep1 c1 (pin1 r3) it_lst⟩⟩
  · rename_i xs
    have r2 : R X.K H1 B G.C (.fro xs) v := r1
    have r3 := r2
    cases r2 with
    | @fro a vs _ hq hr => exact ⟨a, rfl, .inl ⟨⟨_, hq.sq⟩, k xs M1 _ _ H1 q rep1 c1 (pin1 r3) it_fro⟩⟩
  · exact q.elim
/-- for x in reversed(a list or a tuple) -/
def iRev (m : FE) : FI := fun f M Q => m f M fun x M1 => match x with
  | .v (.tup xs) => Q xs.reverse M1
  | .v (.lst xs) => Q xs.reverse M1
  | _ => False
theorem rev_get {α : Type} {xs : List α} {i : Nat} (h : i < xs.length) : xs.reverse[i]? = xs[xs.length - 1 - i]? := List.getElem?_reverse h
theorem it_rlst {K : PySem.W.Frag} {C : Addr → Prop} {a : Addr} {xs : List PV} : ItP K C (Itv K a xs.length) [(.lst xs, .ref a)] xs.reverse := fun i B' H' hp mu => by
  have hp' := hp (.lst xs, .ref a) (by simp)
  rw [List.length_reverse]
  cases hp' with
  | @lst _ vs _ hq' hr' =>
  refine ⟨fun hi => ⟨hi, ?_⟩, Nat.le_refl _, fun w H2 hi y => ?_⟩
  · have hi' : xs.length - 1 - i < vs.length := by
      have := hr'.length
      omega
    exact ⟨_, _, hq'.sq, List.getElem?_eq_getElem hi'⟩
  · obtain ⟨e, y⟩ := y
    subst e
    obtain ⟨x, h1, h2⟩ := hr'.get' (y _ hq'.sq)
    exact ⟨x, by rw [rev_get hi]; exact h1, fun _ _ z => z, h2⟩
theorem it_rtup {K : PySem.W.Frag} {C : Addr → Prop} {a : Addr} {xs : List PV} : ItP K C (RT.ItvT K a xs.length) [(.tup xs, .ref a)] xs.reverse := fun i B' H' hp mu => by
  have hp' := hp (.tup xs, .ref a) (by simp)
  rw [List.length_reverse]
  cases hp' with
  | @tup _ vs _ hq' hr' =>
  refine ⟨fun hi => ⟨hi, ?_⟩, Nat.le_refl _, fun w H2 hi y => ?_⟩
  · have hi' : xs.length - 1 - i < vs.length := by
      have := hr'.length
      omega
    exact ⟨_, _, hq', List.getElem?_eq_getElem hi'⟩
  · obtain ⟨e, y⟩ := y
    subst e
    obtain ⟨x, h1, h2⟩ := hr'.get' (y _ hq')
    exact ⟨x, by rw [rev_get hi]; exact h1, fun _ _ z => z, h2⟩
theorem ri_rev (hg : Gl X "reversed") (hm : X.mg "reversed" = none) (h : RE X e m) (hs : starEach [e] X.env = (false, eval e X.env) :: starEach [] X.env := by rfl) : RI X tg (.Call (.Name "reversed" p) [e] [] pos) (iRev m) :=
  ⟨(RT.pi_revA hg hm h.pe hs).imp fun σ H S ⟨G, B, f, M, Q', rep, hm, k⟩ => ⟨G, B, f, M, _, rep, hm, fun x M1 v H1 q rep1 r1 c1 => by
    split at q
    · rename_i xs
      have r2 : R X.K H1 B G.C (.tup xs) v := r1
      have r3 := r2
      cases r2 with
      | @tup a vs _ hq hr => exact ⟨a, vs, rfl, .inr ⟨hq, by rw [← hr.length]; exact k _ M1 _ _ H1 q rep1 c1 (pin1 r3) it_rtup⟩⟩
    · rename_i xs
      have r2 : R X.K H1 B G.C (.lst xs) v := r1
      have r3 := r2
      cases r2 with
      | @lst a vs _ hq hr => exact ⟨a, vs, rfl, .inl ⟨hq.sq, by rw [← hr.length]; exact k _ M1 _ _ H1 q rep1 c1 (pin1 r3) it_rlst⟩⟩
    · exact q.elim⟩⟩
/-- lo, lo + c, .. -/
def rngC (lo c : Int) : Nat → List PV
  | 0 => []
  | n + 1 => .int lo :: rngC (lo + c) c n
theorem rngC_length : ∀ (n : Nat) (lo c : Int), (rngC lo c n).length = n
  | 0, _, _ => rfl
  | n + 1, lo, c => congrArg (· + 1) (rngC_length n (lo + c) c)
theorem rngC_get : ∀ (n : Nat) (lo c : Int) (i : Nat), i < n → (rngC lo c n)[i]? = some (.int (lo + i * c))
  | n + 1, lo, c, 0, _ => by
    show some (PV.int lo) = _
    rw [show ((0 : Nat) : Int) * c = 0 by simp, Int.add_zero]
  | n + 1, lo, c, i + 1, h => by
    show (rngC (lo + c) c n)[i]? = _
    rw [rngC_get n (lo + c) c i (by omega)]
    rw [show ((i + 1 : Nat) : Int) = (i : Int) + 1 by omega, Int.add_mul, Int.one_mul]
    rw [show lo + c + (i : Int) * c = lo + ((i : Int) * c + c) by omega]
def iR3 (ta : FA) : FI := fun f M Q => ta f M fun xs M1 => match xs with
  | [.v (.int i), .v (.int j), .v (.int c)] => ∃ n, RgC i j c n ∧ Q (rngC i c n) M1
  | _ => False
theorem ri_rng3 (hg : Gl X "range") (hm : X.mg "range" = none) (ha : RA X [a, b, c] ta) (hs : starEach [a, b, c] X.env = (false, eval a X.env) :: starEach [b, c] X.env := by rfl) (hpl : (backTo pos (starEach [b, c] X.env)).any (·.1) = false := by rfl) :
    RI X tg (.Call (.Name "range" p) [a, b, c] [] pos) (iR3 ta) :=
  ⟨(pi_range3 hg hm ha.pa hs hpl).imp fun σ H S ⟨G, B, f, M, Q', rep, hm, k⟩ => ⟨G, B, f, M, _, rep, hm, fun xs M1 vs H1 q hl rep1 r1 c1 => by
    split at q
    · rename_i i j c
      obtain ⟨n, hn, q⟩ := q
      match vs, r1 with
      | [v, w, u], ⟨r, r', r'', _⟩ =>
        cases r
        cases r'
        cases r''
        refine ⟨i, j, c, n, rfl, hn, k _ _ _ [] _ q rep1 c1 (by simp) fun t B H _ _ => ?_⟩
        rw [rngC_length]
        refine ⟨fun h => h, Nat.le_refl _, fun v H' hi y => ⟨.int (i + t * c), rngC_get n i c t hi, ?_, ?_⟩⟩
        · rw [y.1]
          exact fun _ _ z => z
        · rw [y.2]
          exact .int _
    · exact q.elim⟩⟩
/-! a comprehension given to a name on its own line -/
theorem rs_lc {tg elt iter : Expr} {ifs : List Expr} {scope : Scope} {own : List (Str × Nat)} {mi : FI} {g : FG} {mt : FT} {me : FE} {ws : List Nat} {y : Str} {py spos lpos : Pos} (i : Nat) (hc : X.calm = true) (hN : X.N.Nodup) (hy : X.N[i]? = some y) (hyl : X.env.scope.names.lookup y = some .local)
    (hsw : swapsWith (.ListComp elt [⟨tg, iter, ifs, 0⟩] scope lpos) (some (.Name y py)) spos.line X.env = pure true) (hi : RI X tg iter mi) (ok : BlkOk X.N X.env.scope scope own)
    (hg : ∀ (s : Shared) (H : Hp) (C : Addr) (cl : List (Str × Addr)) (fp : List Addr), RG (X.blk s H scope (compEnvC scope cl C X.env) fp) tg ws g) (ht : ∀ (s : Shared) (H : Hp) (C : Addr) (cl : List (Str × Addr)) (fp : List Addr), RTs (X.blk s H scope (compEnvC scope cl C X.env) fp) ifs mt)
    (he : ∀ (s : Shared) (H : Hp) (C : Addr) (cl : List (Str × Addr)) (fp : List Addr), RE (X.blk s H scope (compEnvC scope cl C X.env) fp) elt me) (hw : ∀ i ∈ ws, i ∈ own.map (·.2) := by decide) (hs : ∀ x, foldedSetIterable iter X.env x = pure x := by intro _; rfl) :
    PS X (.Assign [.Name y py] (.ListComp elt [⟨tg, iter, ifs, 0⟩] scope lpos) spos) (tAsg (tF X.K (fLc mi g mt me (own.map (·.2)))) (gName i)) := by
  have h0 := ps_setLc (g := tG X.K ws g) (tt := tT X.K mt) (te := tE X.K me) hc hN hy hyl hsw hi.pi ok (fun s H C cl fp => (hg s H C cl fp).pg) (fun s H C cl fp => (ht s H C cl fp).pts) (fun s H C cl fp => (he s H C cl fp).pe) hs
  exact h0.imp fun D σ H q => lc_ok hw q
theorem st1Lc {tg elt iter : Expr} {ifs : List Expr} {scope : Scope} {own : List (Str × Nat)} {mi : FI} {g : FG} {mt : FT} {me : FE} {ws : List Nat} {y : Str} {py spos lpos : Pos} (i : Nat) (hc : X.calm = true) (hN : X.N.Nodup) (hi : RI X tg iter mi) (ok : BlkOk X.N X.env.scope scope own)
    (hg : ∀ (s : Shared) (H : Hp) (C : Addr) (cl : List (Str × Addr)) (fp : List Addr), RG (X.blk s H scope (compEnvC scope cl C X.env) fp) tg ws g) (ht : ∀ (s : Shared) (H : Hp) (C : Addr) (cl : List (Str × Addr)) (fp : List Addr), RTs (X.blk s H scope (compEnvC scope cl C X.env) fp) ifs mt)
    (he : ∀ (s : Shared) (H : Hp) (C : Addr) (cl : List (Str × Addr)) (fp : List Addr), RE (X.blk s H scope (compEnvC scope cl C X.env) fp) elt me) (hy : X.N[i]? = some y := by rfl) (hyl : X.env.scope.names.lookup y = some .local := by rfl)
    (hsw : swapsWith (.ListComp elt [⟨tg, iter, ifs, 0⟩] scope lpos) (some (.Name y py)) spos.line X.env = pure true := by exact sw_true rfl rfl rfl (by decide +kernel)) (hw : ∀ i ∈ ws, i ∈ own.map (·.2) := by decide) (hs : ∀ x, foldedSetIterable iter X.env x = pure x := by intro _; rfl) :
    RS X (.Assign [.Name y py] (.ListComp elt [⟨tg, iter, ifs, 0⟩] scope lpos) spos) (sSet i (eF (fLc mi g mt me (own.map (·.2))))) :=
  ⟨(rs_lc i hc hN hy hyl hsw hi ok hg ht he hw hs).imp fun D σ H ⟨G, B, f, M, D', rep, hm, k⟩ => ⟨G, B, f, M, _, rep, hm, fun xs M' D vs H' q rep' hD hr nb h0 ec =>
    k.nx _ _ _ _ _ q ((rep.shrink rep' fun a h => .inl h).set (.lst ⟨hD, nb⟩ (hr.weak fun a h => .inl h)))⟩⟩
theorem stBLc {tg elt iter : Expr} {ifs : List Expr} {scope : Scope} {own : List (Str × Nat)} {mi : FI} {g : FG} {mt : FT} {me : FE} {ws : List Nat} {y : Str} {py spos lpos : Pos} (i : Nat) (hc : X.calm = true) (hN : X.N.Nodup) (hi : RI X tg iter mi) (ok : BlkOk X.N X.env.scope scope own)
    (hg : ∀ (s : Shared) (H : Hp) (C : Addr) (cl : List (Str × Addr)) (fp : List Addr), RG (X.blk s H scope (compEnvC scope cl C X.env) fp) tg ws g) (ht : ∀ (s : Shared) (H : Hp) (C : Addr) (cl : List (Str × Addr)) (fp : List Addr), RTs (X.blk s H scope (compEnvC scope cl C X.env) fp) ifs mt)
    (he : ∀ (s : Shared) (H : Hp) (C : Addr) (cl : List (Str × Addr)) (fp : List Addr), RE (X.blk s H scope (compEnvC scope cl C X.env) fp) elt me) (hy : X.N[i]? = some y := by rfl) (hyl : X.env.scope.names.lookup y = some .local := by rfl)
    (hsw : swapsWith (.ListComp elt [⟨tg, iter, ifs, 0⟩] scope lpos) (some (.Name y py)) spos.line X.env = pure true := by exact sw_true rfl rfl rfl (by decide +kernel)) (hw : ∀ i ∈ ws, i ∈ own.map (·.2) := by decide) (hs : ∀ x, foldedSetIterable iter X.env x = pure x := by intro _; rfl) :
    RS X (.Assign [.Name y py] (.ListComp elt [⟨tg, iter, ifs, 0⟩] scope lpos) spos) (sBld i (fLc mi g mt me (own.map (·.2)))) :=
  ⟨(rs_lc i hc hN hy hyl hsw hi ok hg ht he hw hs).imp fun D σ H ⟨G, B, f, M, D', rep, hm, k⟩ => ⟨G, B, f, M, _, rep, hm, fun xs M1 A vs H1 q rep1 hA hr nb h0 c1 =>
    k.nx _ _ _ _ _ q (rep1.setB (.inr rfl) (fun z => nb (rep.sb A z)) h0 hA hr fun j ys hj e => by
      obtain ⟨v, e1, a, ws, e2, hb, _⟩ := rep.slot j _ hj
      rw [e] at e1
      cases e1
      cases e2
      exact nb hb)⟩⟩
end
end Fl

namespace Fl
open PySem PySem.Spec PyProof.Rows L2

/-! ### order of ints, of tuples -/
mutual
/-- x before y by c: ints, tuples of such -/
def relv (c : Int → Int → Bool) : Nat → PV → PV → Bool
  | _, .int i, .int j => c i j
  | d + 1, .tup xs, .tup ys => relvs c d xs ys
  | _, _, _ => false
def relvs (c : Int → Int → Bool) : Nat → List PV → List PV → Bool
  | _, [], ys => c 0 ys.length
  | _, x :: xs, [] => c (xs.length + 1) 0
  | d, x :: xs, y :: ys => if eqv x y then relvs c d xs ys else relv c d x y
end
mutual
def cmpb : Nat → PV → PV → Bool
  | _, .int i, .int j => true
  | d + 1, .tup xs, .tup ys => cmpbs d xs ys
  | _, _, _ => false
def cmpbs : Nat → List PV → List PV → Bool
  | _, [], _ => true
  | _, _ :: _, [] => true
  | d, x :: xs, y :: ys => cmpb d x y && cmpbs d xs ys
end
structure OrdOk (op : CmpOp) (c : Int → Int → Bool) : Prop where
  shift : ∀ a b : Int, c (a + 1) (b + 1) = c a b
  pi : ∀ (A : Around) (s : Shared) (a b : Int) (t u : Tok), Ob.RcOp op A s (.int a t) (.int b u) (c a b)
  pt : ∀ {A : Around} {s : Shared} {l b : Addr} {items items2 : Array Value} {e r : Nat → Bool}, s.heap.IsTuple l items → s.heap.IsTuple b items2 → A.units < cLine →
    (∀ j (h1 : j < items.size) (h2 : j < items2.size), SeqAt.EqAt A.in1 s items[j] items2[j] (e j)) →
    (∀ j (h1 : j < items.size) (h2 : j < items2.size), e j = false → Ob.RcOp op A.in1 s items[j] items2[j] (r j)) →
    Ob.RcOp op A s (.ref l) (.ref b) (Ob.lexAt e r (c items.size items2.size) 0 (min items.size items2.size))
  co : ∀ {A : Around} {s : Shared} {x y : Value} {b : Bool}, Ob.RcOp op A s x y b → ∀ (prog : Program) (w : World) (E : Value → Shared → Prop) (Q : Value → Shared → Prop), Q (.bool b) s → wpAny (model prog w) A (compareOp op x y) Q E s
def cLt : Int → Int → Bool := fun i j => decide (i < j)
def cLe : Int → Int → Bool := fun i j => decide (i ≤ j)
def cGt : Int → Int → Bool := fun i j => decide (j < i)
def cGe : Int → Int → Bool := fun i j => decide (j ≤ i)
theorem ord_lt : OrdOk .Lt cLt := ⟨fun a b => decide_eq_decide.mpr (by omega), fun _ _ => Ob.RcOp.lt_int, fun hl hb hu he hr => by
  have := Ob.RcOp.tuples_lt hl hb hu he hr
  rw [show ∀ a b : Nat, cLt a b = decide (a < b) from fun a b => decide_eq_decide.mpr (by omega)]
  exact this, fun h => h⟩
theorem ord_le : OrdOk .LtE cLe := ⟨fun a b => decide_eq_decide.mpr (by omega), fun _ _ => Ob.RcOp.le_int, fun hl hb hu he hr => by
  have := Ob.RcOp.tuples_le hl hb hu he hr
  rw [show ∀ a b : Nat, cLe a b = decide (a ≤ b) from fun a b => decide_eq_decide.mpr (by omega)]
  exact this, fun h => h⟩
theorem ord_gt : OrdOk .Gt cGt := ⟨fun a b => decide_eq_decide.mpr (by omega), fun _ _ => Ob.RcOp.gt_int, fun hl hb hu he hr => by
  have := Ob.RcOp.tuples_gt hl hb hu he hr
  rw [show ∀ a b : Nat, cGt a b = decide (b < a) from fun a b => decide_eq_decide.mpr (by omega)]
  exact this, fun h => h⟩
theorem ord_ge : OrdOk .GtE cGe := ⟨fun a b => decide_eq_decide.mpr (by omega), fun _ _ => Ob.RcOp.ge_int, fun hl hb hu he hr => by
  have := Ob.RcOp.tuples_ge hl hb hu he hr
  rw [show ∀ a b : Nat, cGe a b = decide (b ≤ a) from fun a b => decide_eq_decide.mpr (by omega)]
  exact this, fun h => h⟩

section
variable {X : Cx}
theorem lay_at : ∀ {xs : List PV}, PyData.canLayAll0 (toDs xs) = true → ∀ (j : Nat) (x : PV), xs[j]? = some x → (toD x).canLay0 = true
  | x :: xs, h, 0, y, e => by
    rw [toDs, PyData.canLayAll0, Bool.and_eq_true] at h
    cases e
    exact h.1
  | x :: xs, h, j + 1, y, e => by
    rw [toDs, PyData.canLayAll0, Bool.and_eq_true] at h
    exact lay_at h.2 j y (by simpa using e)
theorem depth_at : ∀ {xs : List PV} (j : Nat) (x : PV), xs[j]? = some x → (toD x).depth ≤ PyData.depthAll (toDs xs)
  | x :: xs, 0, y, e => by
    cases e
    rw [toDs, PyData.depthAll]
    exact Nat.le_max_left _ _
  | x :: xs, j + 1, y, e => by
    rw [toDs, PyData.depthAll]
    exact Nat.le_trans (depth_at j y (by simpa using e)) (Nat.le_max_right _ _)
theorem eqAt_pv {pins : List (Addr × Obj)} {σ : L2.St} {H : Hp} {s : Shared} {B C : Addr → Prop} (I : Inv X pins σ H s) {A : Around} {x y : PV} {v w : V} {u u' : Value} (hx : R X.K H B C x v) (hy : R X.K H B C y w) (rx : RelV v u) (ry : RelV w u')
    (lx : (toD x).canLay0 = true) (ly : (toD y).canLay0 = true) (hd : A.units + (toD x).depth < cLine) : SeqAt.EqAt A s u u' (eqv x y) := by
  obtain ⟨as, r1⟩ := Dp.reads I _ _ _ (R.dp hx lx) rx
  obtain ⟨bs, r2⟩ := Dp.reads I _ _ _ (R.dp hy ly) ry
  rw [← eqv_toD]
  exact SeqAt.eqAt_reads _ _ _ _ _ _ _ _ r1 r2 lx ly (by omega)
/-- what lexAt says of the lists -/
theorem lex_relvs {c : Int → Int → Bool} (hs : ∀ a b : Int, c (a + 1) (b + 1) = c a b) {d : Nat} : ∀ (xs ys : List PV) (e r : Nat → Bool) (i : Nat),
    (∀ (j : Nat) (x y : PV), xs[j]? = some x → ys[j]? = some y → e (i + j) = eqv x y ∧ r (i + j) = relv c d x y) →
    Ob.lexAt e r (c xs.length ys.length) i (min xs.length ys.length) = relvs c d xs ys
  | [], ys, e, r, i, _ => by
    rw [relvs]
    simp only [List.length_nil, Nat.zero_min, Ob.lexAt_zero]
    rfl
  | x :: xs, [], e, r, i, _ => by
    rw [relvs]
    simp only [List.length_nil, Nat.min_zero, Ob.lexAt_zero]
    rfl
  | x :: xs, y :: ys, e, r, i, k => by
    rw [relvs]
    have k0 := k 0 x y rfl rfl
    rw [Nat.add_zero] at k0
    rw [List.length_cons, List.length_cons, show min (xs.length + 1) (ys.length + 1) = min xs.length ys.length + 1 by omega, Ob.lexAt_succ, k0.1, k0.2]
    have := lex_relvs (c := c) hs (d := d) xs ys e r (i + 1) fun j x' y' h1 h2 => by
      rw [show i + 1 + j = i + (j + 1) by omega]
      exact k (j + 1) x' y' (by simpa using h1) (by simpa using h2)
    rw [← this]
    rw [show c ((xs.length + 1 : Nat) : Int) ((ys.length + 1 : Nat) : Int) = c xs.length ys.length by rw [Int.natCast_add, Int.natCast_add]; exact hs _ _]
theorem cmpbs_at {d : Nat} : ∀ {xs ys : List PV}, cmpbs d xs ys = true → ∀ (j : Nat) (x y : PV), xs[j]? = some x → ys[j]? = some y → cmpb d x y = true
  | [], _, h, j, x', y', e1, e2 => by simp at e1
  | _ :: _, [], h, j, x', y', e1, e2 => by simp at e2
  | x :: xs, y :: ys, h, 0, x', y', e1, e2 => by
    cases e1
    cases e2
    rw [cmpbs, Bool.and_eq_true] at h
    exact h.1
  | x :: xs, y :: ys, h, j + 1, x', y', e1, e2 => by
    rw [cmpbs, Bool.and_eq_true] at h
    exact cmpbs_at h.2 j x' y' (by simpa using e1) (by simpa using e2)
theorem cmpb_cases : ∀ {d : Nat} {x y : PV}, cmpb d x y = true → (∃ i j, x = .int i ∧ y = .int j) ∨ (∃ e xs ys, d = e + 1 ∧ x = .tup xs ∧ y = .tup ys ∧ cmpbs e xs ys = true) := fun {d x y} h => by
  cases d with
  | zero => cases x <;> cases y <;> simp [cmpb] at h ⊢
  | succ d => cases x <;> cases y <;> simp [cmpb] at h ⊢; exact h
theorem vals_at {vs : List V} {us : List Value} (r : Vals vs us) {j : Nat} {v : V} (h : vs[j]? = some v) (hj : j < us.toArray.size) : RelV v us.toArray[j] := by
  obtain ⟨u, h1, h2⟩ := r.get h
  have : us.toArray[j] = u := by
    have hj' : j < us.length := by simpa using hj
    rw [List.getElem?_eq_getElem hj'] at h1
    cases h1
    simp
  rw [this]
  exact h2
theorem rc_pv {op : CmpOp} {c : Int → Int → Bool} (O : OrdOk op c) {pins : List (Addr × Obj)} {σ : L2.St} {H : Hp} {s : Shared} {B C : Addr → Prop} (I : Inv X pins σ H s) : ∀ (d : Nat) (A : Around) (x y : PV) (v w : V) (u u' : Value), R X.K H B C x v → R X.K H B C y w → RelV v u → RelV w u' →
    (toD x).canLay0 = true → (toD y).canLay0 = true → cmpb d x y = true → A.units + d + 1 + (toD x).depth < cLine → Ob.RcOp op A s u u' (relv c d x y) := fun d => by
  induction d using Nat.strongRecOn with
  | ind d ih =>
    intro A x y v w u u' hx hy rx ry lx ly hc hd
    rcases cmpb_cases hc with ⟨i, j, rfl, rfl⟩ | ⟨e, xs, ys, rfl, rfl, rfl, hc⟩
    · cases hx
      cases hy
      obtain ⟨t, rfl⟩ := rx
      obtain ⟨t', rfl⟩ := ry
      have : relv c d (.int i) (.int j) = c i j := by cases d <;> simp only [relv]
      rw [this]
      exact O.pi _ _ _ _ _ _
    · cases hx with
      | @tup a vs _ hq hr =>
      cases hy with
      | @tup b ws _ hq' hr' =>
      cases rx
      cases ry
      obtain ⟨its, r1, p1, _⟩ := I.tuple hq
      obtain ⟨its2, r2, p2, _⟩ := I.tuple hq'
      rw [toD, PyData.canLay0] at lx ly
      rw [toD, PyData.depth] at hd
      have z1 : its.toArray.size = xs.length := by rw [List.size_toArray, ← r1.length, hr.length]
      have z2 : its2.toArray.size = ys.length := by rw [List.size_toArray, ← r2.length, hr'.length]
      have at1 : ∀ j (h1 : j < its.toArray.size), xs[j]? = some (xs.getD j .non) ∧ ∃ v, R X.K H B C (xs.getD j .non) v ∧ RelV v its.toArray[j] := fun j h1 => by
        have e1 : xs[j]? = some (xs.getD j .non) := by simp [show j < xs.length by omega]
        obtain ⟨v, q1, q2⟩ := hr.get e1
        exact ⟨e1, v, q2, vals_at r1 q1 h1⟩
      have at2 : ∀ j (h1 : j < its2.toArray.size), ys[j]? = some (ys.getD j .non) ∧ ∃ v, R X.K H B C (ys.getD j .non) v ∧ RelV v its2.toArray[j] := fun j h1 => by
        have e1 : ys[j]? = some (ys.getD j .non) := by simp [show j < ys.length by omega]
        obtain ⟨v, q1, q2⟩ := hr'.get e1
        exact ⟨e1, v, q2, vals_at r2 q1 h1⟩
      have P := O.pt (A := A) (s := s) (e := fun j => eqv (xs.getD j .non) (ys.getD j .non)) (r := fun j => relv c e (xs.getD j .non) (ys.getD j .non)) p1 p2 (by omega) (fun j h1 h2 => by
        obtain ⟨e1, v1, q1, q2⟩ := at1 j h1
        obtain ⟨e2, v2, q3, q4⟩ := at2 j h2
        have := depth_at _ _ e1
        exact eqAt_pv I q1 q3 q2 q4 (lay_at lx _ _ e1) (lay_at ly _ _ e2) (by rw [Around.in1_units]; omega)) (fun j h1 h2 _ => by
        obtain ⟨e1, v1, q1, q2⟩ := at1 j h1
        obtain ⟨e2, v2, q3, q4⟩ := at2 j h2
        have := depth_at _ _ e1
        exact ih e (Nat.lt_succ_self e) _ _ _ _ _ _ _ q1 q3 q2 q4 (lay_at lx _ _ e1) (lay_at ly _ _ e2) (cmpbs_at hc _ _ _ e1 e2) (by rw [Around.in1_units]; omega))
      rw [z1, z2, lex_relvs (d := e) O.shift xs ys _ _ 0 fun j x y e1 e2 => by
        rw [Nat.zero_add]
        simp [List.getD_eq_getElem?_getD, e1, e2]] at P
      rw [relv]
      exact P
/-- an order: ints, or tuples one inside the other, three deep at most -/
def rOrd (K : PySem.W.Frag) (c : Int → Int → Bool) : R2 := fun x y H Q => ∃ (B C : Addr → Prop) (p q : PV), R K H B C p x ∧ R K H B C q y ∧ okD p ∧ okD q ∧ cmpb 3 p q = true ∧ Q (.bl (relv c 3 p q)) H
theorem op_ord {op : CmpOp} {c : Int → Int → Bool} (O : OrdOk op c) (hu : X.A.units + 128 < cLine) : OpR X (compareOp op) (rOrd X.K c) := by
  intro pins s σ H x y v u Q I rx ry h
  obtain ⟨B, C, p, q, hp, hq, sp, sq, hc, hQ⟩ := h
  have := rc_pv O I 3 X.A p q _ _ _ _ hp hq rx ry (SeqAt.canLay_of_shaped sp) (SeqAt.canLay_of_shaped sq) hc (by
    have : (toD p).depth ≤ 64 := SeqAt.depth_of_shaped sp
    omega)
  exact O.co this X.prog X.w X.xe _ ⟨.bl _, H, I, rfl, hQ⟩
def ordA (c : Int → Int → Bool) : O2 := fun _ x y k => match x, y with
  | .v (.int i), .v (.int j) => k (.bl (c i j))
  | .v p, .v q => (okD p ∧ okD q ∧ cmpb 3 p q = true) ∧ k (.bl (relv c 3 p q))
  | _, _ => False
theorem okD_int (i : Int) : okD (.int i) := by
  unfold okD
  rw [toD]
  rfl
theorem ord_ok {c : Int → Int → Bool} : Op2 X.K (rOrd X.K c) (ordA c) := fun G B f M σ H x y v w k Q rep rx ry hx fin => by
  unfold ordA at hx
  split at hx
  · rename_i i j
    exact ⟨B, G.C, _, _, rx, ry, okD_int i, okD_int j, rfl, fin _ _ _ hx rep (.bl _) .refl⟩
  · exact ⟨B, G.C, _, _, rx, ry, hx.1.1, hx.1.2.1, hx.1.2.2, fin _ _ _ hx.2 rep (.bl _) .refl⟩
  · exact hx.elim
abbrev ltA : O2 := ordA cLt
abbrev leA : O2 := ordA cLe
abbrev gtA : O2 := ordA cGt
abbrev geA : O2 := ordA cGe
theorem c_ltA (hu : X.A.units + 128 < cLine) : CmpR X .Lt ltA := ⟨_, op_ord ord_lt hu, ord_ok⟩
theorem c_leA (hu : X.A.units + 128 < cLine) : CmpR X .LtE leA := ⟨_, op_ord ord_le hu, ord_ok⟩
theorem c_gtA (hu : X.A.units + 128 < cLine) : CmpR X .Gt gtA := ⟨_, op_ord ord_gt hu, ord_ok⟩
theorem c_geA (hu : X.A.units + 128 < cLine) : CmpR X .GtE geA := ⟨_, op_ord ord_ge hu, ord_ok⟩
end
end Fl

namespace HT
open PySem PySem.Spec PyProof.Rows
section
variable {prog : Program} {w : World} {A : Around} {E : Value → Shared → Prop} {s : Shared}
theorem adjust_rev (n : Nat) : Builtin.Slice.sliceAdjust none none (-1) (n : Int) = ((n : Int) - 1, -1) := by
  unfold Builtin.Slice.sliceAdjust
  simp
theorem places_rev (n : Nat) : Builtin.Slice.slicePlaces ((n : Int) - 1) (-1) (-1) = n := by
  unfold Builtin.Slice.slicePlaces
  have h1 : ¬ ((-1 : Int) > 0) := by omega
  simp only [h1, if_false]
  have : (- (-1 : Int)) = 1 := by omega
  rw [this, Int.ediv_one]
  split <;> omega
theorem pick_rev (xs : List Value) : ∀ k : Nat, k ≤ xs.length → ((List.range k).filterMap fun (m : Nat) => xs.toArray[(((xs.length : Nat) : Int) - 1 + (m : Int) * -1).toNat]?) = (xs.drop (xs.length - k)).reverse
  | 0, _ => by simp
  | k + 1, h => by
    rw [List.range_succ, List.filterMap_append, pick_rev xs k (by omega)]
    have e1 : xs.drop (xs.length - (k + 1)) = xs[xs.length - (k + 1)] :: xs.drop (xs.length - k) := by
      rw [List.drop_eq_getElem_cons (by omega)]
      congr 2
      omega
    rw [e1, List.reverse_cons]
    congr 1
    have e2 : (((xs.length : Nat) : Int) - 1 + (k : Int) * -1).toNat = xs.length - (k + 1) := by omega
    simp only [List.filterMap_cons, List.filterMap_nil, e2]
    simp [show xs.length - (k + 1) < xs.length by omega]
theorem getItem_tuple_rev {t sl : Addr} {items : List Value} {vl vu vs : Value} {Q : Value → Shared → Prop} (ht : IsTup s.heap t items.toArray) (hs : s.heap.IsSliceOf sl vl vu vs) (pl : IsPart vl none) (pu : IsPart vu none) (ps : IsPart vs (some (-1)))
    (h : Q (.ref s.heap.objs.size) { s with heap := s.heap.push { cls := .type "tuple", data := .seq items.reverse.toArray } })
    (hsz : items.length ≤ sizeLine) : wpAny (model prog w) A (getItem (.ref t) (.ref sl)) Q E s := by
  have htake : sizeOk (.seq items.reverse.toArray) := by
    show items.reverse.toArray.size ≤ sizeLine
    rw [List.size_toArray, List.length_reverse]
    exact hsz
  obtain ⟨os, hos, hcs, hds⟩ := id hs
  have hTs : s.TypeIs (.ref sl) "slice" := ⟨os, hos, hcs⟩
  unfold getItem
  try with_reducible refine wpAny_holding ?_
  first | refine wpAny_bind (wpAny_pure ?_) | skip
  refine wpAny_bind (wpAny_sequenceKey ht.typeIs (by decide) ?_)
  refine wpAny_bind (wpAny_callSpecial?_slot (name := Str.ofString "__getitem__") ht.typeIs PyProof.Rows.slot_tuple_getitem
    (wpAny_call_entry PyProof.Rows.slot_tuple_getitem ht.typeIs entry_tuple_getitem ?_ (args_tuple_getitem _ _)))
  show wpAny _ _ (Builtin.Tuple.tupleItemsOf (.ref t) >>= _) _ _ s
  refine wpAny_bind (tupleItemsOf_ ht ?_)
  refine wpAny_bind (wpAny_typeOf hTs ?_)
  rw [if_pos (by decide)]
  have apl : ∀ {Q : Int × Int × Nat → Shared → Prop}, Q ((items.toArray.size : Int) - 1, -1, items.toArray.size) s → wpAny (model prog w) A.in1 (Builtin.Slice.sliceApplied (.ref sl) (pure (items.toArray.size : Int))) Q E s := fun {Q} h => by
    unfold Builtin.Slice.sliceApplied Builtin.Slice.sliceFields
    refine wpAny_bind (wpAny_bind (wpAny_field hos hds (x := vl) rfl (wpAny_bind (wpAny_field hos hds (x := vu) rfl (wpAny_bind (wpAny_field hos hds (x := vs) rfl (wpAny_pure ?_)))))))
    refine wpAny_bind (slicePart_ ps ?_)
    show wpAny _ _ (if ((-1 : Int) == 0) = true then _ else _) _ _ s
    rw [if_neg (by decide)]
    refine wpAny_bind (slicePart_ pl (wpAny_bind (slicePart_ pu (wpAny_bind (wpAny_pure ?_)))))
    show wpAny _ _ (match Builtin.Slice.sliceAdjust none none (-1) (items.toArray.size : Int) with | (lo, hi) => pure (lo, (-1 : Int), Builtin.Slice.slicePlaces lo hi (-1))) _ _ s
    rw [adjust_rev]
    show wpAny _ _ (pure ((items.toArray.size : Int) - 1, (-1 : Int), Builtin.Slice.slicePlaces ((items.toArray.size : Int) - 1) (-1) (-1))) _ _ s
    rw [places_rev]
    exact wpAny_pure h
  refine wpAny_bind (apl ?_)
  have hno : ¬ ((((items.toArray.size : Int) - 1) == 0 && (-1 : Int) == 1 && (items.toArray.size) == items.toArray.size) = true) := by
    intro q
    rw [Bool.and_eq_true, Bool.and_eq_true] at q
    exact absurd q.1.2 (by decide)
  show wpAny _ _ (if (((items.toArray.size : Int) - 1) == 0 && (-1 : Int) == 1 && (items.toArray.size) == items.toArray.size) = true then _ else _) _ _ s
  have hp : ((List.range items.toArray.size).filterMap fun (m : Nat) => items.toArray[((items.toArray.size : Int) - 1 + (m : Int) * -1).toNat]?).toArray = items.reverse.toArray := by
    have := pick_rev items items.length (Nat.le_refl _)
    rw [Nat.sub_self, List.drop_zero] at this
    rw [List.size_toArray, this]
  rw [if_neg hno, hp]
  first
    | exact wpAny_bind (m := Builtin.Tuple.tupleExact _) (wpAny_newObj_type (wpAny_pure ⟨_, rfl, wpAny_pure h⟩) htake)
    | exact wpAny_bind (m := Builtin.Tuple.tupleExact _) (wpAny_newObj_type (wpAny_bind (wpAny_pure (wpAny_pure ⟨_, rfl, wpAny_pure h⟩))) htake)
    | exact wpAny_bind (wpAny_bind (m := Builtin.Tuple.tupleExact _) (wpAny_newObj_type (wpAny_pure (wpAny_pure ⟨_, rfl, wpAny_pure h⟩)) htake))
    | exact wpAny_bind (wpAny_bind (m := Builtin.Tuple.tupleExact _) (wpAny_newObj_type (wpAny_pure ⟨_, rfl, wpAny_pure h⟩) htake))
end
end HT
namespace Fl
open PySem PySem.Spec PyProof.Rows L2
section
variable {X : Cx}
/-- x[::-1] of a list or a tuple -/
def tRevA (K : PySem.W.Frag) (te : TE) : TE := fun σ H Q => te σ H fun x H1 => ∃ a xs, x = .ref a ∧ ((SqL K H1 a xs ∧ ∀ p, H1 p = none → Q (.ref p) (upd H1 p (.lst xs.reverse))) ∨ (SqT K H1 a xs ∧ ∀ p, H1 p = none → Q (.ref p) (upd H1 p (.tup xs.reverse))))
theorem pe_revA {e : Expr} {te : TE} {k : Nat} {p1 p2 p3 pos : Pos} (he : PE X e te) : PE X (.Subscript e (.Slice none none (some (.UnaryOp .USub (.Constant (.int 1) k p1) p2)) p3) pos) (tRevA X.K te) := by
  refine ⟨fun pins s σ H Q I h => ?_⟩
  refine Subscript_ (thn (he.run pins s σ H _ I h) fun v s1 ⟨x, H1, I1, r1, q1⟩ => ?_)
  obtain ⟨a, xs, ex, hq⟩ := q1
  subst ex
  cases r1
  have hst : PO X (some (.UnaryOp .USub (.Constant (.int 1) k p1) p2)) (tPart (tUn (rU fun i => .int (-i)) (tC (.int 1)))) := po_some (pe_un un_neg pe_int)
  refine wpAny_Slice (thn (po_none.run pins s1 σ H1 (fun o H2 => o = none ∧ H2 = H1) I1 ⟨rfl, rfl⟩) fun vl s2 ⟨l, H2, I2, pl, el, e2⟩ => ?_)
  subst el e2
  refine thn (po_none.run pins s2 σ H2 (fun o H3 => o = none ∧ H3 = H2) I2 ⟨rfl, rfl⟩) fun vu s3 ⟨u, H3, I3, pu, eu, e3⟩ => ?_
  subst eu e3
  refine thn (hst.run pins s3 σ H3 (fun o H4 => o = some (-1) ∧ H4 = H3) I3 ⟨1, rfl, -1, rfl, rfl, rfl⟩) fun vs s4 ⟨o, H4, I4, ps, eo, e4⟩ => ?_
  subst eo e4
  have I5 : Inv X pins σ H4 { s4 with heap := s4.heap.push { cls := .type "slice", data := .fields #[vl, vu, vs] } } := I4.kept (t' := s4.toks) fun b ob q => Heap.get?_push_of_some _ q
  show wpAny (model X.prog X.w) X.A (subscriptTail e (.Slice none none (some (.UnaryOp .USub (.Constant (.int 1) k p1) p2)) p3) (.ref a) (.ref s4.heap.objs.size)) (EP X pins σ Q) X.xe { s4 with heap := s4.heap.push { cls := .type "slice", data := .fields #[vl, vu, vs] } }
  rcases hq with ⟨hx, q⟩ | ⟨hx, q⟩
  · obtain ⟨its, r, ht, hz⟩ := I5.list hx
    have hlen := r.length
    refine tail_any (ops := [.ref a, .ref s4.heap.objs.size]) ht.isList.typeIs (PySem.slot_list_getitem.lookup) ?_ (by with_unfolding_all rfl)
    refine wpAny_getItem_list_slice ht.isList (Heap.IsSliceOf.new _ vl vu vs) pl pu ps (by decide) ?_ (by rw [List.size_toArray]; omega)
    rw [PySem.W.krv_pick]
    refine ⟨.ref _, _, I5.laid (t' := s4.toks) (o := .lst xs.reverse) (fun b ob q => Heap.get?_push_of_some _ q) (Nat.le_refl _) ?_, rfl, q _ (I5.hok.fresh (Nat.le_refl _))⟩
    exact ⟨by rw [List.length_reverse]; exact hz, _, 0, r.reverse, Heap.get?_push_size _ rfl⟩
  · obtain ⟨its, r, ht, hz⟩ := I5.tuple hx
    have hlen := r.length
    refine tail_any (ops := [.ref a, .ref s4.heap.objs.size]) ht.typeIs (PyProof.Rows.slot_tuple_getitem.lookup) ?_ (by with_unfolding_all rfl)
    refine HT.getItem_tuple_rev ht (Heap.IsSliceOf.new _ vl vu vs) pl pu ps ?_ (by omega)
    refine ⟨.ref _, _, I5.laid (t' := s4.toks) (o := .tup xs.reverse) (fun b ob q => Heap.get?_push_of_some _ q) (Nat.le_refl _) ?_, rfl, q _ (I5.hok.fresh (Nat.le_refl _))⟩
    exact ⟨by rw [List.length_reverse]; exact hz, _, r.reverse, IsTup.new _ _⟩
/-- x[::-1] -/
def revP : O1 := fun _ x k => match x with
  | .v (.tup xs) => k (.tup xs.reverse)
  | .v (.lst xs) => k (.lst xs.reverse)
  | .b xs => k (.lst xs.reverse)
  | _ => False
theorem RL.rev {K : PySem.W.Frag} {H : Hp} {B C : Addr → Prop} : ∀ {xs : List PV} {vs : List V}, RL K H B C xs vs → RL K H B C xs.reverse vs.reverse
  | _, _, .nil => .nil
  | _, _, .cons (x := x) (v := v) (xs := xs) (vs := vs) h t => by
    rw [List.reverse_cons, List.reverse_cons]
    exact (RL.rev t).append (.cons h .nil)
theorem re_rev {e : Expr} {m : FE} {k : Nat} {p1 p2 p3 pos : Pos} (he : RE X e m) : RE X (.Subscript e (.Slice none none (some (.UnaryOp .USub (.Constant (.int 1) k p1) p2)) p3) pos) (e1 revP m) :=
  ⟨(pe_revA he.pe).imp fun σ H Q ⟨G, B, f, M, Q', rep, hm, k⟩ => ⟨G, B, f, M, _, rep, hm, fun x M1 v H1 q rep1 r1 c1 => by
    unfold revP at q
    split at q
    · rename_i xs
      have r2 : R X.K H1 B G.C (.tup xs) v := r1
      cases r2 with
      | @tup a vs _ hq hr => exact ⟨a, vs, rfl, .inr ⟨hq, fun p hp => k _ _ _ _ q (rep1.new hp) (new_tup rep1 hr.rev hp) (c1.trans (.new hp))⟩⟩
    · rename_i xs
      have r2 : R X.K H1 B G.C (.lst xs) v := r1
      cases r2 with
      | @lst a vs _ hq hr => exact ⟨a, vs, rfl, .inl ⟨hq.sq, fun p hp => k _ _ _ _ q (rep1.new hp) (new_lst rep1 hr.rev hp) (c1.trans (.new hp))⟩⟩
    · rename_i xs
      obtain ⟨a, vs, e, ha, hr⟩ := rv_b r1
      subst e
      exact ⟨a, vs, rfl, .inl ⟨.inl (.inl ha), fun p hp => k _ _ _ _ q (rep1.new hp) (new_lst rep1 hr.rev hp) (c1.trans (.new hp))⟩⟩
    · exact q.elim⟩⟩
end
end Fl

set_option maxHeartbeats 1000000
namespace FlR
open PySem PySem.Spec PyProof.Rows
section
variable {prog : Program} {w : World} {A : Around} {E : Value → Shared → Prop} {s : Shared}
variable {I : Addr} {fp wr : List Addr} {n : Nat} {P : Nat → Value → Prop} {St : Nat → Heap → Prop} {T : String}
/-- what list(..) asks of how long it will be -/
def HintOk (prog : Program) (w : World) (I : Addr) (St : Nat → Heap → Prop) : Prop :=
  ∀ (A : Around) (E : Value → Shared → Prop) (s : Shared) (Q : Bool → Shared → Prop), St 0 s.heap → (∀ b tk, s.toks ≤ tk → Q b { s with toks := tk }) → wpAny (model prog w) A (Builtin.List.listLengthHint (.ref I)) Q E s

theorem extend_it {R : Result → Shared → Prop} (W : Walks prog w A.in1 I fp wr n P St) (hT : ∀ (s : Shared), St 0 s.heap → s.TypeIs (.ref I) T) (h2 : (Value.type T == Value.type "list") = false) (h3 : (Value.type T == Value.type "tuple") = false) (hint : HintOk prog w I St)
    (S : Addr) (res : Value) (c₀ : Nat) (hst : St 0 s.heap) (hSf : S ∉ fp) (hI : I ∈ fp) (hS : s.heap.get? S = some { cls := .type "list", data := .seq #[] c₀ })
    (hR : ∀ h' tk acc' c', (∀ b o, b ∉ S :: wr → s.heap.get? b = some o → h'.get? b = some o) → h'.get? S = some { cls := .type "list", dict := none, data := .seq acc' c', slots := #[] } → ItemsOf P acc' n → R (.ok (.ret res)) { s with heap := h', toks := tk }) (hn : n ≤ sizeLine) :
    wpAny (model prog w) A.in1 (Builtin.List.listExtendWith (.ref S) (.ref I) res)
      (fun fin s' => match fin with | .done f => R (.ok f) s' | .again c' => c'.quiet = true ∧ codeAny (model prog w) A c' R s') (fun e s' => R (.error e) s') s := by
  have hSI : S ≠ I := fun h => hSf (h ▸ hI)
  have WS := W.toS
  have key : ∀ (h : Heap) (c₁ tk : Nat), s.toks ≤ tk → St 0 h → (∀ b o, b ≠ S → s.heap.get? b = some o → h.get? b = some o) →
      h.get? S = some { cls := .type "list", data := .seq #[] c₁ } → codeAny (model prog w) A (.builtin "list.extend.loop" ⟨[.ref S, .ref I, res], []⟩) R { s with heap := h, toks := tk } := by
    intro h c₁ tk _ hst' hk hS₁
    refine codeAny_extend_loopS WS hn S hSf res n 0 _ #[] c₁ rfl (Nat.zero_le _) hst' hS₁ (ItemsOf.nil _) fun s' acc' c' hm hS' hacc => ?_
    rw [Moved.eq_with hm]
    exact hR s'.heap s'.toks acc' c' (fun b o hb e => hm.heap b o hb (hk b o (fun h => hb (h ▸ List.mem_cons_self)) e)) hS' hacc
  unfold Builtin.List.listExtendWith
  refine wpAny_bind (wpAny_typeOf (hT s hst) ?_)
  have h1 : Builtin.List.listSameRef (.ref S) (.ref I) = false := by simp [Builtin.List.listSameRef, hSI]
  simp only [h1, h2, h3, Bool.or_false, Bool.false_eq_true, if_false]
  refine wpAny_bind (W.self 0 _ _ _ hst ?_)
  refine wpAny_bind (wpAny_holding (hint _ _ _ _ hst fun b tk htk => ?_))
  refine wpAny_ite_split (fun _ => ?_) (fun _ => wpAny_pure ⟨plainId_quiet F.plain_extend_loop _, key _ c₀ _ htk hst (fun b o _ e => e) hS⟩)
  refine wpAny_bind (wpAny_rule ?_)
  refine wpAny_bind ?_
  show wpAny _ _ (updateSeq S (·.push .none) >>= fun _ => updateSeq S (·.pop)) _ _ _
  refine wpAny_bind (wpAny_updateSeq hS rfl ?_)
  have hS₂ := Heap.get?_update_self (Obj.mapSeq (·.push Value.none)) hS rfl
  refine wpAny_updateSeq (hz := by seq_fits) hS₂ rfl ?_
  have hS₃ := Heap.get?_update_self (Obj.mapSeq (·.pop)) hS₂ rfl
  have oth : ∀ b o, b ≠ S → s.heap.get? b = some o → ((s.heap.update S (Obj.mapSeq (·.push Value.none))).update S (Obj.mapSeq (·.pop))).get? b = some o :=
    fun b o hb e => (Heap.get?_update_other _ _ (Ne.symm hb)).trans ((Heap.get?_update_other _ _ (Ne.symm hb)).trans e)
  refine wpAny_pure ⟨plainId_quiet F.plain_extend_loop _, key _ _ _ htk ?_ (fun b o hb e => oth b o hb e) hS₃⟩
  exact W.frame 0 _ _ hst fun b hb o e => oth b o (fun h => hSf (h ▸ hb)) e
theorem init_it {R : Result → Shared → Prop} (W : Walks prog w A.in1 I fp wr n P St) (hT : ∀ (s : Shared), St 0 s.heap → s.TypeIs (.ref I) T) (h2 : (Value.type T == Value.type "list") = false) (h3 : (Value.type T == Value.type "tuple") = false) (hint : HintOk prog w I St)
    (S : Addr) (hst : St 0 s.heap) (hSf : S ∉ fp) (hI : I ∈ fp) (hS : s.heap.get? S = some { cls := .type "list", data := .seq #[] })
    (hR : ∀ h' tk acc' c', (∀ b o, b ∉ S :: wr → s.heap.get? b = some o → h'.get? b = some o) → h'.get? S = some { cls := .type "list", dict := none, data := .seq acc' c', slots := #[] } → ItemsOf P acc' n → R (.ok (.ret .none)) { s with heap := h', toks := tk }) (hn : n ≤ sizeLine) :
    wpAny (model prog w) A.in1 (Builtin.«list.__init__» ⟨[.ref S, .ref I], []⟩)
      (fun fin s' => match fin with | .done f => R (.ok f) s' | .again c' => c'.quiet = true ∧ codeAny (model prog w) A c' R s') (fun e s' => R (.error e) s') s := by
  show wpAny _ _ (do let old ← Builtin.List.listItems (.ref S); Builtin.List.listUpdate (.ref S) (fun _ => #[]); letGo old.toList.reverse; Builtin.List.listExtendWith (.ref S) (.ref I) .none) _ _ s
  refine wpAny_bind ?_
  unfold Builtin.List.listItems
  refine wpAny_bind (wpAny_seqItems hS rfl (wpAny_pure ?_))
  show wpAny _ _ (updateSeq S (fun _ => #[]) >>= fun _ => letGo (#[] : Array Value).toList.reverse >>= fun _ => Builtin.List.listExtendWith (.ref S) (.ref I) .none) _ _ s
  refine wpAny_bind (wpAny_updateSeq hS rfl ?_)
  have hS₂ := Heap.get?_update_self (Obj.mapSeq (fun _ => (#[] : Array Value))) hS rfl
  have oth : ∀ b o, b ≠ S → s.heap.get? b = some o → (s.heap.update S (Obj.mapSeq (fun _ => (#[] : Array Value)))).get? b = some o :=
    fun b o hb e => (Heap.get?_update_other _ _ (Ne.symm hb)).trans e
  refine wpAny_bind (wpAny_letGo ?_)
  refine extend_it W hT h2 h3 hint S .none _ (W.frame 0 _ _ hst fun b hb o e => oth b o (fun h => hSf (h ▸ hb)) e) hSf hI hS₂ (fun h' tk acc' c' hk hS' hacc => ?_) hn
  exact hR h' tk acc' c' (fun b o hb e => hk b o hb (oth b o (fun h => hb (h ▸ List.mem_cons_self)) e)) hS' hacc
theorem call_list_it {Q : Value → Shared → Prop} (W : Walks prog w A.in1.in1 I fp wr n P St) (hT : ∀ (s : Shared), St 0 s.heap → s.TypeIs (.ref I) T) (h2 : (Value.type T == Value.type "list") = false) (h3 : (Value.type T == Value.type "tuple") = false) (hint : HintOk prog w I St)
    (hst : St 0 s.heap) (hfp : ∀ b ∈ fp, b < s.heap.objs.size) (hI : I ∈ fp)
    (hQ : ∀ h' tk acc' c', (∀ b o, b ∉ wr → s.heap.get? b = some o → h'.get? b = some o) →
      h'.get? s.heap.objs.size = some { cls := .type "list", dict := none, data := .seq acc' c', slots := #[] } → ItemsOf P acc' n → Q (.ref s.heap.objs.size) { s with heap := h', toks := tk }) (hn : n ≤ sizeLine) :
    wpAny (model prog w) A (call (.type "list") [.ref I]) Q E s := by
  have hSf : s.heap.objs.size ∉ fp := fun hm => Nat.lt_irrefl _ (hfp _ hm)
  refine callType_codes (Q₁ := fun obj s₁ => obj = .ref s.heap.objs.size ∧ s₁ = { s with heap := s.heap.push { cls := .type "list", data := .seq #[] } }) F.called_list (F.typeCall_list_1 _) F.entry_list_init
    (code_list_new _ ⟨rfl, rfl⟩) fun obj s₁ h₁ => ?_
  obtain ⟨rfl, rfl⟩ := h₁
  have hS : (s.heap.push { cls := .type "list", data := .seq #[] }).get? s.heap.objs.size = some { cls := .type "list", data := .seq #[] } := Heap.get?_push_size _ rfl
  refine ⟨⟨_, hS, rfl⟩, F.args_list_init_2 _ _, init_it (A := A.in1) W hT h2 h3 hint _ (W.frame 0 _ _ hst fun b _ o e => Heap.get?_push_of_some _ e) hSf hI hS (fun h' tk acc' c' hk hS' hacc => ?_) hn⟩
  refine ⟨rfl, hQ h' tk acc' c' (fun b o hb e => hk b o (fun hm => ?_) (Heap.get?_push_of_some _ e)) hS' hacc⟩
  rcases List.mem_cons.mp hm with e' | hm
  · exact absurd (Heap.lt_size e) (by rw [e']; exact Nat.lt_irrefl _)
  · exact hb hm

/-! ### reversed(list) -/
theorem hint_rev {l : Addr} {items : Array Value} : HintOk prog w I (fun i h => i ≤ items.size ∧ h.IsRevIter I l ((items.size : Int) - 1 - (i : Int)) ∧ h.IsList l items) := fun A E s Q hst hQ => by
  have hT : s.TypeIs (.ref I) "list_reverseiterator" := Heap.IsRevIter.typeIs hst.2.1
  unfold Builtin.List.listLengthHint
  refine wpAny_bind (wpAny_specialOf hT RT.nolen_lri ?_)
  show wpAny _ A (specialOf (Value.ref I) (Str.ofString "__length_hint__") >>= _) _ _ _
  refine wpAny_bind (wpAny_specialOf hT RT.hint_lri ?_)
  generalize hid : ("list_reverseiterator.__length_hint__" : String) = id0
  wp_delta
  rw [show splitId id0 = some ("list_reverseiterator", "__length_hint__") from by subst hid; decide +kernel]
  subst hid
  refine wpAny_bind (wpAny_isInstance (b := true) hT (by rw [isSubtype_type]; kernel_rfl) ?_)
  exact wpAny_pure (hQ _ _ (Nat.le_refl _))

/-! ### reversed(tuple) -/
theorem walks_rt (hh : A.handled = none) (I t : Addr) (hne : t ≠ I) (items : Array Value) (hn : items.size ≤ sizeLine) :
    Walks prog w A I [I, t] [I] items.size (fun i v => items[items.size - 1 - i]? = some v) (fun i h => i ≤ items.size ∧ RT.IsRt h I t ((items.size : Int) - 1 - (i : Int)) ∧ IsTup h t items) where
  sub := fun b hb => by simp at hb; simp [hb]
  frame := fun _ _ _ x hk => ⟨x.1, x.2.1.at fun o e => hk I (by simp) o e, let ⟨o, ho, r⟩ := x.2.2; ⟨o, hk t (by simp) o ho, r⟩⟩
  item := fun i s Q E hi x hQ => by
    have e : (items.size : Int) - 1 - (i : Int) = ((items.size - 1 - i : Nat) : Int) := by omega
    have hit := x.2.1
    rw [e] at hit
    have hx : items[items.size - 1 - i]? = some (items[items.size - 1 - i]'(by omega)) := Array.getElem?_eq_getElem (by omega)
    refine RT.next_rt_item hit x.2.2 hx hn fun h' hit' hs' => ?_
    have e2 : ((items.size - 1 - i : Nat) : Int) - 1 = (items.size : Int) - 1 - ((i + 1 : Nat) : Int) := by omega
    rw [e2] at hit'
    exact hQ _ h' (s.toks + 1) hx ⟨hi, hit', let ⟨o, ho, r⟩ := x.2.2; ⟨o, (hs'.2 t hne).trans ho, r⟩⟩ fun b o hb eo => hs'.extBut b o (fun h => hb (by simp [h])) eo
  done := fun s Q E x hQ => by
    have e : (items.size : Int) - 1 - (items.size : Int) = -1 := by omega
    have hit := x.2.1
    rw [e] at hit
    exact RT.next_rt_end hh hit fun h' hk => hQ h' s.toks fun b o hb eo => hk b o (fun h => hb (by simp [h])) eo
  self := fun i s Q E x hQ => RT.iter_rt x.2.1 hQ
end
end FlR

set_option maxHeartbeats 1000000
namespace FlR
open PySem PySem.Spec PyProof.Rows
theorem nolen_rt : typeLookup (.type "reversed") "__len__" = pure none := by rw [typeLookup_type, builtinLookup_eq_fast]; kernel_rfl
theorem slot_rt_hint : Slot "reversed" "__length_hint__" "reversed.__length_hint__" :=
  .of (owner := "reversed") (n := "__length_hint__") (by rw [typeLookup_type, builtinLookup_eq_fast]; kernel_rfl) (by decide +kernel) (by decide +kernel) (by decide +kernel)
    (by first | exact .inl (by decide +kernel) | exact .inr (by decide +kernel)) (by rw [isSubtype_type]; kernel_rfl)
theorem entry_rt_hint : entryFor table "reversed.__length_hint__" = some Builtin.«reversed.__length_hint__» := entryFor_of_tree (by kernel_rfl)
theorem args_rt_hint (a : Value) : argsOk "reversed.__length_hint__" ⟨[a], []⟩ := by
  unfold argsOk; rw [signature?_of (id := "reversed.__length_hint__") (n := ['_', '_', 't', 'n', 'i', 'h', '_', 'h', 't', 'g', 'n', 'e', 'l', '_', '_']) (o := ['d', 'e', 's', 'r', 'e', 'v', 'e', 'r']) (by kernel_rfl) RT.owner_rt]; kernel_rfl
section
variable {prog : Program} {w : World} {A : Around} {E : Value → Shared → Prop} {s : Shared} {I : Addr}
theorem call_rt_hint {t : Addr} {items : Array Value} {i : Nat} {Q : Value → Shared → Prop} (hit : RT.IsRt s.heap I t ((items.size : Int) - 1 - (i : Int))) (ht : IsTup s.heap t items) (hi : i ≤ items.size) (hn : items.size ≤ sizeLine)
    (hQ : ∀ (m : Nat) u tk, m ≤ sizeLine → s.toks ≤ tk → Q (.int (m : Int) u) { s with toks := tk }) : wpAny (model prog w) A (call (.builtin "reversed.__length_hint__") [.ref I]) Q E s := by
  obtain ⟨o, ho, hc, hd⟩ := id hit
  refine wpAny_call_entry slot_rt_hint hit.typeIs entry_rt_hint ?_ (args_rt_hint _)
  unfold Builtin.«reversed.__length_hint__»
  refine wpAny_bind (wpAny_of_eq (a := Value.ref I) rfl ?_)
  try dsimp only
  refine wpAny_bind (wpAny_field ho hd (x := .ref t) rfl ?_)
  try dsimp only
  first
  | rw [if_neg (show ¬ ((Value.ref t == Value.none) = true) from Bool.false_ne_true)]
  | (show wpAny _ _ (if (Value.ref t == Value.none) = true then _ else _) _ _ _; rw [if_neg (show ¬ ((Value.ref t == Value.none) = true) from Bool.false_ne_true)])
  try dsimp only
  have hl : (items.size : Int) < 2 ^ 63 := by have := L2.line63; omega
  refine wpAny_bind (len_tuple ht hl ?_)
  try dsimp only
  refine wpAny_bind (wpAny_of_eq (a := some ((items.size : Nat) : Int)) rfl ?_)
  try dsimp only
  refine wpAny_bind (wpAny_field (s := { s with toks := s.toks + 1 + 1 }) ho hd (x := rawInt ((items.size : Int) - 1 - (i : Int))) rfl ?_)
  show wpAny _ _ (if (items.size : Int) < (items.size : Int) - 1 - (i : Int) + 1 then _ else _) _ _ _
  rw [if_neg (by omega)]
  rw [show (items.size : Int) - 1 - (i : Int) + 1 = ((items.size - i : Nat) : Int) by omega]
  exact wpAny_bind (wpAny_mkInt (wpAny_pure ⟨_, rfl, hQ _ _ _ (by omega) (by show s.toks ≤ s.toks + 1 + 1 + 1; omega)⟩))
theorem hint_rt {t : Addr} {items : Array Value} (hn : items.size ≤ sizeLine) : HintOk prog w I (fun i h => i ≤ items.size ∧ RT.IsRt h I t ((items.size : Int) - 1 - (i : Int)) ∧ IsTup h t items) := fun A E s Q hst hQ => by
  have hT : s.TypeIs (.ref I) "reversed" := RT.IsRt.typeIs hst.2.1
  unfold Builtin.List.listLengthHint
  refine wpAny_bind (wpAny_specialOf hT nolen_rt ?_)
  show wpAny _ A (specialOf (Value.ref I) (Str.ofString "__length_hint__") >>= _) _ _ _
  refine wpAny_bind (wpAny_specialOf hT slot_rt_hint.lookup ?_)
  generalize hid : ("reversed.__length_hint__" : String) = id0
  wp_delta
  rw [show splitId id0 = some ("reversed", "__length_hint__") from by subst hid; decide +kernel]
  subst hid
  refine wpAny_bind (wpAny_isInstance (b := true) hT (by rw [isSubtype_type]; kernel_rfl) ?_)
  refine wpAny_ite_split (fun hab => absurd hab (by decide)) (fun _ => ?_)
  refine wpAny_ite_split (fun hab => absurd hab (by decide +kernel)) (fun _ => ?_)
  refine wpAny_bind (wpAny_rule ?_)
  refine wpAny_bind (wpAny_of_eq (slot_rt_hint.bind _) ?_)
  try dsimp only
  refine wpAny_bind (wpAny_attempt (call_rt_hint hst.2.1 hst.2.2 hst.1 hn fun m u tk hm htk => ?_))
  try dsimp only
  have ea : ∀ (z : Int), asInt? (Value.int z u) = pure (some z) := fun z => rfl
  refine wpAny_bind ?_
  rw [ea]
  refine wpAny_pure ?_
  try dsimp only
  have h0 : (!Builtin.List.listFitsIndex (m : Int)) = false := by
    have := L2.line63
    have q : (m : Int) < 2 ^ 63 := by omega
    have q2 : -(2 ^ 63) ≤ (m : Int) := by omega
    unfold Builtin.List.listFitsIndex
    rw [decide_eq_true q, decide_eq_true q2]
    rfl
  have h1 : Builtin.List.listTooLong (m : Int).toNat = false := by
    unfold Builtin.List.listTooLong
    rw [Int.toNat_natCast]
    exact decide_eq_false (by omega)
  have h2 : ¬ ((m : Int) < 0) := by omega
  simp only [h0, h1, h2, Bool.false_eq_true, if_false]
  exact wpAny_pure (hQ _ _ htk)
end
end FlR

namespace Fl
open PySem PySem.Spec PyProof.Rows L2
section
variable {X : Cx}
/-- list(reversed(e)), e a list or a tuple -/
def tLstRev (K : PySem.W.Frag) (te : TE) : TE := fun σ H Q => te σ H fun v H1 => ∃ (a : Addr) (xs : List V), v = .ref a ∧ (SqL K H1 a xs ∨ SqT K H1 a xs) ∧ ∀ q, H1 q = none → Q (.ref q) (upd H1 q (.lst xs.reverse))
theorem pe_lstRev {e : Expr} {te : TE} {p p2 pos pos2 : Pos} (hc : X.calm = true) (hg : Gl X "list") (hm : X.mg "list" = none) (hg2 : Gl X "reversed") (hm2 : X.mg "reversed" = none) (he : PE X e te)
    (hs : starEach [e] X.env = (false, eval e X.env) :: starEach [] X.env := by rfl)
    (hs2 : starEach [.Call (.Name "reversed" p2) [e] [] pos2] X.env = (false, eval (.Call (.Name "reversed" p2) [e] [] pos2) X.env) :: starEach [] X.env := by rfl) :
    PE X (.Call (.Name "list" p) [.Call (.Name "reversed" p2) [e] [] pos2] [] pos) (tLstRev X.K te) := by
  refine ⟨fun pins s σ H Q I h => ?_⟩
  refine Call_ (ld_blt I hg hm boot_list (PyProof.Rows.callWith_type1 (args_cons (Call_ (ld_blt I hg2 hm2 PyProof.Rows.boot_reversed (PyProof.Rows.callWith_type1 (args_cons (thn (he.run pins s σ H _ I h) fun u s1 ⟨v, H1, I1, r1, q1⟩ => args_nil ?_) hs) hs rfl))) hs2) hs2 rfl))
  obtain ⟨a, xs, ev, hq, q⟩ := q1
  subst ev
  obtain rfl : u = Value.ref a := r1
  have hh := I1.ok.hd hc
  rcases hq with hq | hq
  · obtain ⟨its, rv, p', hz⟩ := I1.list hq
    have hl := p'.isList
    obtain ⟨ol, hol, _⟩ := id hl
    have hne : a ≠ s1.heap.objs.size := Nat.ne_of_lt (Heap.lt_size hol)
    have hn : its.toArray.size ≤ sizeLine := by rw [List.size_toArray, ← rv.length]; exact hz
    refine call_reversed_list hl (args_nil ?_)
    have st : (fun (i : Nat) (h : Heap) => i ≤ its.toArray.size ∧ h.IsRevIter s1.heap.objs.size a ((its.toArray.size : Int) - 1 - (i : Int)) ∧ h.IsList a its.toArray) 0 (s1.heap.push (revObj a ((its.toArray.size : Int) - 1))) :=
      ⟨Nat.zero_le _, ⟨_, Heap.get?_push_size _ rfl, rfl, by show Data.fields #[.ref a, rawInt ((its.toArray.size : Int) - 1)] = _; rw [show (its.toArray.size : Int) - 1 - ((0 : Nat) : Int) = (its.toArray.size : Int) - 1 by omega]⟩, hl.push _⟩
    refine FlR.call_list_it (s := { s1 with heap := s1.heap.push (revObj a ((its.toArray.size : Int) - 1)) }) (Walks.listRev (A := X.A.in1.in1) hh s1.heap.objs.size a hne its.toArray) (T := "list_reverseiterator") (fun s' hst => Heap.IsRevIter.typeIs hst.2.1) (by decide) (by decide) FlR.hint_rev st
      (fun b hb => ?_) (by simp) (fun h' tk acc c' hk e' hi => ?_) hn
    · show b < (s1.heap.push _).objs.size
      rw [Heap.size_push]
      have hb' : b = s1.heap.objs.size ∨ b = a := by simpa using hb
      rcases hb' with z | z
      · rw [z]; exact Nat.lt_succ_self _
      · rw [z]; exact Nat.lt_succ_of_lt (Heap.lt_size hol)
    have e2 : (s1.heap.push (revObj a ((its.toArray.size : Int) - 1))).objs.size = s1.heap.objs.size + 1 := Heap.size_push ..
    refine ⟨.ref (s1.heap.push (revObj a ((its.toArray.size : Int) - 1))).objs.size, upd H1 (s1.heap.push (revObj a ((its.toArray.size : Int) - 1))).objs.size (.lst xs.reverse), I1.laid (t' := tk) (fun b o eb => hk b o (fun hb => ?_) (Heap.get?_push_of_some _ eb)) (by rw [e2]; omega) (show ObjOk X.prog X.w _ _ _ (.lst xs.reverse) from ⟨by rw [List.length_reverse]; exact hz, acc.toList, c', RT.vals_rev rv hi, ?_⟩), rfl, q _ (I1.hok.fresh (by rw [e2]; omega))⟩
    · have : b = s1.heap.objs.size := by simpa using hb
      exact absurd (Heap.lt_size eb) (by rw [this]; exact Nat.lt_irrefl _)
    · rw [Array.toArray_toList]; exact e'
  · obtain ⟨its, rv, p', hz⟩ := I1.tuple hq
    obtain ⟨ol, hol, _⟩ := id p'
    have hne : a ≠ s1.heap.objs.size := Nat.ne_of_lt (Heap.lt_size hol)
    have hn : its.toArray.size ≤ sizeLine := by rw [List.size_toArray, ← rv.length]; exact hz
    have h63 := line63
    refine RT.call_reversed_tup p' (fun A E Q k => len_tuple p' (by omega) k) (args_nil ?_)
    have st : (fun (i : Nat) (h : Heap) => i ≤ its.toArray.size ∧ RT.IsRt h s1.heap.objs.size a ((its.toArray.size : Int) - 1 - (i : Int)) ∧ IsTup h a its.toArray) 0 (s1.heap.push (RT.rtObj a ((its.toArray.size : Int) - 1))) :=
      ⟨Nat.zero_le _, ⟨_, Heap.get?_push_size _ rfl, rfl, by show Data.fields #[.ref a, rawInt ((its.toArray.size : Int) - 1)] = _; rw [show (its.toArray.size : Int) - 1 - ((0 : Nat) : Int) = (its.toArray.size : Int) - 1 by omega]⟩, let ⟨o, ho, r⟩ := p'; ⟨o, Heap.get?_push_of_some _ ho, r⟩⟩
    refine FlR.call_list_it (s := { s1 with heap := s1.heap.push (RT.rtObj a ((its.toArray.size : Int) - 1)), toks := s1.toks + 1 + 1 }) (FlR.walks_rt (A := X.A.in1.in1) hh s1.heap.objs.size a hne its.toArray hn) (T := "reversed") (fun s' hst => RT.IsRt.typeIs hst.2.1) (by decide) (by decide) (FlR.hint_rt hn) st
      (fun b hb => ?_) (by simp) (fun h' tk acc c' hk e' hi => ?_) hn
    · show b < (s1.heap.push _).objs.size
      rw [Heap.size_push]
      have hb' : b = s1.heap.objs.size ∨ b = a := by simpa using hb
      rcases hb' with z | z
      · rw [z]; exact Nat.lt_succ_self _
      · rw [z]; exact Nat.lt_succ_of_lt (Heap.lt_size hol)
    have e2 : (s1.heap.push (RT.rtObj a ((its.toArray.size : Int) - 1))).objs.size = s1.heap.objs.size + 1 := Heap.size_push ..
    refine ⟨.ref (s1.heap.push (RT.rtObj a ((its.toArray.size : Int) - 1))).objs.size, upd H1 (s1.heap.push (RT.rtObj a ((its.toArray.size : Int) - 1))).objs.size (.lst xs.reverse), I1.laid (t' := tk) (fun b o eb => hk b o (fun hb => ?_) (Heap.get?_push_of_some _ eb)) (by rw [e2]; omega) (show ObjOk X.prog X.w _ _ _ (.lst xs.reverse) from ⟨by rw [List.length_reverse]; exact hz, acc.toList, c', RT.vals_rev rv hi, ?_⟩), rfl, q _ (I1.hok.fresh (by rw [e2]; omega))⟩
    · have : b = s1.heap.objs.size := by simpa using hb
      exact absurd (Heap.lt_size eb) (by rw [this]; exact Nat.lt_irrefl _)
    · rw [Array.toArray_toList]; exact e'
def fLstRev (m : FE) : FF := fun f M Q => m f M fun x M1 => match seqP x with
  | some ys => Q ys.reverse M1
  | none => False
theorem rf_listRev {e : Expr} {m : FE} {p p2 pos pos2 : Pos} (hc : X.calm = true) (hg : Gl X "list") (hm : X.mg "list" = none) (hg2 : Gl X "reversed") (hm2 : X.mg "reversed" = none) (he : RE X e m)
    (hs : starEach [e] X.env = (false, eval e X.env) :: starEach [] X.env := by rfl)
    (hs2 : starEach [.Call (.Name "reversed" p2) [e] [] pos2] X.env = (false, eval (.Call (.Name "reversed" p2) [e] [] pos2) X.env) :: starEach [] X.env := by rfl) :
    RF X (.Call (.Name "list" p) [.Call (.Name "reversed" p2) [e] [] pos2] [] pos) (fLstRev m) := ⟨(pe_lstRev hc hg hm hg2 hm2 he.pe hs hs2).imp fun σ H Q ⟨G, B, f, M, Q', rep, hm, k⟩ => ⟨G, B, f, M, _, rep, hm, fun x M1 v H1 q rep1 r1 c1 => by
  split at q
  · rename_i ys hy
    obtain ⟨a, ws, e, hs, hr⟩ := rv_seq r1 hy
    exact ⟨a, ws, e, hs, fun p hp => k _ _ _ _ _ q (rep1.newL hp) upd_same (hr.rev.evo rep1.mu (evo_new hp)) (rep1.nb hp) (rep1.fresh0 hp) (c1.trans (.new hp))⟩
  · exact q.elim⟩⟩
end
end Fl

set_option maxHeartbeats 1000000
namespace FlR
open PySem PySem.Spec PyProof.Rows
open Sem (wp)
section
variable {prog : Program} {w : World} {A : Around} {E : Value → Shared → Prop} {s : Shared} {I : Addr}
theorem nextOf_rt_item {it t : Addr} {i : Nat} {items : Array Value} {x : Value} {Q : Value → Shared → Prop} (hit : RT.IsRt s.heap it t (i : Int)) (ht : IsTup s.heap t items) (hx : items[i]? = some x) (hsz : items.size ≤ sizeLine)
    (hQ : ∀ h', RT.IsRt h' it t ((i : Int) - 1) → Heap.SameBut it s.heap h' → Q x { s with heap := h', toks := s.toks + 1 }) : wpAny (model prog w) A (Builtin.SmallTypes.nextOf (.ref it)) Q E s := by
  obtain ⟨o, ho, hc, hd⟩ := id hit
  have hi : i < items.size := (Array.getElem?_eq_some_iff.mp hx).1
  have hT : s.TypeIs (.ref t) "tuple" := RT.IsTup.typeOf' ht
  rw [sizeLine_eq] at hsz
  unfold Builtin.SmallTypes.nextOf
  refine wpAny_bind (wpAny_callSpecial?_slot (name := Str.ofString "__next__") hit.typeIs RT.slot_rt_next
    (wpAny_call_entry RT.slot_rt_next hit.typeIs RT.entry_rt_next ?_ (RT.args_rt_next _)))
  unfold Builtin.«reversed.__next__»
  refine wpAny_bind (wpAny_of_eq (a := (Value.ref it, [])) rfl ?_)
  try dsimp only
  refine wpAny_bind (wpAny_field ho hd (x := .ref t) rfl ?_)
  try dsimp only
  refine wpAny_bind (wpAny_field ho hd (x := rawInt (i : Int)) rfl ?_)
  show wpAny _ _ (if (i : Int) < 0 then _ else _) _ _ s
  rw [if_neg (by omega)]
  try dsimp only
  refine wpAny_bind (wpAny_specialOf hT RT.get_tuple ?_)
  try dsimp only
  try rw [if_neg (by decide)]
  try dsimp only
  refine wpAny_bind (wpAny_mkInt ?_)
  refine wpAny_bind (wpAny_attempt ?_)
  have fin : seqIndex? (i : Int) items.size = some i := seqIndex_of (by omega) (by omega)
  refine PyProof.Rows.getItem_tuple (s := { s with toks := s.toks + 1 }) ht (by omega) (by omega) fin hx ?_
  try dsimp only
  refine wpAny_bind (wpAny_field (s := { s with toks := s.toks + 1 }) ho hd (x := rawInt (i : Int)) rfl ?_)
  try dsimp only
  refine wpAny_bind (wpAny_setField (s := { s with toks := s.toks + 1 }) ho hd (by simp) ?_)
  first
  | refine wpAny_pure ⟨x, rfl, wpAny_pure (hQ _ ?_ (Heap.SameBut.update ..))⟩
  | refine wpAny_bind (wpAny_pure (wpAny_pure ⟨x, rfl, wpAny_pure (hQ _ ?_ (Heap.SameBut.update ..))⟩))
  exact ⟨_, Heap.get?_update_self _ ho (Obj.isFreed_of_fields (Obj.data_mapFields hd _)), (Obj.cls_mapFields ..).trans hc, by
    rw [Obj.data_mapFields hd]; simp⟩
theorem nextOf_rt_end {it t : Addr} {Q : Value → Shared → Prop} (hh : A.handled = none) (hit : RT.IsRt s.heap it t (-1))
    (hE : ∀ h' e, Heap.ExtBut it s.heap h' → (∃ o, h'.get? e = some o ∧ o.cls = .type "StopIteration") → E (.ref e) { s with heap := h' }) : wpAny (model prog w) A (Builtin.SmallTypes.nextOf (.ref it)) Q E s := by
  obtain ⟨o, ho, hc, hd⟩ := id hit
  unfold Builtin.SmallTypes.nextOf
  refine wpAny_bind (wpAny_callSpecial?_slot (name := Str.ofString "__next__") hit.typeIs RT.slot_rt_next
    (wpAny_call_entry RT.slot_rt_next hit.typeIs RT.entry_rt_next ?_ (RT.args_rt_next _)))
  unfold Builtin.«reversed.__next__»
  refine wpAny_bind (wpAny_of_eq (a := (Value.ref it, [])) rfl ?_)
  try dsimp only
  refine wpAny_bind (wpAny_field ho hd (x := .ref t) rfl ?_)
  try dsimp only
  refine wpAny_bind (wpAny_field ho hd (x := rawInt (-1)) rfl ?_)
  show wpAny _ _ (if (-1 : Int) < 0 then _ else _) _ _ s
  rw [if_pos (by decide)]
  try dsimp only
  refine wpAny_bind (wpAny_rule ?_)
  refine wpAny_bind ?_
  wp_delta
  refine wpAny_bind (wpAny_setField ho hd (by simp) ?_)
  have ho2 := Heap.get?_update_self (Obj.mapFields (·.setIfInBounds 1 (rawInt (-1)))) ho (Obj.isFreed_of_fields (Obj.data_mapFields hd _))
  refine wpAny_setField (s := { s with heap := s.heap.update it (Obj.mapFields (·.setIfInBounds 1 (rawInt (-1)))) }) ho2 (Obj.data_mapFields hd _) (by simp) ?_
  try dsimp only
  first
  | show wpAny _ _ (newExc (.type "StopIteration") [] >>= _) _ _ _
  | (refine wpAny_bind ?_; show wpAny _ _ (newExc (.type "StopIteration") [] >>= _) _ _ _)
  | (refine wpAny_bind ?_; wp_delta; show wpAny _ _ (newExc (.type "StopIteration") [] >>= _) _ _ _)
  refine wpAny_bind ?_
  simp only [newExc, newTuple]
  refine wpAny_bind (wpAny_newObj_type ?_ (by size_fits))
  refine wpAny_bind (m := firstArgMember _ _) (wpAny_of_eq (a := Value.none) (by first | rfl | (simp only [firstArgMember]; rfl)) ?_)
  refine wpAny_newObj_type ?_ (by size_fits)
  simp only [raiseNew]
  refine wpAny_bind (wpAny_handled ?_)
  first | rw [show A.in1.handled = none from hh] | rw [hh]
  refine wpAny_bind (wpAny_pure (wpAny_throw ?_))
  refine hE _ _ ?_ ⟨_, Heap.get?_push_size _ rfl, rfl⟩
  refine ((?_ : Heap.ExtBut it s.heap _).push _).push _
  exact fun b ob hb e => (Heap.get?_update_other _ _ (Ne.symm hb)).trans ((Heap.get?_update_other _ _ (Ne.symm hb)).trans e)
theorem draws_rt (hh : A.handled = none) (it t : Addr) (hne : t ≠ it) (items : Array Value) (hn : items.size ≤ sizeLine) :
    Draws prog w A it [it, t] items.size (fun i v => items[items.size - 1 - i]? = some v) (fun i h => i ≤ items.size ∧ RT.IsRt h it t ((items.size : Int) - 1 - (i : Int)) ∧ IsTup h t items) where
  live := fun _ _ st => let ⟨o, ho, _⟩ := st.2.1; ⟨o, ho⟩
  frame := fun _ _ _ st hk => ⟨st.1, st.2.1.at fun o e => hk it (by simp) o e, let ⟨o, ho, r⟩ := st.2.2; ⟨o, hk t (by simp) o ho, r⟩⟩
  item := fun i s Q E hi x hQ => by
    have e : (items.size : Int) - 1 - (i : Int) = ((items.size - 1 - i : Nat) : Int) := by omega
    have hit := x.2.1
    rw [e] at hit
    have hx : items[items.size - 1 - i]? = some (items[items.size - 1 - i]'(by omega)) := Array.getElem?_eq_getElem (by omega)
    refine nextOf_rt_item hit x.2.2 hx hn fun h' hit' hs' => ?_
    have e2 : ((items.size - 1 - i : Nat) : Int) - 1 = (items.size : Int) - 1 - ((i + 1 : Nat) : Int) := by omega
    rw [e2] at hit'
    exact hQ _ h' (s.toks + 1) hx ⟨hi, hit', let ⟨o, ho, r⟩ := x.2.2; ⟨o, (hs'.2 t hne).trans ho, r⟩⟩ hs'
  done := fun s Q E x hE => by
    have e : (items.size : Int) - 1 - (items.size : Int) = -1 := by omega
    have hit := x.2.1
    rw [e] at hit
    exact nextOf_rt_end hh hit hE
/-- zip of two iterators that stand -/
abbrev grT (h : Heap) (i1 i2 : Addr) : Heap := h.push { cls := .type "tuple", data := .seq #[.ref i1, .ref i2] }
abbrev grO (h : Heap) (i1 i2 : Addr) : Heap := (grT h i1 i2).push { cls := .type "tuple", data := .seq #[.none, .none] }
abbrev grZ (h : Heap) (i1 i2 : Addr) : Heap := (grO h i1 i2).push { cls := .type "zip", data := .fields #[.none, .bool false, .bool false, .ref h.objs.size, .ref (grT h i1 i2).objs.size] }
theorem meets_zip_its (i1 i2 : Addr) : Meets (Builtin.«zip.__new__» ⟨[.type "zip", .ref i1, .ref i2], []⟩) (fun _ R s =>
      ((∀ (prog : Program) (w : World) (A : Around) (E : Value → Shared → Prop) (Q : Value → Shared → Prop), Q (.ref i1) s → wpAny (model prog w) A (pyIter (.ref i1)) Q E s) ∧
       (∀ (prog : Program) (w : World) (A : Around) (E : Value → Shared → Prop) (Q : Value → Shared → Prop), Q (.ref i2) s → wpAny (model prog w) A (pyIter (.ref i2)) Q E s)) ∧
      R (.ok (.ret (.ref (grO s.heap i1 i2).objs.size))) { s with heap := grZ s.heap i1 i2 }) :=
  .of_wp fun prog w A R s h => by
    obtain ⟨hp, g, d, tk, os⟩ := s; obtain ⟨⟨h1, h2⟩, h⟩ := h
    have hsub := sub_zip
    have q1 := fun {A' : Around} {E : Value → Shared → Prop} {Q : Value → Shared → Prop} => h1 prog w A' E Q
    have q2 := fun {A' : Around} {E : Value → Shared → Prop} {Q : Value → Shared → Prop} => h2 prog w A' E Q
    wp_walk using q1, q2
    exact ⟨_, rfl, h⟩
theorem call_zip_its {i1 i2 : Addr} {Q : Value → Shared → Prop}
    (h1 : ∀ (prog : Program) (w : World) (A : Around) (E : Value → Shared → Prop) (Q : Value → Shared → Prop), Q (.ref i1) s → wpAny (model prog w) A (pyIter (.ref i1)) Q E s)
    (h2 : ∀ (prog : Program) (w : World) (A : Around) (E : Value → Shared → Prop) (Q : Value → Shared → Prop), Q (.ref i2) s → wpAny (model prog w) A (pyIter (.ref i2)) Q E s)
    (h : ∀ h', IsZip h' (s.heap.objs.size + 2) s.heap.objs.size (s.heap.objs.size + 1) .none → IsTupOf2 h' s.heap.objs.size (.ref i1) (.ref i2) → IsTupOf2 h' (s.heap.objs.size + 1) .none .none → h'.objs.size = s.heap.objs.size + 3 →
      (∀ c o, s.heap.get? c = some o → h'.get? c = some o) → Q (.ref (s.heap.objs.size + 2)) { s with heap := h' }) :
    wpAny (model prog w) A (call (.type "zip") [.ref i1, .ref i2]) Q E s := by
  refine callType_new F.called_zip (by decide) (F.typeCall_zip_2 _ _) (F.newCall_zip_2 _ _) (fun obj => F.args_object_init_3 obj _ _) F.entry_zip_new
    (meets_zip_its i1 i2) ⟨⟨h1, h2⟩, ?_⟩
  have zT : (grT s.heap i1 i2).objs.size = s.heap.objs.size + 1 := by rw [Heap.size_push]
  have zO : (grO s.heap i1 i2).objs.size = s.heap.objs.size + 2 := by rw [Heap.size_push, zT]
  have zZ : (grZ s.heap i1 i2).objs.size = s.heap.objs.size + 3 := by rw [Heap.size_push, zO]
  have gZ : (grZ s.heap i1 i2).get? (grO s.heap i1 i2).objs.size = some { cls := .type "zip", data := .fields #[.none, .bool false, .bool false, .ref s.heap.objs.size, .ref (grT s.heap i1 i2).objs.size] } := Heap.get?_push_size _ rfl
  have gO : (grZ s.heap i1 i2).get? (grT s.heap i1 i2).objs.size = some { cls := .type "tuple", data := .seq #[.none, .none] } := Heap.get?_push_of_some _ (Heap.get?_push_size _ rfl)
  have gT : (grZ s.heap i1 i2).get? s.heap.objs.size = some { cls := .type "tuple", data := .seq #[.ref i1, .ref i2] } := Heap.get?_push_of_some _ (Heap.get?_push_of_some _ (Heap.get?_push_size _ rfl))
  rw [zO, zT] at gZ
  rw [zT] at gO
  show _ ∧ _
  rw [zO]
  exact ⟨⟨_, gZ, rfl⟩, h _ gZ gT gO zZ fun c o e => Heap.get?_push_of_some _ (Heap.get?_push_of_some _ (Heap.get?_push_of_some _ e))⟩
end
end FlR

set_option maxHeartbeats 1000000
namespace Fl
open PySem PySem.Spec PyProof.Rows L2
/-- zip(reversed(t), reversed(u)), the tuples at a and b as they stand at each turn -/
def ItzR (K : PySem.W.Frag) (a b : Addr) (na nb : Nat) : It :=
  ⟨fun i H => i < na ∧ i < nb ∧ ∃ (xs ys : List V) (x y : V), xs.length = na ∧ ys.length = nb ∧ SqT K H a xs ∧ SqT K H b ys ∧ xs[na - 1 - i]? = some x ∧ ys[nb - 1 - i]? = some y,
    fun i H v H' => ∃ T x y, v = .ref T ∧ H T = none ∧ H' = upd H T (.tup [x, y]) ∧ (∀ xs, SqT K H a xs → xs[na - 1 - i]? = some x) ∧ ∀ ys, SqT K H b ys → ys[nb - 1 - i]? = some y,
    fun i H => (na ≤ i ∨ nb ≤ i) ∧ ∃ (xs ys : List V), xs.length = na ∧ ys.length = nb ∧ SqT K H a xs ∧ SqT K H b ys⟩
theorem turn_zipR {P : Program} {w : World} {K : PySem.W.Frag} {elts : List Expr} {kk : Nat} {tpos : Pos} {a b z TI TO i1 i2 : Addr} {na nb : Nat} (S : ZipSep2 z TI TO i1 i2 [i1, a] [i2, b]) (n1 : a ≠ i1) (n2 : b ≠ i2) :
    Turn P w K (.Tuple elts kk tpos) (ItzR K a b na nb) [z, TI, TO, i1, i2] z (fun i h => (i ≤ na ∧ i ≤ nb) ∧ IsZip h z TI TO .none ∧ IsTupOf2 h TI (.ref i1) (.ref i2) ∧ (∃ x y, IsTupOf2 h TO x y) ∧ RT.IsRt h i1 a ((na : Int) - 1 - (i : Int)) ∧ RT.IsRt h i2 b ((nb : Int) - 1 - (i : Int))) where
  mem := by simp
  obj := fun i h st c hc => by
    obtain ⟨_, hz, hTI, ⟨x, y, hTO⟩, ⟨o1, e1, _, d1⟩, ⟨o2, e2, _, d2⟩⟩ := st
    have e' : c = z ∨ c = TI ∨ c = TO ∨ c = i1 ∨ c = i2 := by simpa using hc
    rcases e' with q | q | q | q | q
    · rw [q]; exact ⟨_, hz, fun v q => nomatch q⟩
    · rw [q]; exact ⟨_, hTI, fun v q => nomatch q⟩
    · rw [q]; exact ⟨_, hTO, fun v q => nomatch q⟩
    · rw [q]; exact ⟨o1, e1, fun v q => by rw [d1] at q; cases q⟩
    · rw [q]; exact ⟨o2, e2, fun v q => by rw [d2] at q; cases q⟩
  keep := fun i h h' st k => by
    obtain ⟨hi, hz, hTI, ⟨x, y, hTO⟩, h1, h2⟩ := st
    exact ⟨hi, k z (by simp) _ hz, k TI (by simp) _ hTI, ⟨x, y, k TO (by simp) _ hTO⟩, h1.at fun o q => k i1 (by simp) o q, h2.at fun o q => k i2 (by simp) o q⟩
  item := by
    intro X hP hw hK hc i pins s σ H E I hf st hg
    subst hP hw hK
    obtain ⟨hi, hz, hTI, ⟨x0, y0, hTO⟩, h1, h2⟩ := st
    obtain ⟨hia, hib, xs, ys, x, y, lx, ly, hqx, hqy, hx, hy⟩ := hg
    obtain ⟨its, rv, p, hz1⟩ := I.tuple hqx
    obtain ⟨its2, rv2, p2, hz2⟩ := I.tuple hqy
    have s1 : its.toArray.size = na := by rw [List.size_toArray, ← rv.length, lx]
    have s2 : its2.toArray.size = nb := by rw [List.size_toArray, ← rv2.length, ly]
    have hzl : z < s.heap.objs.size := Heap.lt_size hz
    have hA : X.A.in1.handled = none := I.ok.hd hc
    have D1 := FlR.draws_rt (prog := X.prog) (w := X.w) (A := X.A.in1) hA i1 a n1 its.toArray (by omega)
    have D2 := FlR.draws_rt (prog := X.prog) (w := X.w) (A := X.A.in1) hA i2 b n2 its2.toArray (by omega)
    have st1 : i ≤ its.toArray.size ∧ RT.IsRt s.heap i1 a ((its.toArray.size : Int) - 1 - (i : Int)) ∧ IsTup s.heap a its.toArray := ⟨by omega, by rw [s1]; exact h1, p⟩
    have st2 : i ≤ its2.toArray.size ∧ RT.IsRt s.heap i2 b ((its2.toArray.size : Int) - 1 - (i : Int)) ∧ IsTup s.heap b its2.toArray := ⟨by omega, by rw [s2]; exact h2, p2⟩
    refine wpAny_pyNext_zipD2_item S D1 D2 hz hTI hTO st1 st2 (by omega) (by omega) fun u u2 h' tk hu hu2 z' TO' h1' h2' hT hsz hk => ?_
    refine ⟨_, rfl, wpAny_letOwnedTupleGo_zip (s := { s with heap := h', toks := tk }) z' fun h'' z'' sb => ?_⟩
    have hT2 : h''.get? s.heap.objs.size = some { cls := .type "tuple", data := .seq #[u, u2] } := (sb.2 _ (Nat.ne_of_gt hzl)).trans hT
    have ru : RelV x u := by
      obtain ⟨u', hu', r'⟩ := rv.get hx
      have hu := (show its.toArray[its.toArray.size - 1 - i]? = some u from hu)
      rw [s1] at hu
      have : its[na - 1 - i]? = some u := by simpa using hu
      rw [this] at hu'
      cases hu'
      exact r'
    have ru2 : RelV y u2 := by
      obtain ⟨u', hu', r'⟩ := rv2.get hy
      have hu2 := (show its2.toArray[its2.toArray.size - 1 - i]? = some u2 from hu2)
      rw [s2] at hu2
      have : its2[nb - 1 - i]? = some u2 := by simpa using hu2
      rw [this] at hu'
      cases hu'
      exact r'
    have new : ObjOk X.prog X.w (upd H s.heap.objs.size (.tup [x, y])) h'' s.heap.objs.size (.tup [x, y]) :=
      ⟨by show 2 ≤ sizeLine; decide, [u, u2], .cons ru (.cons ru2 .nil), ⟨_, hT2, rfl, _, rfl⟩⟩
    have I1 : Inv X pins σ (upd H s.heap.objs.size (.tup [x, y])) { s with heap := h'', toks := tk } :=
      I.turnedNew (t' := tk) (ch := [z, TI, TO, i1, i2]) (fun c o hb q => (sb.2 c (fun q' => hb (by simp [q']))).trans (hk c o (fun q' => hb (by simp [q'])) (fun q' => hb (by simp [q'])) (fun q' => hb (by simp [q'])) (fun q' => hb (by simp [q'])) q)) hf (Nat.le_refl _) new
    refine ⟨.ref s.heap.objs.size, _, I1, rfl, ⟨_, x, y, rfl, I.hok.fresh (Nat.le_refl _), rfl, fun l hl => by rw [I.tuple_inj hl hqx]; exact hx, fun l hl => by rw [I.tuple_inj hl hqy]; exact hy⟩, ⟨⟨hia, hib⟩, z'', ?_, ⟨u, u2, ?_⟩, ?_, ?_⟩, fun c hcm => ?_⟩
    · exact (sb.2 _ S.TIz).trans (hk _ _ S.TIz S.TITO S.TIi1 S.TIi2 hTI)
    · exact (sb.2 _ S.TOz).trans TO'
    · have := h1'.2.1
      rw [s1] at this
      exact this.at fun o q => (sb.2 _ (Ne.symm S.zi1)).trans q
    · have := h2'.2.1
      rw [s2] at this
      exact this.at fun o q => (sb.2 _ (Ne.symm S.zi2)).trans q
    · have hlt : c < s.heap.objs.size := by
        have e' : c = z ∨ c = TI ∨ c = TO ∨ c = i1 ∨ c = i2 := by simpa using hcm
        rcases e' with q | q | q | q | q
        · rw [q]; exact hzl
        · rw [q]; exact Heap.lt_size hTI
        · rw [q]; exact Heap.lt_size hTO
        · rw [q]; obtain ⟨_, e1, _⟩ := h1; exact Heap.lt_size e1
        · rw [q]; obtain ⟨_, e2, _⟩ := h2; exact Heap.lt_size e2
      rw [upd_ne (Nat.ne_of_lt hlt)]
      exact (hf c hcm).1
  done := by
    intro X hP hw hK hc i pins s σ H E I hf st hg
    subst hP hw hK
    obtain ⟨hi, hz, hTI, ⟨x0, y0, hTO⟩, h1, h2⟩ := st
    obtain ⟨hend, xs, ys, lx, ly, hqx, hqy⟩ := hg
    obtain ⟨its, rv, p, hz1⟩ := I.tuple hqx
    obtain ⟨its2, rv2, p2, hz2⟩ := I.tuple hqy
    have s1 : its.toArray.size = na := by rw [List.size_toArray, ← rv.length, lx]
    have s2 : its2.toArray.size = nb := by rw [List.size_toArray, ← rv2.length, ly]
    have hA : X.A.in1.handled = none := I.ok.hd hc
    have D1 := FlR.draws_rt (prog := X.prog) (w := X.w) (A := X.A.in1) hA i1 a n1 its.toArray (by omega)
    have D2 := FlR.draws_rt (prog := X.prog) (w := X.w) (A := X.A.in1) hA i2 b n2 its2.toArray (by omega)
    have st1 : i ≤ its.toArray.size ∧ RT.IsRt s.heap i1 a ((its.toArray.size : Int) - 1 - (i : Int)) ∧ IsTup s.heap a its.toArray := ⟨by omega, by rw [s1]; exact h1, p⟩
    have st2 : i ≤ its2.toArray.size ∧ RT.IsRt s.heap i2 b ((its2.toArray.size : Int) - 1 - (i : Int)) ∧ IsTup s.heap b its2.toArray := ⟨by omega, by rw [s2]; exact h2, p2⟩
    exact wpAny_pyNext_zipD2_end S D1 D2 hz hTI hTO st1 st2 (by omega) (by omega) (by omega) fun h' tk hk => ⟨rfl, I.turnedL (t' := tk) (ch := [z, TI, TO, i1, i2]) (fun c o hb q =>
      hk c o (fun q' => hb (by simp [q'])) (fun q' => hb (by simp [q'])) (fun q' => hb (by simp [q'])) (fun q' => hb (by simp [q'])) q) hf⟩
  self := fun A i s Q E st h => wpAny_pyIter_zip st.2.1 h
end Fl

set_option maxHeartbeats 1000000
namespace Fl
open PySem PySem.Spec PyProof.Rows L2
section
variable {X : Cx}
def tZipR (K : PySem.W.Frag) (te te2 : TE) : TI := fun σ H R => te σ H fun v H1 => ∃ (a : Addr) (xs : List V), v = .ref a ∧ SqT K H1 a xs ∧ te2 σ H1 fun v2 H2 => ∃ (b : Addr) (ys : List V), v2 = .ref b ∧ SqT K H2 a xs ∧ SqT K H2 b ys ∧ R (ItzR K a b xs.length ys.length) H2
theorem pi_zipR {e e2 : Expr} {te te2 : TE} {p p1 p2 pos pos1 pos2 tpos : Pos} {elts : List Expr} {kk : Nat} (hg : Gl X "zip") (hm : X.mg "zip" = none) (hg2 : Gl X "reversed") (hm2 : X.mg "reversed" = none) (he : PE X e te) (he2 : PE X e2 te2)
    (hs : starEach [.Call (.Name "reversed" p1) [e] [] pos1, .Call (.Name "reversed" p2) [e2] [] pos2] X.env = (false, eval (.Call (.Name "reversed" p1) [e] [] pos1) X.env) :: starEach [.Call (.Name "reversed" p2) [e2] [] pos2] X.env := by rfl)
    (hs2 : starEach [.Call (.Name "reversed" p2) [e2] [] pos2] X.env = (false, eval (.Call (.Name "reversed" p2) [e2] [] pos2) X.env) :: starEach [] X.env := by rfl)
    (hs3 : starEach [e] X.env = (false, eval e X.env) :: starEach [] X.env := by rfl)
    (hs4 : starEach [e2] X.env = (false, eval e2 X.env) :: starEach [] X.env := by rfl)
    (hpl : (backTo pos (starEach [.Call (.Name "reversed" p2) [e2] [] pos2] X.env)).any (·.1) = false := by rfl) :
    PI X (.Tuple elts kk tpos) (.Call (.Name "zip" p) [.Call (.Name "reversed" p1) [e] [] pos1, .Call (.Name "reversed" p2) [e2] [] pos2] [] pos) (tZipR X.K te te2) := by
  refine ⟨fun pins s σ H R I h => ?_⟩
  refine Call_ (ld_blt I hg hm PyProof.Rows.boot_zip (PyProof.Rows.callWith_type1 (args_cons (Call_ (ld_blt I hg2 hm2 PyProof.Rows.boot_reversed (PyProof.Rows.callWith_type1 (args_cons (thn (he.run pins s σ H _ I h) fun u s1 ⟨v, H1, I1, r1, q1⟩ => args_nil ?_) hs3) hs3 rfl))) hs) hs hpl))
  obtain ⟨a, xs, ev, hqa, q1⟩ := q1
  subst ev
  obtain rfl : u = Value.ref a := r1
  obtain ⟨its, rv, p', hz⟩ := I1.tuple hqa
  obtain ⟨ol, hol, _⟩ := id p'
  have h63 := line63
  have hn : its.toArray.size ≤ sizeLine := by rw [List.size_toArray, ← rv.length]; exact hz
  have hna : its.toArray.size = xs.length := by rw [List.size_toArray, ← rv.length]
  refine RT.call_reversed_tup p' (fun A E Q k => len_tuple p' (by omega) k) ?_
  have I2 : Inv X pins σ H1 { s1 with heap := s1.heap.push (RT.rtObj a ((its.toArray.size : Int) - 1)), toks := s1.toks + 1 + 1 } := I1.kept (t' := s1.toks + 1 + 1) fun b o e => Heap.get?_push_of_some _ e
  have g1 : (s1.heap.push (RT.rtObj a ((its.toArray.size : Int) - 1))).get? s1.heap.objs.size = some (RT.rtObj a ((its.toArray.size : Int) - 1)) := Heap.get?_push_size _ rfl
  have f1 : FpOk X pins H1 s1.heap.objs.size := I1.fpOk (Nat.le_refl _) (I1.hok.fresh (Nat.le_refl _))
  have I3 := I2.pinned (fp := [s1.heap.objs.size]) (fun b hb => by rw [List.mem_singleton.mp hb]; exact f1) (fun b hb => by rw [List.mem_singleton.mp hb]; exact ⟨_, g1, fun v z => by cases z⟩)
  refine args_cons (Call_ (ld_blt I3 hg2 hm2 PyProof.Rows.boot_reversed (PyProof.Rows.callWith_type1 (args_cons (thn (he2.run _ _ σ H1 _ I3 q1) fun u2 s2 ⟨v2, H2, I4, r2, q2⟩ => args_nil ?_) hs4) hs4 rfl))) hs2
  obtain ⟨b, ys, ev, hqa2, hqb, q2⟩ := q2
  subst ev
  obtain rfl : u2 = Value.ref b := r2
  obtain ⟨its2, rv2, pb, hz2⟩ := I4.tuple hqb
  obtain ⟨itsa, rva, pa, hza⟩ := I4.tuple hqa2
  obtain ⟨ob, hob, _⟩ := id pb
  obtain ⟨oa, hoa, _⟩ := id pa
  have hn2 : its2.toArray.size ≤ sizeLine := by rw [List.size_toArray, ← rv2.length]; exact hz2
  have hnb : its2.toArray.size = ys.length := by rw [List.size_toArray, ← rv2.length]
  have P1 : s2.heap.get? s1.heap.objs.size = some (RT.rtObj a ((its.toArray.size : Int) - 1)) ∧ H2 s1.heap.objs.size = none ∧ _ := I4.pin (s1.heap.objs.size, RT.rtObj a ((its.toArray.size : Int) - 1)) (List.mem_append_right _ (List.mem_append_right _ (by
    show _ ∈ pinsAt [s1.heap.objs.size] _
    simp only [pinsAt, List.filterMap_cons, List.filterMap_nil, g1, Option.map_some, List.mem_cons, List.not_mem_nil, or_false])))
  have I5 := I4.unpinned
  have lt1 : s1.heap.objs.size < s2.heap.objs.size := Heap.lt_size P1.1
  refine RT.call_reversed_tup pb (fun A E Q k => len_tuple pb (by omega) k) (args_nil ?_)
  have g2 : (s2.heap.push (RT.rtObj b ((its2.toArray.size : Int) - 1))).get? s2.heap.objs.size = some (RT.rtObj b ((its2.toArray.size : Int) - 1)) := Heap.get?_push_size _ rfl
  have g3 : (s2.heap.push (RT.rtObj b ((its2.toArray.size : Int) - 1))).get? s1.heap.objs.size = some (RT.rtObj a ((its.toArray.size : Int) - 1)) := Heap.get?_push_of_some _ P1.1
  have z2 : (s2.heap.push (RT.rtObj b ((its2.toArray.size : Int) - 1))).objs.size = s2.heap.objs.size + 1 := Heap.size_push ..
  refine FlR.call_zip_its (s := { s2 with heap := s2.heap.push (RT.rtObj b ((its2.toArray.size : Int) - 1)), toks := s2.toks + 1 + 1 }) (fun prog w A E Q k => RT.iter_rt (t := a) (i := (its.toArray.size : Int) - 1) ⟨_, g3, rfl, rfl⟩ k) (fun prog w A E Q k => RT.iter_rt (t := b) (i := (its2.toArray.size : Int) - 1) ⟨_, g2, rfl, rfl⟩ k)
    fun h' hZ hTI hTO hsz hk => ?_
  simp only [z2] at hZ hTI hTO hsz
  show wpAny _ _ (pyIter (.ref ((s2.heap.push (RT.rtObj b ((its2.toArray.size : Int) - 1))).objs.size + 2))) _ _ _
  rw [z2]
  refine wpAny_pyIter_zip hZ ?_
  have I6 : Inv X pins σ H2 { s2 with heap := h', toks := s2.toks + 1 + 1 } := I5.kept (t' := s2.toks + 1 + 1) fun c o e => hk c o (Heap.get?_push_of_some _ e)
  have la : a < s2.heap.objs.size := Heap.lt_size hoa
  have lb : b < s2.heap.objs.size := Heap.lt_size hob
  have na1 : a ≠ s1.heap.objs.size := Nat.ne_of_lt (Heap.lt_size hol)
  have nb1 : b ≠ s1.heap.objs.size := fun z => by
    have := P1.1
    rw [← z, hob] at this
    injection this with this
    have tb := pb
    obtain ⟨o', ho', hc', _⟩ := tb
    rw [hob] at ho'
    injection ho' with ho'
    rw [← ho', this] at hc'
    have hc2 : (Value.type "reversed" : Value) = .type "tuple" := hc'
    injection hc2 with hc2
    exact absurd hc2 (by decide)
  have fpz : ∀ c, s2.heap.objs.size ≤ c → FpOk X pins H2 c := fun c hc => I5.fpOk hc (I5.hok.fresh hc)
  have fpi : FpOk X pins H2 s1.heap.objs.size := ⟨P1.2.1, f1.2⟩
  refine ⟨s2.heap.objs.size + 1 + 2, [s2.heap.objs.size + 1 + 2, s2.heap.objs.size + 1, s2.heap.objs.size + 1 + 1, s1.heap.objs.size, s2.heap.objs.size], _, _, H2, rfl, I6, turn_zipR (na := xs.length) (nb := ys.length) (a := a) (b := b) ?_ na1 (Nat.ne_of_lt lb), ⟨⟨Nat.zero_le _, Nat.zero_le _⟩, hZ, hTI, ⟨_, _, hTO⟩, ?_, ?_⟩, fun c hc => ?_, q2⟩
  · have a1 : s1.heap.objs.size ≠ s2.heap.objs.size := Nat.ne_of_lt lt1
    have a2 : ∀ k, s1.heap.objs.size ≠ s2.heap.objs.size + 1 + k := fun k => by omega
    have a3 : ∀ k, a ≠ s2.heap.objs.size + 1 + k := fun k => Nat.ne_of_lt (Nat.lt_of_lt_of_le la (by omega))
    have a4 : ∀ k, b ≠ s2.heap.objs.size + 1 + k := fun k => Nat.ne_of_lt (Nat.lt_of_lt_of_le lb (by omega))
    have ni : ∀ {x y z : Addr}, x ≠ y → x ≠ z → x ∉ [y, z] := fun h1 h2 h => by
      rcases List.mem_cons.mp h with h | h
      · exact h1 h
      · exact h2 (List.mem_singleton.mp h)
    have neN : ∀ {x y : Nat}, x ≠ y → @Ne Addr x y := fun h => h
    exact ⟨neN (by omega), neN (by omega), neN (by omega), (a2 0).symm, List.mem_cons_self, ni (a2 2).symm (a3 2).symm, ni (a2 1).symm (a3 1).symm, neN (by omega), List.mem_cons_self, ni (neN (by omega)) (a4 2).symm, ni (neN (by omega)) (a4 1).symm, ni a1 nb1.symm, ni a1.symm (Nat.ne_of_gt la)⟩
  · exact ⟨_, hk _ _ g3, rfl, by rw [← hna, show (its.toArray.size : Int) - 1 - ((0 : Nat) : Int) = (its.toArray.size : Int) - 1 by omega]; rfl⟩
  · exact ⟨_, hk _ _ g2, rfl, by rw [← hnb, show (its2.toArray.size : Int) - 1 - ((0 : Nat) : Int) = (its2.toArray.size : Int) - 1 by omega]; rfl⟩
  · have hc' : c = s2.heap.objs.size + 1 + 2 ∨ c = s2.heap.objs.size + 1 ∨ c = s2.heap.objs.size + 1 + 1 ∨ c = s1.heap.objs.size ∨ c = s2.heap.objs.size := by simpa using hc
    rcases hc' with z | z | z | z | z
    · rw [z]; exact fpz _ (by omega)
    · rw [z]; exact fpz _ (by omega)
    · rw [z]; exact fpz _ (by omega)
    · rw [z]; exact fpi
    · rw [z]; exact fpz _ (Nat.le_refl _)
end
end Fl

namespace Fl
open PySem PySem.Spec PyProof.Rows L2
/-- the pairs of a zip -/
def zipV : List PV → List PV → List PV
  | x :: xs, y :: ys => .tup [x, y] :: zipV xs ys
  | _, _ => []
theorem zipV_length : ∀ xs ys : List PV, (zipV xs ys).length = min xs.length ys.length
  | [], ys => by simp [zipV]
  | x :: xs, [] => by simp [zipV]
  | x :: xs, y :: ys => by simp [zipV, zipV_length xs ys]
theorem zipV_get : ∀ {xs ys : List PV} {i : Nat} {x y : PV}, xs[i]? = some x → ys[i]? = some y → (zipV xs ys)[i]? = some (.tup [x, y])
  | x :: xs, y :: ys, 0, _, _, h1, h2 => by cases h1; cases h2; rfl
  | x :: xs, y :: ys, i + 1, _, _, h1, h2 => by
    show (zipV xs ys)[i]? = _
    exact zipV_get (by simpa using h1) (by simpa using h2)
section
variable {X : Cx} {e e2 : Expr} {ta : FA} {m m2 : FE} {p pos tpos : Pos} {elts : List Expr} {kk : Nat}
theorem pin2 {K : PySem.W.Frag} {H : Hp} {B C : Addr → Prop} {x y : PV} {v w : V} (r : R K H B C x v) (r' : R K H B C y w) : ∀ q ∈ [(x, v), (y, w)], R K H B C q.1 q.2 := fun q hq => by
  have e : q = (x, v) ∨ q = (y, w) := by simpa using hq
  rcases e with e | e
  · subst e; exact r
  · subst e; exact r'
theorem yld_pair {K : PySem.W.Frag} {H : Hp} {B C : Addr → Prop} {px py : PV} {x y : V} {T : Addr} (mu : ∀ a, B a → Mut (H a)) (hT : H T = none) (nB : ¬ B T) (hx : R K H B C px x) (hy : R K H B C py y) :
    (∀ a o, H a = some o → upd H T (.tup [x, y]) a = some o) ∧ R K (upd H T (.tup [x, y])) B C (.tup [px, py]) (.ref T) := by
  have ev : Evo B B H (upd H T (.tup [x, y])) := ⟨fun a u e _ => by rw [upd_ne (ne_of_none e hT)]; exact e, fun _ _ _ n => n⟩
  refine ⟨fun a o e => by rw [upd_ne (ne_of_none e hT)]; exact e, ?_⟩
  exact .tup (.inl (.inl upd_same)) (.cons (hx.evo mu ev) (.cons (hy.evo mu ev) .nil))
theorem nb_mu {H : Hp} {B : Addr → Prop} (mu : ∀ a, B a → Mut (H a)) {T : Addr} (hT : H T = none) : ¬ B T := fun z => by
  have := mu T z
  rw [hT] at this
  exact this
theorem it_zipT {K : PySem.W.Frag} {C : Addr → Prop} {a b : Addr} {xs ys : List PV} : ItP K C (RZ.ItzT K a b) [(.tup xs, .ref a), (.tup ys, .ref b)] (zipV xs ys) := fun i B' H' hp mu => by
  have h1 := hp (.tup xs, .ref a) (by simp)
  have h2 := hp (.tup ys, .ref b) (by simp)
  rw [zipV_length]
  cases h1 with
  | @tup _ vs _ hq hr =>
  cases h2 with
  | @tup _ ws _ hq2 hr2 =>
  have l1 := hr.length
  have l2 := hr2.length
  refine ⟨fun hi => ⟨vs, ws, _, _, hq, hq2, List.getElem?_eq_getElem (by omega), List.getElem?_eq_getElem (by omega)⟩, ⟨vs, ws, hq, hq2, by omega⟩, fun w H2 hi y => ?_⟩
  obtain ⟨T, x, z, e, hT, eH, g1, g2⟩ := y
  subst e eH
  obtain ⟨px, q1, r1⟩ := hr.get' (g1 _ hq)
  obtain ⟨py, q2, r2⟩ := hr2.get' (g2 _ hq2)
  exact ⟨_, zipV_get q1 q2, yld_pair mu hT (nb_mu mu hT) r1 r2⟩
theorem it_zipL {K : PySem.W.Frag} {C : Addr → Prop} {a b : Addr} {xs ys : List PV} : ItP K C (Itz K a b) [(.lst xs, .ref a), (.lst ys, .ref b)] (zipV xs ys) := fun i B' H' hp mu => by
  have h1 := hp (.lst xs, .ref a) (by simp)
  have h2 := hp (.lst ys, .ref b) (by simp)
  rw [zipV_length]
  cases h1 with
  | @lst _ vs _ hq hr =>
  cases h2 with
  | @lst _ ws _ hq2 hr2 =>
  have l1 := hr.length
  have l2 := hr2.length
  refine ⟨fun hi => ⟨vs, ws, _, _, hq.sq, hq2.sq, List.getElem?_eq_getElem (by omega), List.getElem?_eq_getElem (by omega)⟩, ⟨vs, ws, hq.sq, hq2.sq, by omega⟩, fun w H2 hi y => ?_⟩
  obtain ⟨T, x, z, e, hT, eH, g1, g2⟩ := y
  subst e eH
  obtain ⟨px, q1, r1⟩ := hr.get' (g1 _ hq.sq)
  obtain ⟨py, q2, r2⟩ := hr2.get' (g2 _ hq2.sq)
  exact ⟨_, zipV_get q1 q2, yld_pair mu hT (nb_mu mu hT) r1 r2⟩
def iZip2 (ta : FA) : FI := fun f M Q => ta f M fun xs M1 => match xs with
  | [.v (.tup xs), .v (.tup ys)] => Q (zipV xs ys) M1
  | [.v (.lst xs), .v (.lst ys)] => Q (zipV xs ys) M1
  | _ => False
theorem ri_zip2 (hg : Gl X "zip") (hm : X.mg "zip" = none) (ha : RA X [e, e2] ta) (hs : starEach [e, e2] X.env = (false, eval e X.env) :: starEach [e2] X.env := by rfl) (hpl : (backTo pos (starEach [e2] X.env)).any (·.1) = false := by rfl) :
    RI X (.Tuple elts kk tpos) (.Call (.Name "zip" p) [e, e2] [] pos) (iZip2 ta) :=
  ⟨(RZ.pi_zipA hg hm ha.pa hs hpl).imp fun σ H S ⟨G, B, f, M, Q', rep, hm, k⟩ => ⟨G, B, f, M, _, rep, hm, fun xs M1 vs H1 q hl rep1 r1 c1 => by
    split at q
    · rename_i xs ys
      match vs, r1 with
      | [v, w], ⟨r, r', _⟩ =>
        have ra : R X.K H1 B G.C (.tup xs) v := r
        have rb : R X.K H1 B G.C (.tup ys) w := r'
        have ra2 := ra
        have rb2 := rb
        cases ra with
        | tup hq hr =>
        cases rb with
        | tup hq2 hr2 => exact ⟨_, _, _, _, rfl, .inr ⟨hq, hq2, k _ M1 _ _ H1 q rep1 c1 (pin2 ra2 rb2) it_zipT⟩⟩
    · rename_i xs ys
      match vs, r1 with
      | [v, w], ⟨r, r', _⟩ =>
        have ra : R X.K H1 B G.C (.lst xs) v := r
        have rb : R X.K H1 B G.C (.lst ys) w := r'
        have ra2 := ra
        have rb2 := rb
        cases ra with
        | lst hq hr =>
        cases rb with
        | lst hq2 hr2 => exact ⟨_, _, _, _, rfl, .inl ⟨hq.sq, hq2.sq, k _ M1 _ _ H1 q rep1 c1 (pin2 ra2 rb2) it_zipL⟩⟩
    · exact q.elim⟩⟩
theorem it_zipR {K : PySem.W.Frag} {C : Addr → Prop} {a b : Addr} {xs ys : List PV} : ItP K C (ItzR K a b xs.length ys.length) [(.tup xs, .ref a), (.tup ys, .ref b)] (zipV xs.reverse ys.reverse) := fun i B' H' hp mu => by
  have h1 := hp (.tup xs, .ref a) (by simp)
  have h2 := hp (.tup ys, .ref b) (by simp)
  rw [zipV_length, List.length_reverse, List.length_reverse]
  cases h1 with
  | @tup _ vs _ hq hr =>
  cases h2 with
  | @tup _ ws _ hq2 hr2 =>
  have l1 := hr.length
  have l2 := hr2.length
  refine ⟨fun hi => ⟨by omega, by omega, vs, ws, _, _, l1.symm, l2.symm, hq, hq2, List.getElem?_eq_getElem (by omega), List.getElem?_eq_getElem (by omega)⟩, ⟨by omega, vs, ws, l1.symm, l2.symm, hq, hq2⟩, fun w H2 hi y => ?_⟩
  obtain ⟨T, x, z, e, hT, eH, g1, g2⟩ := y
  subst e eH
  obtain ⟨px, q1, r1⟩ := hr.get' (g1 _ hq)
  obtain ⟨py, q2, r2⟩ := hr2.get' (g2 _ hq2)
  exact ⟨_, zipV_get (by rw [rev_get (by omega)]; exact q1) (by rw [rev_get (by omega)]; exact q2), yld_pair mu hT (nb_mu mu hT) r1 r2⟩
def iZipRR (m m2 : FE) : FI := fun f M Q => m f M fun x M1 => match x with
  | .v (.tup xs) => m2 f M1 fun y M2 => match y with
    | .v (.tup ys) => Q (zipV xs.reverse ys.reverse) M2
    | _ => False
  | _ => False
theorem ri_zipRR {p1 p2 pos1 pos2 : Pos} (hc : X.calm = true) (hg : Gl X "zip") (hm : X.mg "zip" = none) (hg2 : Gl X "reversed") (hm2 : X.mg "reversed" = none) (he : RE X e m) (he2 : RE X e2 m2)
    (hs : starEach [.Call (.Name "reversed" p1) [e] [] pos1, .Call (.Name "reversed" p2) [e2] [] pos2] X.env = (false, eval (.Call (.Name "reversed" p1) [e] [] pos1) X.env) :: starEach [.Call (.Name "reversed" p2) [e2] [] pos2] X.env := by rfl)
    (hs2 : starEach [.Call (.Name "reversed" p2) [e2] [] pos2] X.env = (false, eval (.Call (.Name "reversed" p2) [e2] [] pos2) X.env) :: starEach [] X.env := by rfl)
    (hs3 : starEach [e] X.env = (false, eval e X.env) :: starEach [] X.env := by rfl)
    (hs4 : starEach [e2] X.env = (false, eval e2 X.env) :: starEach [] X.env := by rfl)
    (hpl : (backTo pos (starEach [.Call (.Name "reversed" p2) [e2] [] pos2] X.env)).any (·.1) = false := by rfl) :
    RI X (.Tuple elts kk tpos) (.Call (.Name "zip" p) [.Call (.Name "reversed" p1) [e] [] pos1, .Call (.Name "reversed" p2) [e2] [] pos2] [] pos) (iZipRR m m2) :=
  ⟨(pi_zipR hg hm hg2 hm2 he.pe he2.pe hs hs2 hs3 hs4 hpl).imp fun σ H S ⟨G, B, f, M, Q', rep, hm, k⟩ => ⟨G, B, f, M, _, rep, hm, fun x M1 v H1 q rep1 r1 c1 => by
    split at q
    · rename_i xs
      have ra : R X.K H1 B G.C (.tup xs) v := r1
      have ra1 := ra
      cases ra1 with
      | @tup a vs _ hq hr =>
      refine ⟨a, vs, rfl, hq, G, B, f, M1, _, rep1, q, fun y M2 w H2 q2 rep2 r2 c2 => ?_⟩
      split at q2
      · rename_i ys
        have rb : R X.K H2 B G.C (.tup ys) w := r2
        have rb1 := rb
        have ra2 : R X.K H2 B G.C (.tup xs) (.ref a) := R.evc ra rep1 c2
        have ra3 := ra2
        cases rb1 with
        | @tup b ws _ hq2 hr2 =>
        cases ra3 with
        | @tup _ vs' _ hq3 hr3 =>
        have e1 : vs.length = xs.length := hr.length.symm
        have e2 : ws.length = ys.length := hr2.length.symm
        have e3 : vs'.length = xs.length := hr3.length.symm
        refine ⟨b, ws, rfl, ?_, hq2, ?_⟩
        · exact sqT_evo rep1.mu (c2.evo rep1) hq
        · rw [e1, e2]
          exact k _ M2 _ _ H2 q2 rep2 (c1.trans c2) (pin2 ra2 rb) it_zipR
      · exact q2.elim
    · exact q.elim⟩⟩
end
end Fl

namespace FlR
open PySem PySem.Spec PyProof.Rows
open PySem.AutoSeq1 (wpAny_loadPart')
section
variable {prog : Program} {w : World} {A : Around} {E : Value → Shared → Prop} {s : Shared}
theorem count_loop (x : Value) : ∀ (ys : List Value) (bs : List Bool) (n : Nat) {Q : Nat → Shared → Prop}, PySem.Paired (fun y b => SeqAt.EqAt A s y x b) ys bs → Q (n + bs.countP id) s →
    wpAny (model prog w) A (forIn ys n fun y r => do
      let b ← eqBool y x
      if b = true then pure (ForInStep.yield (r + 1)) else pure (ForInStep.yield r)) Q E s
  | _, _, n, Q, .nil, hQ => by
    rw [List.forIn_nil]
    exact wpAny_pure (by simpa using hQ)
  | y :: ys, b :: bs, n, Q, .cons he ht, hQ => by
    rw [List.forIn_cons]
    refine wpAny_bind (wpAny_bind (he prog w _ _ ?_))
    rw [List.countP_cons] at hQ
    cases b with
    | true =>
      rw [if_pos rfl]
      refine wpAny_pure ?_
      exact count_loop x ys bs (n + 1) ht (by rw [show n + 1 + bs.countP id = n + (bs.countP id + if id true = true then 1 else 0) by simp; omega]; exact hQ)
    | false =>
      rw [if_neg Bool.false_ne_true]
      refine wpAny_pure ?_
      exact count_loop x ys bs n ht (by simpa using hQ)
theorem call_tuple_count {t : Addr} {items : List Value} {x : Value} {bs : List Bool} {Q : Value → Shared → Prop} (ht : IsTup s.heap t items.toArray) (he : PySem.Paired (fun y b => SeqAt.EqAt A.in1 s y x b) items bs)
    (hQ : ∀ u tk, Q (.int (bs.countP id : Nat) u) { s with toks := tk }) : wpAny (model prog w) A (call (.builtin "tuple.count") [.ref t, x]) Q E s := by
  refine wpAny_call_entry F.slot_tuple_count ht.typeIs F.entry_tuple_count ?_ (F.args_tuple_count_2 _ _)
  unfold Builtin.«tuple.count»
  refine wpAny_bind (wpAny_of_eq (a := (Value.ref t, x)) rfl ?_)
  try dsimp only
  refine wpAny_bind (tupleItemsOf_ ht ?_)
  simp only [← Array.forIn_toList]
  refine wpAny_bind ?_
  refine count_loop x items bs 0 he ?_
  rw [Nat.zero_add]
  exact wpAny_bind (wpAny_mkInt (wpAny_pure ⟨_, rfl, hQ _ _⟩))
end
end FlR
namespace Fl
open PySem PySem.Spec PyProof.Rows L2
section
variable {X : Cx}
/-! ### a tuple laid here: what it is, its .count -/
theorem call_tupleX : CallR X (.type "tuple") (fun xs H Q => ∃ p ys, xs = [.ref p] ∧ SqL X.K H p ys ∧ ∀ l o, H l = none → o.dict = none → Q (.ref l) (upd H l (.frz o (.tup ys)))) := by
  intro pins s σ H xs us Q I r h
  obtain ⟨p, ys, rfl, hq, q⟩ := h
  obtain ⟨u, rfl, rx⟩ := vals1 r
  cases rx
  obtain ⟨its, r', pl, hz⟩ := I.list hq
  have hlen := r'.length
  refine call_tuple_list pl.isList (fun h' kp => ?_) (by simp only [List.size_toArray] <;> omega)
  have I1 : Inv X pins σ H { s with heap := h' } := I.kept (t' := s.toks) kp
  have I2 : Inv X pins σ (upd H h'.objs.size (.frz { cls := .type "tuple", data := .seq its.toArray } (.tup ys))) { s with heap := h'.push { cls := .type "tuple", data := .seq its.toArray } } :=
    I1.laid (t' := s.toks) (fun b o e => Heap.get?_push_of_some _ e) (Nat.le_refl _) (show ObjOk X.prog X.w _ _ _ (.frz _ (.tup ys)) from ⟨Heap.get?_push_size _ rfl, hz, its, r', IsTup.new _ _⟩)
  exact ⟨.ref h'.objs.size, _, I2, rfl, q _ _ (I1.hok.fresh (Nat.le_refl _)) rfl⟩
/-- tuple(a list), as a thing whose .count may be asked -/
def tupX : ON := fun _ xs k => match xs with
  | [x] => match lstP x with
    | some ys => k (.xtp ys)
    | none => False
  | _ => False
theorem tupX_ok : OpN X.K (fun xs H Q => ∃ p ys, xs = [.ref p] ∧ SqL X.K H p ys ∧ ∀ l o, H l = none → o.dict = none → Q (.ref l) (upd H l (.frz o (.tup ys)))) tupX := fun G B f M σ H xs vs k Q rep r h fin => by
  unfold tupX at h
  split at h
  · split at h
    · rename_i ys hy
      match vs, r with
      | [v], ⟨r, _⟩ =>
        obtain ⟨a, ws, e, hs, hr⟩ := rv_lstP r hy
        subst e
        refine ⟨a, ws, rfl, .of hs, fun p o hp hd => fin _ _ _ h (rep.new hp) ?_ (.new hp)⟩
        exact .xtp ⟨o, upd_same, hd⟩ (hr.evc rep (.new hp))
    · exact h.elim
  · exact h.elim
theorem re_tupX {e : Expr} {t : FA} {p pos : Pos} (hg : Gl X "tuple") (hm : X.mg "tuple" = none) (ha : RA X [e] t) (he : starEach [e] X.env = (false, eval e X.env) :: starEach [] X.env := by rfl) : RE X (.Call (.Name "tuple" p) [e] [] pos) (eN tupX t) :=
  re_type call_tupleX tupX_ok hg hm boot_tuple ha (by decide) (by decide) he rfl
/-- such a thing read as a tuple -/
def eVr (m : FE) : FE := fun f M Q => m f M fun x M1 => match x with
  | .v (.xtp xs) => Q (.v (.tup xs)) M1
  | _ => False
theorem re_vr {e : Expr} {m : FE} (h : RE X e m) : RE X e (eVr m) := ⟨h.pe.imp fun σ H Q ⟨G, B, f, M, Q', rep, hm, k⟩ => ⟨G, B, f, M, _, rep, hm, fun x M1 v H1 q rep1 r1 c1 => by
  split at q
  · rename_i xs
    have r2 : R X.K H1 B G.C (.xtp xs) v := r1
    cases r2 with
    | xtp h1 h2 => exact k _ _ _ _ q rep1 (R.tup h1.sq h2) c1
  · exact q.elim⟩⟩
/-- x.count(y) -/
def rCntT (K : PySem.W.Frag) : V → List V → Hp → VK → Prop := fun x ys H Q => ∃ (B C : Addr → Prop) (a : Addr) (vs : List V) (xs : List PV) (q : PV) (w : V), x = .ref a ∧ SqX H a vs ∧ RL K H B C xs vs ∧ ys = [w] ∧ R K H B C q w ∧ okD (.tup xs) ∧ okD q ∧ Q (.int (xs.countP fun y => eqv y q : Nat)) H
theorem count_vals {A : Around} {pins : List (Addr × Obj)} {σ : L2.St} {H : Hp} {s : Shared} {B C : Addr → Prop} (I : Inv X pins σ H s) {q : PV} {w : V} {u : Value} (hq : R X.K H B C q w) (ru : RelV w u) (lq : (toD q).canLay0 = true) : ∀ {xs : List PV} {vs : List V} {us : List Value}, RL X.K H B C xs vs → Vals vs us → PyData.canLayAll0 (toDs xs) = true → A.units + PyData.depthAll (toDs xs) < cLine →
    Paired (fun y b => SeqAt.EqAt A s y u b) us (xs.map fun y => eqv y q)
  | _, _, _, .nil, .nil, _, _ => .nil
  | _, _, _, .cons r rr, .cons t tt, l, d => by
    rw [toDs, PyData.canLayAll0, Bool.and_eq_true] at l
    rw [toDs, PyData.depthAll] at d
    exact .cons (eqAt_pv I r hq t ru l.1 lq (by omega)) (count_vals I hq ru lq rr tt l.2 (by omega))
theorem mt_count (hu : X.A.units + 128 < cLine) {pins : List (Addr × Obj)} {s : Shared} {σ : L2.St} {H : Hp} {x : V} {xs : List V} {v : Value} {us : List Value} {Q : VK} (I : Inv X pins σ H s) (rx : RelV x v) (rs : Vals xs us) (h : rCntT X.K x xs H Q) :
    wpAny (model X.prog X.w) X.A (call (.builtin "tuple.count") (v :: us)) (EP X pins σ Q) X.xe s := by
  obtain ⟨B, C, a, vs, ps, q, w, rfl, hx, hr, rfl, hq, ok1, ok2, k⟩ := h
  cases rx
  obtain ⟨u, rfl, ru⟩ := rs.one
  obtain ⟨its, r1, p1, _⟩ := I.tuple (hx.sq (K := X.K))
  have l1 := SeqAt.canLay_of_shaped ok1
  have d1 := SeqAt.depth_of_shaped ok1
  rw [toD, PyData.canLay0] at l1
  rw [toD, PyData.depth] at d1
  refine FlR.call_tuple_count (A := X.A) p1 (count_vals (A := X.A.in1) I hq ru (SeqAt.canLay_of_shaped ok2) hr r1 l1 (by rw [Around.in1_units]; omega)) fun t tk => ?_
  refine ⟨.int _, H, I.tok tk, ⟨t, rfl⟩, ?_⟩
  rw [List.countP_map]
  exact k
def tCnt (K : PySem.W.Frag) (r : V → List V → Hp → VK → Prop) (to : TE) (t : TA) : TE := fun σ H Q => to σ H fun x H1 => (∃ a vs, x = .ref a ∧ SqX H1 a vs) ∧ t σ H1 fun xs H2 => r x xs H2 Q
theorem pe_cnt (hu : X.A.units + 128 < cLine) {o e : Expr} {to : TE} {t : TA} {apos cpos : Pos} (ho : PE X o to) (ha : PA X [e] t)
    (hbase : attributeBase o "count" X.env (eval o X.env) = eval o X.env := by rfl)
    (hfew : ((backTo cpos (starEach [e] X.env)).all (fun x => !x.1) && (backToKw cpos (keywordEach [] X.env)).all (fun x => x.1.isSome)
      && decide (([e] : List Expr).length + ([] : List Keyword).length + (if ([] : List Keyword).isEmpty then 0 else 1) < 30)) = true := by rfl)
    (hline : (apos.endLine == cpos.line) = true := by rfl) (hs : starEach [e] X.env = (false, eval e X.env) :: starEach [] X.env := by rfl) (hplain : (backTo cpos (starEach [] X.env)).any (·.1) = false := by rfl) :
    PE X (.Call (.Attribute o "count" apos) [e] [] cpos) (tCnt X.K (rCntT X.K) to t) := by
  refine ⟨fun pins s σ H Q I h => ?_⟩
  refine wpAny_Call_method_late hbase hfew hline rfl (thn (ho.run pins s σ H _ I h) fun v s1 ⟨x, H1, I1, r1, ⟨a, vs, ex, oo, hx, hd⟩, q1⟩ => ?_)
  subst ex
  cases r1
  have hh := I1.hok a _ hx
  have hT : s1.TypeIs (.ref a) "tuple" := by
    obtain ⟨its, _, p, _⟩ := I1.tuple (a := a) (xs := vs) (.inl (.inr ⟨oo, hx⟩))
    exact p.typeIs
  refine ⟨"tuple", "tuple.count", PySem.F.plainAttrs_tuple, PySem.F.slot_tuple_count, PySem.F.type_tuple_count, hT, fun b e => ?_, ?_⟩
  · cases e
    exact ⟨oo, hh.1, hd⟩
  have hA := ha.run cpos pins s1 σ H1 _ I1 q1
  rw [hs] at hA ⊢
  refine Calls.callWith_builtin (by show (false || (backTo cpos (starEach [] X.env)).any (·.1)) = false; rw [hplain] <;> rfl) (Calls.evalArgs_plain ?_)
  exact thn hA fun us s2 ⟨vs', H2, I2, r2, q2⟩ => mt_count hu I2 (show RelV (.ref a) (.ref a) from rfl) r2 q2
def cntP : O2 := fun _ x y k => match x with
  | .v (.xtp xs) => match y with
    | .v q => (okD (.tup xs) ∧ okD q) ∧ k (.int (xs.countP fun y => eqv y q : Nat))
    | _ => False
  | _ => False
def e2c (ma mb : FE) : FE := fun f M Q => ma f M fun x M1 => match x with
  | .v (.xtp xs) => mb f M1 fun y M2 => match y with
    | .v q => (okD (.tup xs) ∧ okD q) ∧ Q (.v (.int (xs.countP fun y => eqv y q : Nat))) M2
    | _ => False
  | _ => False
theorem re_cnt (hu : X.A.units + 128 < cLine) {o e : Expr} {m m2 : FE} {apos cpos : Pos} (ho : RE X o m) (he : RE X e m2)
    (hbase : attributeBase o "count" X.env (eval o X.env) = eval o X.env := by rfl)
    (hfew : ((backTo cpos (starEach [e] X.env)).all (fun x => !x.1) && (backToKw cpos (keywordEach [] X.env)).all (fun x => x.1.isSome)
      && decide (([e] : List Expr).length + ([] : List Keyword).length + (if ([] : List Keyword).isEmpty then 0 else 1) < 30)) = true := by rfl)
    (hline : (apos.endLine == cpos.line) = true := by rfl) (hs : starEach [e] X.env = (false, eval e X.env) :: starEach [] X.env := by rfl) (hplain : (backTo cpos (starEach [] X.env)).any (·.1) = false := by rfl) :
    RE X (.Call (.Attribute o "count" apos) [e] [] cpos) (e2c m m2) :=
  ⟨(pe_cnt hu ho.pe (pa_cons he.pe pa_nil hs) hbase hfew hline hs hplain).imp fun σ H Q ⟨G, B, f, M, Q', rep, hm, k⟩ => ⟨G, B, f, M, _, rep, hm, fun x M1 v H1 q rep1 r1 c1 => by
    split at q
    · rename_i xs
      have r2 : R X.K H1 B G.C (.xtp xs) v := r1
      have r3 := r2
      cases r2 with
      | @xtp a vs _ hx hr =>
      refine ⟨⟨a, vs, rfl, hx⟩, G, B, f, M1, _, rep1, q, fun y M2 w H2 q2 rep2 r2 c2 => ?_⟩
      split at q2
      · rename_i qq
        have r4 := R.evc r3 rep1 c2
        cases r4 with
        | @xtp _ vs2 _ hx2 hr2 =>
        exact ⟨B, G.C, a, vs2, xs, qq, w, rfl, hx2, hr2, rfl, r2, q2.1.1, q2.1.2, k _ _ _ _ q2.2 rep2 (R.int _) (c1.trans c2)⟩
      · exact q2.elim
    · exact q.elim⟩⟩
end
end Fl

namespace FlR
open PySem PySem.Spec PyProof.Rows
open PySem.AutoSeq1 (wpAny_loadPart')
open PySem.MeetsSeq PySem.MeetsSeq2 PySem.MeetsSeq3
set_option maxRecDepth 8000 in
theorem list_extend_tup (l : Addr) (items : Array Value) (n : Nat) (b : Addr) (items2 : Array Value) (n2 : Nat) (dd : Option Addr) (sl : Array (Option Value)) (hs0 : ¬(!items.isEmpty && Builtin.List.listTooLong (items.size + items2.size)) = true) (hs1 : items.size ≤ sizeLine) (hs2 : items.size + items2.size ≤ sizeLine + 1) :
    Meets (Builtin.«list.extend» ⟨[.ref l, .ref b], []⟩) (fun _ R s => s.heap.get? l = some { cls := .type "list", dict := none, data := .seq items n, slots := #[] } ∧ s.heap.get? b = some { cls := .type "tuple", dict := dd, data := .seq items2 n2, slots := sl } ∧ R (.ok (.ret Value.none)) { s with heap := s.heap.update l (Obj.mapSeq fun x => x ++ items2), toks := s.toks }) :=
  .of_wp fun prog w A R s h => by
    obtain ⟨hp, g, d, tk, os⟩ := s; obtain ⟨hl, hb, h⟩ := h; have f1 := PySem.AutoSeq1.idx_int; have f2 := PySem.AutoSeq1.sub_tuple_tuple; have f3 := PySem.AutoSeq1.sub_list_list; have f4 := PySem.AutoSeq1.sub_tuple_list; have f5 := PySem.AutoSeq1.sub_list_tuple
    have hz' : (items ++ items2).size ≤ sizeLine + 1 := by rw [Array.size_append]; exact hs2
    wp_walk using (wpAny_updateSeq hl rfl (hz := hs1) (_hz' := hz')), wpAny_loadPart' hl, wpAny_loadPart' hb; exact ⟨_, rfl, h⟩
end FlR
namespace Fl
open PySem PySem.Spec PyProof.Rows L2
section
variable {X : Cx}
/-! ### isinstance -/
inductive Ty5 where
  | tuple | list | bool | int | str
abbrev Ty5.nm : Ty5 → Str
  | .tuple => "tuple" | .list => "list" | .bool => "bool" | .int => "int" | .str => "str"
abbrev Ty5.tn : Ty5 → String
  | .tuple => "tuple" | .list => "list" | .bool => "bool" | .int => "int" | .str => "str"
def tyP : PV → String
  | .non => "NoneType"
  | .bl _ => "bool"
  | .int _ => "int"
  | .str _ => "str"
  | .tup _ => "tuple"
  | .lst _ => "list"
  | .fro _ => "list"
  | .cell _ => ""
  | .xtp _ => "tuple"
def isTy : Ty5 → PV → Bool
  | .tuple, .tup _ => true
  | .tuple, .xtp _ => true
  | .list, .lst _ => true
  | .list, .fro _ => true
  | .bool, .bl _ => true
  | .int, .int _ => true
  | .int, .bl _ => true
  | .str, .str _ => true
  | _, _ => false
def okI : EV → Prop
  | .v (.cell _) => False
  | _ => True
theorem isTy_kit : ∀ (T : Ty5) (p : PV), okI (.v p) → kitB (tyP p) T.tn = some (isTy T p) := by
  intro T p h
  cases T <;> cases p <;> first | exact h.elim | (simp only [tyP, isTy]; decide +kernel)
theorem tyX_tup {K : PySem.W.Frag} {H : Hp} {a : Addr} {vs : List V} (h : SqT K H a vs) : TyX K H (.ref a) (.type "tuple") := by
  rcases h with (h | ⟨o, h⟩) | ⟨o, its, n, h, hc, _⟩
  · exact .base (.tup h)
  · exact .fTuple h
  · exact .kTuple h hc
theorem tyX_of {K : PySem.W.Frag} {H : Hp} {B C : Addr → Prop} {p : PV} {v : V} (h : R K H B C p v) (ok : okI (.v p)) : TyX K H v (.type (tyP p)) := by
  cases h with
  | non => exact .base .non
  | bl b => exact .base (.bl b)
  | int i => exact .base (.int i)
  | str s => exact .base (.str s)
  | tup h _ => exact tyX_tup h
  | lst h _ => exact .base (.lst h.1)
  | fro h _ =>
    rcases h with ⟨o, h⟩ | ⟨o, its, n, h, hc, _⟩
    · exact .base (.frz h)
    · exact .kList h hc
  | cell _ => exact ok.elim
  | xtp h _ => exact tyX_tup h.sq
def eIsi (T : Ty5) (m : FE) : FE := fun f M Q => m f M fun x M1 => okI x ∧ Q (.v (.bl (isTy T (outP x)))) M1
theorem re_isi {e : Expr} {m : FE} {T : Ty5} {p p2 pos : Pos} (hg : Gl X "isinstance") (hm : X.mg "isinstance" = none) (hg2 : Gl X T.nm) (hm2 : X.mg T.nm = none) (hv : bootBuiltins T.nm = some (.type T.tn)) (he : RE X e m) (hn : T.nm ≠ "__name__" := by decide) (hd : (T.nm == ("__debug__" : Str)) = false := by decide)
    (hs : starEach [e, .Name T.nm p2] X.env = (false, eval e X.env) :: starEach [.Name T.nm p2] X.env := by rfl) (hs2 : starEach [.Name T.nm p2] X.env = (false, eval (.Name T.nm p2) X.env) :: starEach [] X.env := by rfl) (hpl : (backTo pos (starEach [.Name T.nm p2] X.env)).any (·.1) = false := by rfl) :
    RE X (.Call (.Name "isinstance" p) [e, .Name T.nm p2] [] pos) (eIsi T m) :=
  ⟨(pe_callB call_isi hg hm (by decide +kernel) (pa_cons he.pe (pa_cons (pe_bltn (v := .ty T.tn) hg2 hm2 hv rfl hn hd) pa_nil hs2) hs) (by decide) (by decide) hs hpl).imp fun σ H Q ⟨G, B, f, M, Q', rep, hm, k⟩ => ⟨G, B, f, M, _, rep, hm, fun x M1 v H1 q rep1 r1 c1 => by
    have ty : TyX X.K H1 v (.type (tyP (outP x))) ∧ okI (.v (outP x)) := by
      cases x with
      | v p => exact ⟨tyX_of (show R X.K H1 B G.C p v from r1) q.1, q.1⟩
      | b xs =>
        obtain ⟨a, vs, e, hb, hc, h0, ha, hr⟩ := r1
        subst e
        exact ⟨.base (.lst ha), trivial⟩
    exact ⟨v, .ty T.tn, _, _, _, rfl, .ty _, ty.1, kit_ty (isTy_kit T _ ty.2), k _ _ _ _ q.2 rep1 (R.bl _) c1⟩⟩⟩
/-! ### - of ints or of bools -/
def b2I (b : Bool) : Int := if b then 1 else 0
def subA : O2 := fun _ x y k => match x, y with
  | .v (.int i), .v (.int j) => k (.int (i - j))
  | .v (.bl a), .v (.bl b) => k (.int (b2I a - b2I b))
  | _, _ => False
theorem op_subB : OpR X (binaryOp .Sub) (fun x y H Q => ∃ a b, x = .bl a ∧ y = .bl b ∧ Q (.int (b2I a - b2I b)) H) := by
  intro pins s σ H x y v u Q I rx ry h
  obtain ⟨a, b, rfl, rfl, q⟩ := h
  cases rx
  cases ry
  refine PyProof.Rows.sub_bool ⟨.int _, H, I.tok _, ⟨_, rfl⟩, ?_⟩
  exact q
theorem subA_ok : ∃ r, OpR X (binaryOp .Sub) r ∧ Op2 X.K r subA := by
  refine ⟨_, op_sub.or op_subB, fun G B f M σ H x y v w k Q rep rx ry h fin => ?_⟩
  unfold subA at h
  split at h
  · cases rx
    cases ry
    exact .inl ⟨_, _, rfl, rfl, fin _ _ _ h rep (.int _) .refl⟩
  · cases rx
    cases ry
    exact .inr ⟨_, _, rfl, rfl, fin _ _ _ h rep (.int _) .refl⟩
  · exact h.elim
theorem re_subA {a b : Expr} {ma mb : FE} {pos : Pos} (ha : RE X a ma) (hb : RE X b mb) : RE X (.BinOp a .Sub b pos) (e2 subA ma mb) := let ⟨_, h, o⟩ := subA_ok (X := X); re_op h o ha hb
/-! ### in, not in -/
def flatP : PV → Bool
  | .non => true
  | .bl _ => true
  | .int _ => true
  | .str _ => true
  | _ => false
theorem flat_eq {K : PySem.W.Frag} {H H' : Hp} {B B' C C' : Addr → Prop} {p q : PV} {v w : V} (h : R K H B C p v) (h' : R K H' B' C' q w) (f : flatP p = true) (f' : flatP q = true) : eqV v w = eqv p q := by
  cases h <;> cases h' <;> first | (cases f; done) | (cases f'; done) | (simp only [eqV, eqv])
theorem flat_v {K : PySem.W.Frag} {H : Hp} {B C : Addr → Prop} {p : PV} {v : V} (h : R K H B C p v) (f : flatP p = true) : flatV v = true := by
  cases h <;> first | rfl | (cases f; done)
theorem flat_all {K : PySem.W.Frag} {H : Hp} {B C : Addr → Prop} : ∀ {xs : List PV} {vs : List V}, RL K H B C xs vs → xs.all flatP = true → vs.all flatV = true
  | _, _, .nil, _ => rfl
  | _, _, .cons h t, f => by
    rw [List.all_cons, Bool.and_eq_true] at f ⊢
    exact ⟨flat_v h f.1, flat_all t f.2⟩
theorem flat_any {K : PySem.W.Frag} {H H' : Hp} {B B' C C' : Addr → Prop} {q : PV} {w : V} (hq : R K H' B' C' q w) (fq : flatP q = true) : ∀ {xs : List PV} {vs : List V}, RL K H B C xs vs → xs.all flatP = true → (vs.any fun y => eqV y w) = xs.any fun y => eqv y q
  | _, _, .nil, _ => rfl
  | _, _, .cons h t, f => by
    rw [List.all_cons, Bool.and_eq_true] at f
    rw [List.any_cons, List.any_cons, flat_eq h hq f.1 fq, flat_any hq fq t f.2]
def inA (neg : Bool) : O2 := fun _ x y k => match x with
  | .v q => match seqP y with
    | some ys => (flatP q = true ∧ ys.all flatP = true) ∧ k (.bl (if neg then !(ys.any fun y => eqv y q) else ys.any fun y => eqv y q))
    | none => False
  | _ => False
theorem inA_ok {neg : Bool} : Op2 X.K (rIn X.K neg) (inA neg) := fun G B f M σ H x y v w k Q rep rx ry h fin => by
  unfold inA at h
  split at h
  · rename_i q
    split at h
    · rename_i ys hy
      obtain ⟨a, ws, e, hs, hr⟩ := rv_seq ry hy
      subst e
      have rx' : R X.K H B G.C q v := rx
      refine ⟨a, ws, rfl, hs, flat_v rx' h.1.1, flat_all hr h.1.2, ?_⟩
      unfold inV
      rw [flat_any rx' h.1.1 hr h.1.2]
      exact fin _ _ _ h.2 rep (R.bl _) .refl
    · exact h.elim
  · exact h.elim
theorem c_in (hu : X.A.units + 128 < cLine) : CmpR X .In (inA false) := ⟨_, op_in_seq, inA_ok⟩
theorem c_notin (hu : X.A.units + 128 < cLine) : CmpR X .NotIn (inA true) := ⟨_, op_notIn_seq, inA_ok⟩
/-! ### extend -/
def rExtA (K : PySem.W.Frag) : V → List V → Hp → VK → Prop := fun x vs H Q => ∃ l b xs zs, x = .ref l ∧ vs = [.ref b] ∧ H l = some (.lst xs) ∧ (H b = some (.lst zs) ∨ SqT K H b zs) ∧ xs.length + zs.length ≤ sizeLine ∧ Q .non (upd H l (.lst (xs ++ zs)))
theorem mt_extA : MtM X "list.extend" (rExtA X.K) := by
  intro pins s σ H x vs v us Q I rx rv h
  obtain ⟨l, b, xs, zs, rfl, rfl, hH, hB, hz, q⟩ := h
  rcases hB with hB | hB
  · exact mt_extend pins s σ H _ _ _ _ Q I rx rv ⟨l, b, xs, zs, rfl, rfl, hH, hB, hz, q⟩
  cases rx
  obtain ⟨u, rfl, ru⟩ := rv.one
  cases ru
  obtain ⟨z, its, n, r, hl, e⟩ := I.lstM hH
  obtain ⟨its2, r2, p2, z2⟩ := I.tuple hB
  obtain ⟨⟨cls, dd, data, sl⟩, ho, hc, n2, hd⟩ := id p2
  simp only at hc hd
  subst hc hd
  have hl2 := r2.length
  have hsz : its.toArray.size + its2.toArray.size ≤ sizeLine := by rw [List.size_toArray, List.size_toArray]; omega
  have hlong : ¬ (!its.toArray.isEmpty && Builtin.List.listTooLong (its.toArray.size + its2.toArray.size)) = true := by
    rw [notLongL hsz, Bool.and_false]
    exact Bool.false_ne_true
  refine call_meets F.slot_list_extend ⟨_, e, rfl⟩ F.entry_list_extend (F.args_list_extend_2 _ _)
    (FlR.list_extend_tup l its.toArray n b its2.toArray n2 dd sl hlong (by rw [List.size_toArray]; omega) (by omega)) ⟨e, ho, ?_⟩
  refine ⟨.non, _, I.lset (its' := its ++ its2) hH e (by simp) (r.append r2) ?_, rfl, q⟩
  rw [List.length_append]
  omega
def sExt (j : Nat) (m : FE) : FS := fun D f M => match gt f j with
  | some (.b xs) => m f M fun y M1 => match y with
    | .v (.tup ys) => xs.length + ys.length ≤ sizeLine ∧ D.nx (st f j (some (.b (xs ++ ys)))) M1
    | .v (.lst ys) => xs.length + ys.length ≤ sizeLine ∧ D.nx (st f j (some (.b (xs ++ ys)))) M1
    | _ => False
  | _ => False
theorem rs_ext {e : Expr} {m : FE} {pos : Pos} (j : Nat) {x : Str} {np apos cpos : Pos} (ho : PE X (.Name x np) (tVar j)) (he : RE X e m)
    (hbase : attributeBase (.Name x np) "extend" X.env (eval (.Name x np) X.env) = eval (.Name x np) X.env := by rfl)
    (hfew : ((backTo cpos (starEach (e :: []) X.env)).all (fun x => !x.1) && (backToKw cpos (keywordEach [] X.env)).all (fun x => x.1.isSome)
      && decide ((e :: []).length + ([] : List Keyword).length + (if ([] : List Keyword).isEmpty then 0 else 1) < 30)) = true := by rfl)
    (hline : (apos.endLine == cpos.line) = true := by rfl) (hst : starEach (e :: []) X.env = (false, eval e X.env) :: starEach [] X.env := by rfl) (hplain : (backTo cpos (starEach [] X.env)).any (·.1) = false := by rfl)
    (hs : swapsWith (.Call (.Attribute (.Name x np) "extend" apos) [e] [] cpos) none pos.line X.env = pure false := by rfl) : RS X (.Expr (.Call (.Attribute (.Name x np) "extend" apos) [e] [] cpos) pos) (sExt j m) := by
  refine ⟨(ps_expr (pe_bm PySem.F.plainAttrs_list PySem.F.slot_list_extend PySem.F.type_list_extend mt_extA ho (pa_cons he.pe pa_nil hst) hbase hfew hline hst hplain) hs).imp fun D σ H ⟨G, B, f, M, D', rep, hm, k⟩ => ?_⟩
  unfold sExt at hm
  split at hm
  · rename_i xs hj
    obtain ⟨a, vs, e1, ha, hr, hc⟩ := rep.lst hj
    refine ⟨_, e1, tyV_lst ha, G, B, f, M, _, rep, hm, fun y M1 w H1 q rep1 r1 c1 => ?_⟩
    obtain ⟨a', vs', e1', ha', hr', _⟩ := rep1.lst hj
    rw [e1] at e1'
    cases e1'
    split at q
    · rename_i ys
      have r2 : R X.K H1 B G.C (.tup ys) w := r1
      cases r2 with
      | @tup b ws _ hq hr2 =>
      refine ⟨a, b, vs', ws, rfl, rfl, ha', .inr hq, by rw [← hr'.length, ← hr2.length]; exact q.1, ?_⟩
      exact k.nx _ _ _ _ _ q.2 (rep1.wrB e1 hj (hr'.append hr2))
    · rename_i ys
      have r2 : R X.K H1 B G.C (.lst ys) w := r1
      cases r2 with
      | @lst b ws _ hq hr2 =>
      refine ⟨a, b, vs', ws, rfl, rfl, ha', .inl hq.1, by rw [← hr'.length, ← hr2.length]; exact q.1, ?_⟩
      exact k.nx _ _ _ _ _ q.2 (rep1.wrB e1 hj (hr'.append hr2))
    · exact q.elim
  · exact hm.elim
theorem c_eqX (hu : X.A.units + 128 < cLine) : CmpR X .Eq eqA := c_eqA (by omega)
theorem c_neX (hu : X.A.units + 128 < cLine) : CmpR X .NotEq neA := c_neA (by omega)
end
theorem _root_.L2.Room.u128 {k : Nat} {A : Around} (r : Room k A) : A.units + 128 < cLine := by have := r.un; omega
end Fl

/-! Fl: f(g(..)): g makes a new list, f changes it, and nobody else sees it -/
namespace Fl
open PySem PySem.Spec PyProof.Rows L2
mutual
theorem R.noLC {K : PySem.W.Frag} {H : Hp} {B B' C C' : Addr → Prop} (w : ∀ a, C a → C' a) : ∀ {x : PV} {v : V}, R K H B C x v → Fl.noL x = true → R K H B' C' x v
  | _, _, .non, _ => .non
  | _, _, .bl b, _ => .bl b
  | _, _, .int i, _ => .int i
  | _, _, .str s, _ => .str s
  | _, _, .tup h t, q => .tup h (RL.noLC w t ((noL_tup _).symm.trans q))
  | _, _, .lst h t, q => by rw [Fl.noL] at q; cases q
  | _, _, .fro h t, q => .fro h (RL.noLC w t ((noL_fro _).symm.trans q))
  | _, _, .cell h, _ => .cell (w _ h)
  | _, _, .xtp h t, q => by rw [Fl.noL] at q; cases q
theorem RL.noLC {K : PySem.W.Frag} {H : Hp} {B B' C C' : Addr → Prop} (w : ∀ a, C a → C' a) : ∀ {xs : List PV} {vs : List V}, RL K H B C xs vs → noLs xs = true → RL K H B' C' xs vs
  | _, _, .nil, _ => .nil
  | _, _, .cons h t, q => .cons (R.noLC w h ((Bool.and_eq_true_iff.mp ((noLs_cons _ _).symm.trans q)).1)) (RL.noLC w t ((Bool.and_eq_true_iff.mp ((noLs_cons _ _).symm.trans q)).2))
end
def oneM (a : Addr) (zs : List PV) : Sto := fun b => if b = a then some zs else none
def newL (psr : PSp) (k : Bool → Prop) (p : PV) : Prop := match p with
  | .lst zs => noLs zs = true ∧ ∀ a, psr [.cell a] (oneM a zs) fun r _ => ∃ b, r = .bl b ∧ k b
  | _ => False
def eCallN (psr pss : PSp) (ta : FA) : FE := fun f M Q => ta f M fun xs M1 => (∀ a, M1 a = none) ∧ match pvs xs with
  | some ys => noLs ys = true ∧ pss ys M1 fun p _ => newL psr (fun b => Q (.v (.bl b)) M1) p
  | none => False
section
variable {X : Cx} {CX CX2 : CXT} {k k2 : Nat} {fa fa2 : Addr} {fd fd2 : FuncData} {ps ps2 : List Str} {psp psp2 : PSp} {E E2 : XK} {x x2 : Str} {p p2 pos pos2 : Pos} {e : Expr} {es : List Expr} {t : FA}
theorem re_callN (F : FnOk X.prog X.w X.K X.mg X.base CX k fa fd ps (spOf X.K psp)) (hr : Room k X.A) (hg : Gl X x) (hm : X.mg x = some (.ref fa)) (hk : PySem.W.keepIn X.K (.ref fa) = true) (hb : Binds X.K fd ps []) (hx : Passes CX X E)
    (F2 : FnOk X.prog X.w X.K X.mg X.base CX2 k2 fa2 fd2 ps2 (spOf X.K psp2)) (hr2 : Room k2 X.A) (hg2 : Gl X x2) (hm2 : X.mg x2 = some (.ref fa2)) (hk2 : PySem.W.keepIn X.K (.ref fa2) = true) (hb2 : Binds X.K fd2 ps2 []) (hx2 : Passes CX2 X E2)
    (ha : RA X (e :: es) t) (hdb : (x == ("__debug__" : Str)) = false := by decide) (hdb2 : (x2 == ("__debug__" : Str)) = false := by decide)
    (he : starEach (e :: es) X.env = (false, eval e X.env) :: starEach es X.env := by rfl) (hpl : (backTo pos2 (starEach es X.env)).any (·.1) = false := by rfl)
    (he1 : starEach [.Call (.Name x2 p2) (e :: es) [] pos2] X.env = (false, eval (.Call (.Name x2 p2) (e :: es) [] pos2) X.env) :: starEach [] X.env := by rfl) (hpl1 : (backTo pos (starEach [] X.env)).any (·.1) = false := by rfl) :
    RE X (.Call (.Name x p) [.Call (.Name x2 p2) (e :: es) [] pos2] [] pos) (eCallN psp psp2 t) := by
  refine ⟨(pe_call F hr hg hm hk hb .nil hx (pa_cons (pe_call F2 hr2 hg2 hm2 hk2 hb2 .nil hx2 ha.pa hdb2 he hpl) pa_nil he1) hdb he1 hpl1).imp fun σ H Q ⟨G, B, f, M, Q', rep, hm, k⟩ => ?_⟩
  refine ⟨G, B, f, M, _, rep, hm, fun xs M1 vs H1 ⟨hM, q⟩ hl rep1 r1 c1 => ?_⟩
  show spOf X.K psp2 (vs ++ []) H1 (fun v H2 => spOf X.K psp ([v] ++ []) H2 Q E) E2
  rw [List.append_nil]
  split at q
  · rename_i ys hys
    have hC : ∀ a, G.C a → False := fun a h => by
      obtain ⟨us, ws, h1, _⟩ := (rep1.cells a).1 h
      rw [hM a] at h1
      cases h1
    refine ⟨fun a => Mut (H1 a), fun _ => False, M1, ys, _, fun a h => h.elim, fun a h => h, fun a => ⟨fun h => h.elim, fun _ => hM a⟩, (pvs_rl r1 hys).noLC hC q.1, q.2, fun p' M2 v H2 h2 cs r2 c2 => ?_⟩
    have keep1 : ∀ a o, H1 a = some o → H2 a = some o := fun a o h => c2 a o h fun z => z
    match p', h2, r2 with
    | .lst zs, h2, r2 => ?_
    cases r2 with
    | @lst a us zs' sq rl =>
    have fresh : H1 a = none := by
      cases z : H1 a with
      | none => rfl
      | some o =>
        refine (sq.2 ?_).elim
        show Mut (H1 a)
        have := keep1 a o z
        rw [sq.1] at this
        cases this
        rw [z]
        trivial
    refine ⟨fun b => b = a, fun b => b = a, oneM a zs, [.cell a], _, fun b h => h, fun b h => ?_, fun b => ⟨fun h => ⟨zs, us, ?_, ?_, rl.noLC (fun _ z => z.elim) h2.1⟩, fun h => if_neg h⟩, .cons (.cell rfl) .nil, h2.2 a, fun r M3 w H3 h3 cs3 r3 c3 => ?_⟩
    · subst h
      show Mut (H2 b)
      rw [sq.1]
      trivial
    · exact if_pos h
    · rw [h]; exact sq.1
    · obtain ⟨b, e1, hq⟩ := h3
      subst e1
      have gr : ∀ c o, H1 c = some o → H3 c = some o := fun c o h => c3 c o (keep1 c o h) fun z => by
        subst z
        rw [fresh] at h
        cases h
      cases r3
      exact k _ _ _ _ hq (rep1.grow gr) (R.bl b) (c1.trans fun c o h _ => gr c o h)
  · exact q.elim
end
section
variable {X : Cx} {k k2 j : Nat} {x x2 : Str} {ps ps2 : List Str} {psp psp2 : PSp} {p p2 pos pos2 : Pos} {e : Expr} {es : List Expr} {t : FA}
theorem rclN (c : Cal X.prog X.w X.K X.mg X.base k x ps psp) (c2 : Cal X.prog X.w X.K X.mg X.base k2 x2 ps2 psp2) (hr : Room j X.A) (ha : RA X (e :: es) t) (hkj : k ≤ j := by decide) (hkj2 : k2 ≤ j := by decide) (hg : Gl X x := by rfl) (hg2 : Gl X x2 := by rfl)
    (hdb : (x == ("__debug__" : Str)) = false := by decide) (hdb2 : (x2 == ("__debug__" : Str)) = false := by decide)
    (he : starEach (e :: es) X.env = (false, eval e X.env) :: starEach es X.env := by rfl) (hpl : (backTo pos2 (starEach es X.env)).any (·.1) = false := by rfl)
    (he1 : starEach [.Call (.Name x2 p2) (e :: es) [] pos2] X.env = (false, eval (.Call (.Name x2 p2) (e :: es) [] pos2) X.env) :: starEach [] X.env := by rfl) (hpl1 : (backTo pos (starEach [] X.env)).any (·.1) = false := by rfl) :
    RE X (.Call (.Name x p) [.Call (.Name x2 p2) (e :: es) [] pos2] [] pos) (eCallN psp psp2 t) := let ⟨_, _, F, m, kp, b⟩ := c.ex; let ⟨_, _, F2, m2, kp2, b2⟩ := c2.ex
  re_callN F (hr.mono hkj) hg m kp b pass0 F2 (hr.mono hkj2) hg2 m2 kp2 b2 pass0 ha hdb hdb2 he hpl he1 hpl1
end
end Fl

/-! words of digits: values, normal forms. Plain maths. -/
namespace Fl
open PySem PySem.Spec PyProof.Rows L2
/-- the value of a word, the ones first -/
def vl (b : Int) : List Int → Int
  | [] => 0
  | d :: r => d + b * vl b r
/-- digits from lo to lo + |b| - 1; the last one not z -/
def okD1 (lo s : Int) (l : List Int) : Prop := ∀ d ∈ l, lo ≤ d ∧ d < lo + s
def topOk : List Int → Prop
  | [] => True
  | [d] => d ≠ 0
  | _ :: e :: r => topOk (e :: r)
theorem topOk_cons {d e : Int} {r : List Int} : topOk (d :: e :: r) = topOk (e :: r) := rfl
theorem topOk_tail {d : Int} {r : List Int} (h : topOk (d :: r)) : topOk r := by
  cases r with
  | nil => exact trivial
  | cons e r => exact h
/-- one residue, one digit -/
theorem digit_eq {lo s b d d' r r' : Int} (hb : b = s ∨ b = -s) (h1 : lo ≤ d ∧ d < lo + s) (h2 : lo ≤ d' ∧ d' < lo + s) (e : d + b * r = d' + b * r') : d = d' ∧ (b ≠ 0 → r = r') := by
  have e1 : d - d' = b * (r' - r) := by rw [Int.mul_sub]; omega
  have e2 : d = d' := by
    by_cases hz : r' - r = 0
    · rw [hz, Int.mul_zero] at e1; omega
    · exfalso
      have : s ≤ (d - d').natAbs := by
        rw [e1, Int.natAbs_mul]
        have h3 : 1 ≤ (r' - r).natAbs := by omega
        have h4 : s ≤ b.natAbs := by rcases hb with h | h <;> omega
        have h5 : b.natAbs * 1 ≤ b.natAbs * (r' - r).natAbs := Nat.mul_le_mul_left _ h3
        omega
      omega
  refine ⟨e2, fun hb0 => ?_⟩
  have e3 : b * (r' - r) = 0 := by omega
  rcases Int.mul_eq_zero.mp e3 with h | h
  · exact absurd h hb0
  · omega
theorem vl_zero {s b : Int} (hb : b = s ∨ b = -s) (hs : 2 ≤ s) : ∀ {l : List Int}, okD1 0 s l → topOk l → vl b l = 0 → l = []
  | [], _, _, _ => rfl
  | d :: r, h, ht, e => by
    exfalso
    have hd := h d (by simp)
    have e' : d + b * vl b r = 0 + b * 0 := by rw [Int.mul_zero]; exact e
    obtain ⟨q1, q2⟩ := digit_eq hb hd ⟨Int.le_refl _, by omega⟩ e'
    have q3 := q2 (by rcases hb with h | h <;> omega)
    have q4 := vl_zero hb hs (fun x hx => h x (by simp [hx])) (topOk_tail ht) q3
    subst q4
    exact ht q1
/-- one value, one word: base b or -b -/
theorem vl_inj {s b : Int} (hb : b = s ∨ b = -s) (hs : 2 ≤ s) : ∀ {l l' : List Int}, okD1 0 s l → topOk l → okD1 0 s l' → topOk l' → vl b l = vl b l' → l = l'
  | [], l', _, _, h, ht, e => (vl_zero hb hs h ht e.symm).symm
  | d :: r, [], h, ht, _, _, e => vl_zero hb hs h ht e
  | d :: r, d' :: r', h, ht, h', ht', e => by
    obtain ⟨q1, q2⟩ := digit_eq hb (h d (by simp)) (h' d' (by simp)) e
    have q3 := q2 (by rcases hb with h | h <;> omega)
    rw [q1, vl_inj hb hs (fun x hx => h x (by simp [hx])) (topOk_tail ht) (fun x hx => h' x (by simp [hx])) (topOk_tail ht') q3]
theorem vl_pos {b : Int} (hb : 1 ≤ b) : ∀ {l : List Int}, okD1 1 b l → 0 ≤ vl b l ∧ (vl b l = 0 → l = [])
  | [], _ => ⟨Int.le_refl _, fun _ => rfl⟩
  | d :: r, h => by
    have hd := h d (by simp)
    have ih := (vl_pos hb (l := r) fun x hx => h x (by simp [hx])).1
    have : 0 ≤ b * vl b r := Int.mul_nonneg (by omega) ih
    constructor
    · show 0 ≤ d + b * vl b r; omega
    · intro e
      have : d + b * vl b r = 0 := e
      omega
/-- one value, one word of digits 1 .. b -/
theorem vl_inj1 {b : Int} (hb : 2 ≤ b) : ∀ {l l' : List Int}, okD1 1 b l → okD1 1 b l' → vl b l = vl b l' → l = l'
  | [], l', _, h, e => ((vl_pos (by omega) h).2 e.symm).symm
  | d :: r, [], h, _, e => (vl_pos (by omega) h).2 e
  | d :: r, d' :: r', h, h', e => by
    obtain ⟨q1, q2⟩ := digit_eq (.inl rfl) (h d (by simp)) (h' d' (by simp)) e
    rw [q1, vl_inj1 hb (fun x hx => h x (by simp [hx])) (fun x hx => h' x (by simp [hx])) (q2 (by omega))]
theorem vl_nonneg {b : Int} (hb : 0 ≤ b) : ∀ {l : List Int}, (∀ d ∈ l, 0 ≤ d) → 0 ≤ vl b l
  | [], _ => Int.le_refl _
  | d :: r, h => by
    have hd := h d (by simp)
    have ih := vl_nonneg hb (l := r) fun x hx => h x (by simp [hx])
    have : 0 ≤ b * vl b r := Int.mul_nonneg hb ih
    show 0 ≤ d + b * vl b r
    omega
theorem vl_append {b : Int} : ∀ (l r : List Int), vl b (l ++ r) = vl b l + b ^ l.length * vl b r
  | [], r => by show vl b r = 0 + b ^ 0 * vl b r; rw [Int.pow_zero]; omega
  | d :: l, r => by
    show d + b * vl b (l ++ r) = d + b * vl b l + b ^ (l.length + 1) * vl b r
    rw [vl_append l r, Int.pow_succ, Int.mul_add]
    have : b * (b ^ l.length * vl b r) = b ^ l.length * b * vl b r := by rw [← Int.mul_assoc, Int.mul_comm b (b ^ l.length)]
    omega
/-- the value of a word, the highest first -/
def valL (b : Int) (w : List Int) : Int := w.foldl (fun a d => a * b + d) 0
theorem foldl_vl {b : Int} : ∀ (w : List Int) (a : Int), w.foldl (fun a d => a * b + d) a = vl b w.reverse + b ^ w.length * a
  | [], a => by show a = 0 + b ^ 0 * a; rw [Int.pow_zero]; omega
  | d :: w, a => by
    show w.foldl _ (a * b + d) = vl b (d :: w).reverse + b ^ (w.length + 1) * a
    rw [foldl_vl w, List.reverse_cons, vl_append, List.length_reverse]
    show _ = vl b w.reverse + b ^ w.length * (d + b * 0) + _
    rw [Int.mul_zero, Int.add_zero, Int.mul_add, Int.pow_succ]
    have : b ^ w.length * (a * b) = b ^ w.length * b * a := by rw [Int.mul_comm a b, Int.mul_assoc]
    omega
theorem valL_vl (b : Int) (w : List Int) : valL b w = vl b w.reverse := by
  unfold valL
  rw [foldl_vl, Int.mul_zero, Int.add_zero]
/-- the digits of n in the base b, the ones first -/
def lowd (b n : Int) : List Int := if h : 0 < n ∧ 2 ≤ b then n % b :: lowd b (n / b) else []
termination_by n.toNat
decreasing_by
  have h1 := h.1
  have h2 : n / b < n := by
    apply Int.ediv_lt_of_lt_mul (by omega)
    have := Int.mul_le_mul_of_nonneg_left h.2 (by omega : 0 ≤ n)
    omega
  have h3 : 0 ≤ n / b := Int.ediv_nonneg (by omega) (by omega)
  omega
theorem div_lt {n b : Int} (h1 : 0 < n) (h2 : 2 ≤ b) : n / b < n ∧ 0 ≤ n / b := by
  refine ⟨?_, Int.ediv_nonneg (by omega) (by omega)⟩
  apply Int.ediv_lt_of_lt_mul (by omega)
  have := Int.mul_le_mul_of_nonneg_left h2 (by omega : 0 ≤ n)
  omega
theorem lowd_pos {b n : Int} (h1 : 0 < n) (h2 : 2 ≤ b) : lowd b n = n % b :: lowd b (n / b) := by
  rw [lowd, dif_pos ⟨h1, h2⟩]
theorem lowd_zero {b n : Int} (h : n ≤ 0) : lowd b n = [] := by
  rw [lowd, dif_neg (by omega)]
theorem lowd_ok {b : Int} (hb : 2 ≤ b) : ∀ (k : Nat) {n : Int}, n.toNat ≤ k → 0 ≤ n → okD1 0 b (lowd b n) ∧ topOk (lowd b n) ∧ vl b (lowd b n) = n
  | 0, n, hk, h0 => by
    rw [lowd_zero (by omega)]
    exact ⟨fun d hd => (by simp at hd), trivial, by show (0 : Int) = n; omega⟩
  | k + 1, n, hk, h0 => by
    by_cases h : 0 < n
    · rw [lowd_pos h hb]
      have hd := div_lt h hb
      obtain ⟨i1, i2, i3⟩ := lowd_ok hb k (n := n / b) (by omega) hd.2
      have e1 := Int.emod_nonneg n (by omega : b ≠ 0)
      have e2 := Int.emod_lt_of_pos n (by omega : 0 < b)
      have e3 := Int.emod_add_mul_ediv n b
      refine ⟨fun d hd => ?_, ?_, ?_⟩
      · rcases List.mem_cons.mp hd with q | q
        · rw [q]; omega
        · exact i1 d q
      · cases hl : lowd b (n / b) with
        | nil =>
          rw [hl] at i3
          have : n / b = 0 := i3.symm
          rw [this, Int.mul_zero] at e3
          show n % b ≠ 0
          omega
        | cons e r =>
          rw [hl] at i2
          exact i2
      · show n % b + b * vl b (lowd b (n / b)) = n
        rw [i3]
        exact e3
    · rw [lowd_zero (by omega)]
      exact ⟨fun d hd => (by simp at hd), trivial, by show (0 : Int) = n; omega⟩
theorem lowd_dig {b n : Int} (hb : 2 ≤ b) (h0 : 0 ≤ n) : okD1 0 b (lowd b n) := (lowd_ok hb _ (Nat.le_refl _) h0).1
theorem lowd_top {b n : Int} (hb : 2 ≤ b) (h0 : 0 ≤ n) : topOk (lowd b n) := (lowd_ok hb _ (Nat.le_refl _) h0).2.1
theorem lowd_val {b n : Int} (hb : 2 ≤ b) (h0 : 0 ≤ n) : vl b (lowd b n) = n := (lowd_ok hb _ (Nat.le_refl _) h0).2.2
/-- what is a word in normal form is the word of its value -/
theorem lowd_of {b : Int} {l : List Int} (hb : 2 ≤ b) (h : okD1 0 b l) (ht : topOk l) : l = lowd b (vl b l) := by
  have h0 : 0 ≤ vl b l := vl_nonneg (by omega) fun d hd => (h d hd).1
  exact vl_inj (.inl rfl) hb h ht (lowd_dig hb h0) (lowd_top hb h0) (lowd_val hb h0).symm
theorem vl_lt {b : Int} (hb : 1 ≤ b) : ∀ {l : List Int}, okD1 0 b l → vl b l < b ^ l.length
  | [], _ => by show (0 : Int) < b ^ 0; rw [Int.pow_zero]; omega
  | d :: r, h => by
    have hd := h d (by simp)
    have ih := vl_lt hb (l := r) fun x hx => h x (by simp [hx])
    show d + b * vl b r < b ^ (r.length + 1)
    rw [Int.pow_succ]
    have : b * (vl b r + 1) ≤ b * b ^ r.length := Int.mul_le_mul_of_nonneg_left (by omega) (by omega)
    rw [Int.mul_add, Int.mul_one, Int.mul_comm b (b ^ r.length)] at this
    omega
/-- how long: at most as many as the twos -/
theorem lowd_len {b : Int} (hb : 2 ≤ b) : ∀ (k : Nat) {n : Int}, 0 ≤ n → n < 2 ^ k → (lowd b n).length ≤ k
  | 0, n, h0, h => by
    rw [Int.pow_zero] at h
    rw [lowd_zero (by omega)]
    exact Nat.le_refl _
  | k + 1, n, h0, h => by
    by_cases hp : 0 < n
    · rw [lowd_pos hp hb, List.length_cons]
      have hd := div_lt hp hb
      have : n / b < 2 ^ k := by
        apply Int.ediv_lt_of_lt_mul (by omega)
        rw [Int.pow_succ] at h
        have := Int.mul_le_mul_of_nonneg_left hb (Int.pow_nonneg (by omega : (0 : Int) ≤ 2) : (0 : Int) ≤ 2 ^ k)
        omega
      have := lowd_len hb k hd.2 this
      omega
    · rw [lowd_zero (by omega)]
      exact Nat.zero_le _
def digs (b n : Int) : List Int := (lowd b n).reverse
theorem digs_val {b n : Int} (hb : 2 ≤ b) (h0 : 0 ≤ n) : valL b (digs b n) = n := by
  rw [valL_vl, digs, List.reverse_reverse, lowd_val hb h0]
/-- a word, the highest first, in normal form -/
def wOk (b : Int) (w : List Int) : Prop := okD1 0 b w ∧ ∀ d r, w = d :: r → d ≠ 0
theorem topOk_snoc : ∀ (l : List Int) (d : Int), topOk (l ++ [d]) ↔ d ≠ 0
  | [], d => Iff.rfl
  | [x], d => Iff.rfl
  | x :: y :: l, d => topOk_snoc (y :: l) d
theorem wOk_iff {b : Int} {w : List Int} : wOk b w ↔ okD1 0 b w.reverse ∧ topOk w.reverse := by
  constructor
  · rintro ⟨h1, h2⟩
    refine ⟨fun d hd => h1 d (List.mem_reverse.mp hd), ?_⟩
    cases w with
    | nil => exact trivial
    | cons d r =>
      rw [List.reverse_cons, topOk_snoc]
      exact h2 d r rfl
  · rintro ⟨h1, h2⟩
    refine ⟨fun d hd => h1 d (List.mem_reverse.mpr hd), fun d r e => ?_⟩
    rw [e, List.reverse_cons, topOk_snoc] at h2
    exact h2
theorem digs_ok {b n : Int} (hb : 2 ≤ b) (h0 : 0 ≤ n) : wOk b (digs b n) := by
  rw [wOk_iff, digs, List.reverse_reverse]
  exact ⟨lowd_dig hb h0, lowd_top hb h0⟩
theorem digs_of {b : Int} {w : List Int} (hb : 2 ≤ b) (h : wOk b w) : w = digs b (valL b w) := by
  rw [wOk_iff] at h
  rw [valL_vl, digs, ← lowd_of hb h.1 h.2, List.reverse_reverse]
theorem digs_len {b n : Int} {k : Nat} (hb : 2 ≤ b) (h0 : 0 ≤ n) (h : n < 2 ^ k) : (digs b n).length ≤ k := by
  rw [digs, List.length_reverse]
  exact lowd_len hb k h0 h
end Fl

/-! k00: what each def promises -/
namespace Fl
open PySem PySem.Spec PyProof.Rows L2
def g_LIMIT : Int := 10 ^ 400
def BB : Int := 2 ^ 1000
theorem BB_lim {n : Int} (h : n < BB) : n < g_LIMIT := by
  have : BB ≤ g_LIMIT := by unfold BB g_LIMIT; decide
  omega
theorem BB_pos : 0 < BB := by unfold BB; decide
theorem BB_nat {n : Int} (h : n < BB) : n < 2 ^ 1000 := h
theorem line1 : 16777216 ≤ sizeLine := by rw [sizeLine_eq]; omega
def pInts (l : List Int) : PV := .tup (l.map .int)
def lInts (l : List Int) : PV := .lst (l.map .int)
def isW (w : PV) (l : List Int) : Prop := w = .tup (l.map .int) ∨ w = .lst (l.map .int)
def okS (M : Sto) (a : Addr) : Prop := ∃ s0 s1 : Int, M a = some [.int s0, .int s1] ∧ 0 ≤ s1 ∧ s1 < 2 ^ 60
def areD (b : Int) (l : List Int) : Bool := !(l.any fun d => !(decide (0 ≤ d) && decide (d < b))) && (l.isEmpty || !decide (l.headD 0 = 0))
def areO (b : Int) (l : List Int) : Bool := !(l.any fun d => !(decide (1 ≤ d) && decide (d ≤ b)))
theorem areD_iff {b : Int} {l : List Int} : areD b l = true ↔ wOk b l := by
  unfold areD wOk okD1
  rw [Bool.and_eq_true, Bool.not_eq_true', List.any_eq_false]
  constructor
  · rintro ⟨h1, h2⟩
    refine ⟨fun d hd => ?_, fun d r e => ?_⟩
    · have := h1 d hd
      simp at this
      omega
    · subst e
      simpa using h2
  · rintro ⟨h1, h2⟩
    refine ⟨fun d hd => ?_, ?_⟩
    · have := h1 d hd
      simp
      omega
    · cases l with
      | nil => rfl
      | cons d r => simpa using h2 d r rfl
theorem areO_iff {b : Int} {l : List Int} : areO b l = true ↔ okD1 1 b l := by
  unfold areO okD1
  rw [Bool.not_eq_true', List.any_eq_false]
  constructor
  · intro h1 d hd
    have := h1 d hd
    simp at this
    omega
  · intro h1 d hd
    have := h1 d hd
    simp
    omega
def sgn (a b : Int) : Int := if b < a then 1 else if a < b then -1 else 0
/-- carries and digits of a sum, of a product with a factor: words with the ones first -/
def crs (b : Int) : Int → List Int → List Int → List Int
  | c, x :: xs, y :: ys => (x + y + c) / b :: crs b ((x + y + c) / b) xs ys
  | _, _, _ => []
def scr (b f : Int) : Int → List Int → List Int
  | _, [] => []
  | c, x :: xs => (x * f + c) / b :: scr b f ((x * f + c) / b) xs
def pad (n : Nat) (l : List Int) : List Int := List.replicate (n - l.length) 0 ++ l
def carL (b : Int) (l1 l2 : List Int) : List Int := 0 :: crs b 0 (pad (max l1.length l2.length) l1).reverse (pad (max l1.length l2.length) l2).reverse

def sp_power : PSp := fun args M Q => match args with
  | [.int b, .int e] => (0 ≤ b ∧ b ≤ 1000 ∧ 0 ≤ e ∧ e ≤ 5) ∧ Q (.int (b ^ e.toNat)) M
  | _ => False
def sp_checked : PSp := fun args M Q => match args with
  | [.int n] => (-g_LIMIT < n ∧ n < g_LIMIT) ∧ Q (.int n) M
  | _ => False
def sp_natural : PSp := fun args M Q => match args with
  | [.int n] => (0 ≤ n ∧ n < g_LIMIT) ∧ Q (.int n) M
  | _ => False
def sp_base_of : PSp := fun args M Q => match args with
  | [.int b] => (2 ≤ b ∧ b ≤ 1000) ∧ Q (.int b) M
  | _ => False
def sp_digits : PSp := fun args M Q => match args with
  | [.int b, .int n] => (2 ≤ b ∧ b ≤ 1000 ∧ 0 ≤ n ∧ n < BB) ∧ Q (pInts (digs b n)) M
  | _ => False
def sp_are_digits_bases : PSp := fun args M Q => match args with
  | [.int b, w] => ∃ l, isW w l ∧ l.length ≤ sizeLine ∧ Q (.bl (areD b l)) M
  | _ => False
def sp_checked_digits : PSp := fun args M Q => match args with
  | [.int b, w] => ∃ l, isW w l ∧ (l.length ≤ sizeLine ∧ 2 ≤ b ∧ b ≤ 1000 ∧ wOk b l) ∧ Q (pInts l) M
  | _ => False
def sp_value_bases : PSp := fun args M Q => match args with
  | [.int b, w] => ∃ l, isW w l ∧ (-(2 ^ 64) < b ∧ b < 2 ^ 64) ∧ Q (.int (valL b l)) M
  | _ => False
def sp_value_signed : PSp := sp_value_bases
def sp_added_bases : PSp := fun args M Q => match args with
  | [.int b, w1, w2] => ∃ l1 l2, isW w1 l1 ∧ isW w2 l2 ∧ (l1.length ≤ 2000 ∧ l2.length ≤ 2000 ∧ 2 ≤ b ∧ b ≤ 1000 ∧ wOk b l1 ∧ wOk b l2) ∧
      Q (.tup [.str "sum", pInts l1, pInts l2, pInts (carL b l1 l2), pInts (digs b (valL b l1 + valL b l2))]) M
  | _ => False
def sp_less : PSp := fun args M Q => match args with
  | [.int b, w1, w2] => ∃ l1 l2, isW w1 l1 ∧ isW w2 l2 ∧ (l1.length ≤ 2000 ∧ l2.length ≤ 2000 ∧ 2 ≤ b ∧ b ≤ 1000 ∧ wOk b l1 ∧ wOk b l2 ∧ valL b l2 ≤ valL b l1 ∧ valL b l1 < BB) ∧
      Q (pInts (digs b (valL b l1 - valL b l2))) M
  | _ => False
def sp_scaled : PSp := fun args M Q => match args with
  | [.int b, w, .int f] => ∃ l, isW w l ∧ (l.length ≤ 2000 ∧ 2 ≤ b ∧ b ≤ 1000 ∧ wOk b l ∧ 0 ≤ f ∧ f < BB) ∧
      Q (.tup [pInts (0 :: scr b f 0 l.reverse), pInts (digs b (valL b l * f))]) M
  | _ => False
def sp_in_other : PSp := fun args M Q => match args with
  | [.int b, w, .int o] => ∃ l, isW w l ∧ (l.length ≤ 2000 ∧ 2 ≤ b ∧ b ≤ 1000 ∧ 2 ≤ o ∧ o ≤ 1000 ∧ wOk b l ∧ valL b l < BB) ∧ Q (pInts (digs o (valL b l))) M
  | _ => False
def sp_compared_bases : PSp := fun args M Q => match args with
  | [w1, w2] => ∃ l1 l2 b, isW w1 l1 ∧ isW w2 l2 ∧ (l1.length ≤ 2000 ∧ l2.length ≤ 2000 ∧ 2 ≤ b ∧ wOk b l1 ∧ wOk b l2) ∧ Q (.int (sgn (valL b l1) (valL b l2))) M
  | _ => False
def sp_blocks : PSp := fun args M Q => match args with
  | [.int b, w, .int s] => ∃ l, isW w l ∧ (l.length ≤ 2000 ∧ 2 ≤ b ∧ b ≤ 1000 ∧ 1 ≤ s ∧ s ≤ 5 ∧ wOk b l) ∧ Q (pInts (digs (b ^ s.toNat) (valL b l))) M
  | _ => False
def sp_unblocked : PSp := fun args M Q => match args with
  | [.int b, w, .int s] => ∃ l, isW w l ∧ (l.length ≤ 2000 ∧ 2 ≤ b ∧ b ≤ 1000 ∧ 1 ≤ s ∧ s ≤ 5 ∧ wOk (b ^ s.toNat) l) ∧ Q (pInts (digs b (valL (b ^ s.toNat) l))) M
  | _ => False
end Fl

/-! k00: sums with carries. Plain maths. -/
namespace Fl
open PySem PySem.Spec PyProof.Rows L2
def dgs (b : Int) : Int → List Int → List Int → List Int
  | c, x :: xs, y :: ys => (x + y + c) % b :: dgs b ((x + y + c) / b) xs ys
  | _, _, _ => []
def crl (b : Int) : Int → List Int → List Int → Int
  | c, x :: xs, y :: ys => crl b ((x + y + c) / b) xs ys
  | c, _, _ => c
theorem crs_last (b : Int) : ∀ (c : Int) (xs ys : List Int), ∃ ini, c :: crs b c xs ys = ini ++ [crl b c xs ys]
  | c, [], ys => ⟨[], by simp [crs, crl]⟩
  | c, x :: xs, [] => ⟨[], by simp [crs, crl]⟩
  | c, x :: xs, y :: ys => by
    obtain ⟨ini, e⟩ := crs_last b ((x + y + c) / b) xs ys
    exact ⟨c :: ini, by rw [crs, crl, e]; rfl⟩
theorem crs_length (b : Int) : ∀ (c : Int) (xs ys : List Int), xs.length = ys.length → (crs b c xs ys).length = xs.length
  | c, [], ys, _ => by simp [crs]
  | c, x :: xs, [], h => by simp at h
  | c, x :: xs, y :: ys, h => by
    rw [crs, List.length_cons, List.length_cons, crs_length b _ xs ys (by simpa using h)]
theorem dgs_length (b : Int) : ∀ (c : Int) (xs ys : List Int), xs.length = ys.length → (dgs b c xs ys).length = xs.length
  | c, [], ys, _ => by simp [dgs]
  | c, x :: xs, [], h => by simp at h
  | c, x :: xs, y :: ys, h => by
    rw [dgs, List.length_cons, List.length_cons, dgs_length b _ xs ys (by simpa using h)]
theorem car01 {b x y c : Int} (hb : 2 ≤ b) (hx : 0 ≤ x ∧ x < b) (hy : 0 ≤ y ∧ y < b) (hc : 0 ≤ c ∧ c ≤ 1) : 0 ≤ (x + y + c) / b ∧ (x + y + c) / b ≤ 1 := by
  refine ⟨Int.ediv_nonneg (by omega) (by omega), ?_⟩
  have : (x + y + c) / b < 2 := by
    apply Int.ediv_lt_of_lt_mul (by omega)
    omega
  omega
theorem dgs_ok {b : Int} (hb : 2 ≤ b) : ∀ (c : Int) (xs ys : List Int), xs.length = ys.length → okD1 0 b xs → okD1 0 b ys → 0 ≤ c ∧ c ≤ 1 →
    okD1 0 b (dgs b c xs ys) ∧ (0 ≤ crl b c xs ys ∧ crl b c xs ys ≤ 1) ∧ vl b (dgs b c xs ys) + b ^ xs.length * crl b c xs ys = vl b xs + vl b ys + c
  | c, [], [], _, _, _, hc => ⟨fun d hd => (by simp [dgs] at hd), hc, by simp [dgs, crl, vl]⟩
  | c, [], y :: ys, h, _, _, _ => by simp at h
  | c, x :: xs, [], h, _, _, _ => by simp at h
  | c, x :: xs, y :: ys, h, hx, hy, hc => by
    have h1 := hx x (by simp)
    have h2 := hy y (by simp)
    have h3 := car01 hb ⟨h1.1, by omega⟩ ⟨h2.1, by omega⟩ hc
    obtain ⟨i1, i2, i3⟩ := dgs_ok hb ((x + y + c) / b) xs ys (by simpa using h) (fun d hd => hx d (by simp [hd])) (fun d hd => hy d (by simp [hd])) h3
    have e1 := Int.emod_nonneg (x + y + c) (by omega : b ≠ 0)
    have e2 := Int.emod_lt_of_pos (x + y + c) (by omega : 0 < b)
    have e3 := Int.emod_add_mul_ediv (x + y + c) b
    refine ⟨fun d hd => ?_, i2, ?_⟩
    · rw [dgs] at hd
      rcases List.mem_cons.mp hd with q | q
      · rw [q]; omega
      · exact i1 d q
    · rw [dgs, crl]
      show (x + y + c) % b + b * vl b (dgs b ((x + y + c) / b) xs ys) + b ^ (xs.length + 1) * crl b ((x + y + c) / b) xs ys = x + b * vl b xs + (y + b * vl b ys) + c
      have e4 : b ^ (xs.length + 1) * crl b ((x + y + c) / b) xs ys = b * (b ^ xs.length * crl b ((x + y + c) / b) xs ys) := by
        rw [Int.pow_succ, Int.mul_comm (b ^ xs.length) b, Int.mul_assoc]
      have e5 : b * (vl b (dgs b ((x + y + c) / b) xs ys) + b ^ xs.length * crl b ((x + y + c) / b) xs ys) = b * (vl b xs + vl b ys + (x + y + c) / b) := by rw [i3]
      rw [Int.mul_add, Int.mul_add, Int.mul_add] at e5
      omega
theorem dgs_top {b : Int} (hb : 2 ≤ b) : ∀ (c : Int) (xs ys : List Int), xs.length = ys.length → okD1 0 b xs → okD1 0 b ys → 0 ≤ c ∧ c ≤ 1 → xs ≠ [] → (topOk xs ∨ topOk ys) → crl b c xs ys = 0 → topOk (dgs b c xs ys)
  | c, [], _, _, _, _, _, hn, _, _ => absurd rfl hn
  | c, x :: xs, [], h, _, _, _, _, _, _ => by simp at h
  | c, [x], [y], h, hx, hy, hc, _, ht, hz => by
    have h1 := hx x (by simp)
    have h2 := hy y (by simp)
    have hz : (x + y + c) / b = 0 := hz
    have e3 := Int.emod_add_mul_ediv (x + y + c) b
    rw [hz, Int.mul_zero] at e3
    show (x + y + c) % b ≠ 0
    rcases ht with ht | ht
    · have ht : x ≠ 0 := ht
      omega
    · have ht : y ≠ 0 := ht
      omega
  | c, [x], y :: y' :: ys, h, _, _, _, _, _, _ => by simp at h
  | c, x :: x' :: xs, [y], h, _, _, _, _, _, _ => by simp at h
  | c, x :: x' :: xs, y :: y' :: ys, h, hx, hy, hc, _, ht, hz => by
    have h1 := hx x (by simp)
    have h2 := hy y (by simp)
    have h3 := car01 hb ⟨h1.1, by omega⟩ ⟨h2.1, by omega⟩ hc
    exact dgs_top hb ((x + y + c) / b) (x' :: xs) (y' :: ys) (by simpa using h) (fun d hd => hx d (by simp [hd])) (fun d hd => hy d (by simp [hd])) h3 (by simp) ht hz
theorem vl_rep (b : Int) : ∀ k : Nat, vl b (List.replicate k 0) = 0
  | 0 => rfl
  | k + 1 => by
    rw [List.replicate_succ]
    show 0 + b * vl b (List.replicate k 0) = 0
    rw [vl_rep b k, Int.mul_zero]
    omega
theorem pad_rev (n : Nat) (l : List Int) : (pad n l).reverse = l.reverse ++ List.replicate (n - l.length) 0 := by
  unfold pad
  rw [List.reverse_append, List.reverse_replicate]
theorem pad_length {n : Nat} {l : List Int} (h : l.length ≤ n) : (pad n l).length = n := by
  unfold pad
  rw [List.length_append, List.length_replicate]
  omega
theorem pad_vl {b : Int} {n : Nat} {l : List Int} : vl b (pad n l).reverse = vl b l.reverse := by
  rw [pad_rev, vl_append, vl_rep, Int.mul_zero, Int.add_zero]
theorem pad_ok {b : Int} {n : Nat} {l : List Int} (hb : 0 < b) (h : okD1 0 b l) : okD1 0 b (pad n l).reverse := fun d hd => by
  rw [pad_rev] at hd
  rcases List.mem_append.mp hd with q | q
  · exact h d (List.mem_reverse.mp q)
  · have := List.eq_of_mem_replicate q
    omega
/-- the digits of a sum of two words in normal form -/
theorem sum_digits {b : Int} (hb : 2 ≤ b) {l1 l2 : List Int} (h1 : wOk b l1) (h2 : wOk b l2) {N : Nat} (hN : N = max l1.length l2.length) :
    let xs := (pad N l1).reverse
    let ys := (pad N l2).reverse
    dgs b 0 xs ys ++ (if crl b 0 xs ys = 1 then [1] else []) = lowd b (valL b l1 + valL b l2) := by
  intro xs ys
  have hl1 : xs.length = N := by rw [List.length_reverse, pad_length (by omega)]
  have hl2 : ys.length = N := by rw [List.length_reverse, pad_length (by omega)]
  have hx : okD1 0 b xs := pad_ok (by omega) h1.1
  have hy : okD1 0 b ys := pad_ok (by omega) h2.1
  obtain ⟨i1, i2, i3⟩ := dgs_ok hb 0 xs ys (by omega) hx hy ⟨by omega, by omega⟩
  have ht1 := (wOk_iff.mp h1).2
  have ht2 := (wOk_iff.mp h2).2
  have hv : vl b xs + vl b ys = valL b l1 + valL b l2 := by rw [pad_vl, pad_vl, valL_vl, valL_vl]
  by_cases hc : crl b 0 xs ys = 1
  · rw [if_pos hc]
    have ev : vl b (dgs b 0 xs ys ++ [1]) = valL b l1 + valL b l2 := by
      rw [vl_append, dgs_length b 0 xs ys (by omega)]
      show _ + _ * (1 + b * 0) = _
      rw [Int.mul_zero, Int.add_zero]
      rw [hc] at i3
      omega
    rw [← ev]
    refine lowd_of hb (fun d hd => ?_) ((topOk_snoc _ _).mpr (by omega))
    rcases List.mem_append.mp hd with q | q
    · exact i1 d q
    · have := List.mem_singleton.mp q
      omega
  · rw [if_neg hc, List.append_nil]
    have hz : crl b 0 xs ys = 0 := by omega
    have ev : vl b (dgs b 0 xs ys) = valL b l1 + valL b l2 := by
      rw [hz, Int.mul_zero] at i3
      omega
    rw [← ev]
    refine lowd_of hb i1 ?_
    by_cases hn : xs = []
    · rw [hn]
      exact trivial
    · refine dgs_top hb 0 xs ys (by omega) hx hy ⟨by omega, by omega⟩ hn ?_ hz
      by_cases hle : l1.length ≤ l2.length
      · right
        show topOk (pad N l2).reverse
        rw [pad_rev, show N - l2.length = 0 by omega, List.replicate_zero, List.append_nil]
        exact ht2
      · left
        show topOk (pad N l1).reverse
        rw [pad_rev, show N - l1.length = 0 by omega, List.replicate_zero, List.append_nil]
        exact ht1
end Fl

namespace Fl
open PySem PySem.Spec PyProof.Rows L2
/-- power: slots 0 base, 1 e, 2 result, 3 left, 4 factor -/
def w_power_1_2 : FS := (sSet 3 (e2 divP (eV 3) (eC (.int 2))))
def w_power_1_1 : FS := (sSeq (sSet 4 (e2 mulA (eV 4) (eV 4))) w_power_1_2)
def c_power_1 : FT := (cB gtA (eV 3) (eC (.int 0)))
def w_power_1 : FS := (sSeq (sIf (cB eqA (e2 modP (eV 3) (eC (.int 2))) (eC (.int 1))) (sSet 2 (e2 mulA (eV 2) (eV 4))) sNil) w_power_1_1)
def t_power_5 : FS := (sRet (eV 2))
def t_power_4 : FS := (sSeq (sWhile c_power_1 w_power_1) t_power_5)
def t_power_3 : FS := (sSeq (sSet 4 (eV 0)) t_power_4)
def t_power_2 : FS := (sSeq (sSet 3 (eV 1)) t_power_3)
def t_power_1 : FS := (sSeq (sSet 2 (eC (.int 1))) t_power_2)
def b_power : FS := (sSeq (sIf (cB ltA (eV 1) (eC (.int 0))) sNever sNil) t_power_1)
/-- checked: slots 0 n -/
def t_checked_1 : FS := (sRet (eV 0))
def b_checked : FS := (sSeq (sIf (cB geA (eN absP (aCons (eV 0) aNil)) (eC (.int g_LIMIT))) sNever sNil) t_checked_1)
/-- natural: slots 0 n -/
def t_natural_1 : FS := (sRet (eCall sp_checked (aCons (eV 0) aNil)))
def b_natural : FS := (sSeq (sIf (cB ltA (eV 0) (eC (.int 0))) sNever sNil) t_natural_1)
/-- base_of: slots 0 base -/
def t_base_of_1 : FS := (sRet (eV 0))
def b_base_of : FS := (sSeq (sIf (tNot1 (cCh leA leA (eC (.int 2)) (eV 0) (eC (.int 1000)))) sNever sNil) t_base_of_1)
/-- digits: slots 0 base, 1 n, 2 left, 3 found -/
def w_digits_1_1 : FS := (sSet 2 (e2 divP (eV 2) (eV 0)))
def c_digits_1 : FT := (cB gtA (eV 2) (eC (.int 0)))
def w_digits_1 : FS := (sSeq (sApp 3 (e2 modP (eV 2) (eV 0))) w_digits_1_1)
def t_digits_4 : FS := (sRet (e1 tRevP (eV 3)))
def t_digits_3 : FS := (sSeq (sWhile c_digits_1 w_digits_1) t_digits_4)
def t_digits_2 : FS := (sSeq (sBld 3 (fLst aNil)) t_digits_3)
def t_digits_1 : FS := (sSeq (sSet 2 (eCall sp_natural (aCons (eV 1) aNil))) t_digits_2)
def b_digits : FS := (sSeq (sEx (eCall sp_base_of (aCons (eV 0) aNil))) t_digits_1)
/-- are_digits_bases: slots 0 base, 1 word, 2 digit -/
def b_are_digits_bases : FS := (sRet (eAnd (eNot (eN anyP (aCons (eF (fLc (iSeq (eV 1)) (gN 2) tYs (eNot (eT (cCh leA ltA (eC (.int 0)) (eV 2) (eV 0)))) [2])) aNil))) (eOr (eNot (eV 1)) (e2 neA (e2 ixP (eV 1) (eC (.int 0))) (eC (.int 0))))))
/-- checked_digits: slots 0 base, 1 word, 2 found -/
def t_checked_digits_3 : FS := (sRet (eV 2))
def t_checked_digits_2 : FS := (sSeq (sIf (tNot1 (tTru (eCall sp_are_digits_bases (aCons (eV 0) (aCons (eV 2) aNil))))) sNever sNil) t_checked_digits_3)
def t_checked_digits_1 : FS := (sSeq (sSet 2 (eN tupP (aCons (eV 1) aNil))) t_checked_digits_2)
def b_checked_digits : FS := (sSeq (sEx (eCall sp_base_of (aCons (eV 0) aNil))) t_checked_digits_1)
/-- value_bases: slots 0 base, 1 word, 2 whole, 3 digit -/
def w_value_bases_1 : FS := (sSet 2 (e2 addP (e2 mulA (eV 2) (eV 0)) (eV 3)))
def t_value_bases_2 : FS := (sRet (eV 2))
def t_value_bases_1 : FS := (sSeq (sFor (iSeq (eV 1)) (gN 3) w_value_bases_1) t_value_bases_2)
def b_value_bases : FS := (sSeq (sSet 2 (eC (.int 0))) t_value_bases_1)
/-- added_bases: slots 0 base, 1 one, 2 other, 3 size, 4 first, 5 second, 6 carries, 7 found, 8 a, 9 b, 10 whole -/
def w_added_bases_1_2 : FS := (sApp 6 (e2 divP (eV 10) (eV 0)))
def w_added_bases_1_1 : FS := (sSeq (sApp 7 (e2 modP (eV 10) (eV 0))) w_added_bases_1_2)
def w_added_bases_1 : FS := (sSeq (sSet 10 (e2 addP (e2 addP (eV 8) (eV 9)) (e2 ixP (eV 6) (e1 negP (eC (.int 1)))))) w_added_bases_1_1)
def t_added_bases_8 : FS := (sRet (eTup (aCons (eC (.str "sum")) (aCons (eV 1) (aCons (eV 2) (aCons (eN tupP (aCons (eV 6) aNil)) (aCons (e1 tRevP (eV 7)) aNil)))))))
def t_added_bases_7 : FS := (sSeq (sIf (cB eqA (e2 ixP (eV 6) (e1 negP (eC (.int 1)))) (eC (.int 1))) (sApp 7 (eC (.int 1))) sNil) t_added_bases_8)
def t_added_bases_6 : FS := (sSeq (sFor (iZipRR (eV 4) (eV 5)) (gS 2 (gsCons (gN 8) (gsCons (gN 9) gsNil))) w_added_bases_1) t_added_bases_7)
def t_added_bases_5 : FS := (sSeq (sBld 7 (fLst aNil)) t_added_bases_6)
def t_added_bases_4 : FS := (sSeq (sBld 6 (fLst (aCons (eC (.int 0)) aNil))) t_added_bases_5)
def t_added_bases_3 : FS := (sSeq (sSet 5 (e2 addP (e2 mulA (eTup (aCons (eC (.int 0)) aNil)) (e2 subA (eV 3) (eN lenP (aCons (eV 2) aNil)))) (eV 2))) t_added_bases_4)
def t_added_bases_2 : FS := (sSeq (sSet 4 (e2 addP (e2 mulA (eTup (aCons (eC (.int 0)) aNil)) (e2 subA (eV 3) (eN lenP (aCons (eV 1) aNil)))) (eV 1))) t_added_bases_3)
def t_added_bases_1 : FS := (sSeq (sSet 3 (eN maxP (aCons (eN lenP (aCons (eV 1) aNil)) (aCons (eN lenP (aCons (eV 2) aNil)) aNil)))) t_added_bases_2)
def b_added_bases : FS := (sSeq (sPar 1 2 (aCons (eCall sp_checked_digits (aCons (eV 0) (aCons (eV 1) aNil))) (aCons (eCall sp_checked_digits (aCons (eV 0) (aCons (eV 2) aNil))) aNil))) t_added_bases_1)
/-- less: slots 0 base, 1 one, 2 other, 3 first, 4 second -/
def t_less_2 : FS := (sRet (eCall sp_digits (aCons (eV 0) (aCons (e2 subA (eV 3) (eV 4)) aNil))))
def t_less_1 : FS := (sSeq (sIf (cB ltA (eV 3) (eV 4)) sNever sNil) t_less_2)
def b_less : FS := (sSeq (sPar 3 4 (aCons (eCall sp_value_bases (aCons (eV 0) (aCons (eCall sp_checked_digits (aCons (eV 0) (aCons (eV 1) aNil))) aNil))) (aCons (eCall sp_value_bases (aCons (eV 0) (aCons (eCall sp_checked_digits (aCons (eV 0) (aCons (eV 2) aNil))) aNil))) aNil))) t_less_1)
/-- scaled: slots 0 base, 1 word, 2 factor, 3 carries, 4 found, 5 digit, 6 whole, 7 rest -/
def w_scaled_1_2 : FS := (sApp 3 (e2 divP (eV 6) (eV 0)))
def w_scaled_1_1 : FS := (sSeq (sApp 4 (e2 modP (eV 6) (eV 0))) w_scaled_1_2)
def w_scaled_1 : FS := (sSeq (sSet 6 (e2 addP (e2 mulA (eV 5) (eV 2)) (e2 ixP (eV 3) (e1 negP (eC (.int 1)))))) w_scaled_1_1)
def w_scaled_2_1 : FS := (sSet 7 (e2 divP (eV 7) (eV 0)))
def c_scaled_2 : FT := (cB gtA (eV 7) (eC (.int 0)))
def w_scaled_2 : FS := (sSeq (sApp 4 (e2 modP (eV 7) (eV 0))) w_scaled_2_1)
def c_scaled_3 : FT := (tAnd2 (tTru (eV 4)) (cB eqA (e2 ixP (eV 4) (e1 negP (eC (.int 1)))) (eC (.int 0))))
def w_scaled_3 : FS := (sPop 4)
def t_scaled_7 : FS := (sRet (eTup (aCons (eN tupP (aCons (eV 3) aNil)) (aCons (e1 tRevP (eV 4)) aNil))))
def t_scaled_6 : FS := (sSeq (sWhile c_scaled_3 w_scaled_3) t_scaled_7)
def t_scaled_5 : FS := (sSeq (sWhile c_scaled_2 w_scaled_2) t_scaled_6)
def t_scaled_4 : FS := (sSeq (sSet 7 (e2 ixP (eV 3) (e1 negP (eC (.int 1))))) t_scaled_5)
def t_scaled_3 : FS := (sSeq (sFor (iRev (eCall sp_checked_digits (aCons (eV 0) (aCons (eV 1) aNil)))) (gN 5) w_scaled_1) t_scaled_4)
def t_scaled_2 : FS := (sSeq (sBld 4 (fLst aNil)) t_scaled_3)
def t_scaled_1 : FS := (sSeq (sBld 3 (fLst (aCons (eC (.int 0)) aNil))) t_scaled_2)
def b_scaled : FS := (sSeq (sEx (eCall sp_natural (aCons (eV 2) aNil))) t_scaled_1)
/-- in_other: slots 0 base, 1 word, 2 other, 3 found, 4 digit, 5 rest, 6 made, 7 own, 8 whole -/
def w_in_other_2_2 : FS := (sSet 5 (e2 divP (eV 8) (eV 2)))
def w_in_other_2_1 : FS := (sSeq (sApp 6 (e2 modP (eV 8) (eV 2))) w_in_other_2_2)
def w_in_other_2 : FS := (sSeq (sSet 8 (e2 addP (e2 mulA (eV 7) (eV 0)) (eV 5))) w_in_other_2_1)
def w_in_other_3_1 : FS := (sSet 5 (e2 divP (eV 5) (eV 2)))
def c_in_other_3 : FT := (cB gtA (eV 5) (eC (.int 0)))
def w_in_other_3 : FS := (sSeq (sApp 6 (e2 modP (eV 5) (eV 2))) w_in_other_3_1)
def w_in_other_1_4 : FS := (sFrz 6 (sSet 3 (eV 6)))
def w_in_other_1_3 : FS := (sSeq (sWhile c_in_other_3 w_in_other_3) w_in_other_1_4)
def w_in_other_1_2 : FS := (sSeq (sFor (iSeq (eV 3)) (gN 7) w_in_other_2) w_in_other_1_3)
def w_in_other_1_1 : FS := (sSeq (sBld 6 (fLst aNil)) w_in_other_1_2)
def w_in_other_1 : FS := (sSeq (sSet 5 (eV 4)) w_in_other_1_1)
def t_in_other_3 : FS := (sRet (e1 tRevP (eV 3)))
def t_in_other_2 : FS := (sSeq (sFor (iSeq (eCall sp_checked_digits (aCons (eV 0) (aCons (eV 1) aNil)))) (gN 4) w_in_other_1) t_in_other_3)
def t_in_other_1 : FS := (sSeq (sSet 3 (eF (fLst aNil))) t_in_other_2)
def b_in_other : FS := (sSeq (sEx (eCall sp_base_of (aCons (eV 2) aNil))) t_in_other_1)
/-- compared_bases: slots 0 one, 1 other, 2 first, 3 second -/
def t_compared_bases_2 : FS := (sRet (e2 subA (e2 gtA (eV 2) (eV 3)) (e2 ltA (eV 2) (eV 3))))
def t_compared_bases_1 : FS := (sSeq (sPar 2 3 (aCons (eTup (aCons (eN lenP (aCons (eV 0) aNil)) (aCons (eV 0) aNil))) (aCons (eTup (aCons (eN lenP (aCons (eV 1) aNil)) (aCons (eV 1) aNil))) aNil))) t_compared_bases_2)
def b_compared_bases : FS := (sSeq (sPar 0 1 (aCons (eN tupP (aCons (eV 0) aNil)) (aCons (eN tupP (aCons (eV 1) aNil)) aNil))) t_compared_bases_1)
/-- blocks: slots 0 base, 1 word, 2 size, 3 own, 4 wide, 5 found, 6 at -/
def t_blocks_4 : FS := (sRet (eN tupP (aCons (eV 5) aNil)))
def t_blocks_3 : FS := (sSeq (sSet 5 (eF (fLc (iR3 (aCons (eC (.int 0)) (aCons (eN lenP (aCons (eV 4) aNil)) (aCons (eV 2) aNil)))) (gN 6) tYs (eCall sp_value_bases (aCons (eV 0) (aCons (eSl (eV 4) (oS (eV 6)) (oS (e2 addP (eV 6) (eV 2)))) aNil))) [6]))) t_blocks_4)
def t_blocks_2 : FS := (sSeq (sSet 4 (e2 addP (e2 mulA (eTup (aCons (eC (.int 0)) aNil)) (e2 modP (e1 negP (eN lenP (aCons (eV 3) aNil))) (eV 2))) (eV 3))) t_blocks_3)
def t_blocks_1 : FS := (sSeq (sSet 3 (eCall sp_checked_digits (aCons (eV 0) (aCons (eV 1) aNil)))) t_blocks_2)
def b_blocks : FS := (sSeq (sIf (cB ltA (eV 2) (eC (.int 1))) sNever sNil) t_blocks_1)
/-- unblocked: slots 0 base, 1 word, 2 size, 3 found, 4 block, 5 own -/
def w_unblocked_1_2 : FS := (sExt 3 (e2 addP (e2 mulA (eTup (aCons (eC (.int 0)) aNil)) (e2 subA (eV 2) (eN lenP (aCons (eV 5) aNil)))) (eV 5)))
def w_unblocked_1_1 : FS := (sSeq (sSet 5 (eCall sp_digits (aCons (eV 0) (aCons (eV 4) aNil)))) w_unblocked_1_2)
def w_unblocked_1 : FS := (sSeq (sIf (tNot1 (cCh leA ltA (eC (.int 0)) (eV 4) (eCall sp_power (aCons (eCall sp_base_of (aCons (eV 0) aNil)) (aCons (eV 2) aNil))))) sNever sNil) w_unblocked_1_1)
def c_unblocked_2 : FT := (tAnd2 (tTru (eV 3)) (cB eqA (e2 ixP (eV 3) (eC (.int 0))) (eC (.int 0))))
def w_unblocked_2 : FS := (sPopAt 3 (eC (.int 0)))
def t_unblocked_3 : FS := (sRet (eN tupP (aCons (eV 3) aNil)))
def t_unblocked_2 : FS := (sSeq (sWhile c_unblocked_2 w_unblocked_2) t_unblocked_3)
def t_unblocked_1 : FS := (sSeq (sFor (iSeq (eV 1)) (gN 4) w_unblocked_1) t_unblocked_2)
def b_unblocked : FS := (sSeq (sBld 3 (fLst aNil)) t_unblocked_1)
/-- are_digits_bijective: slots 0 base, 1 word, 2 digit -/
def b_are_digits_bijective : FS := (sRet (eNot (eN anyP (aCons (eF (fLc (iSeq (eV 1)) (gN 2) tYs (eNot (eT (cCh leA leA (eC (.int 1)) (eV 2) (eV 0)))) [2])) aNil))))
/-- compared_bijective: slots 0 one, 1 other, 2 first, 3 second -/
def t_compared_bijective_1 : FS := (sRet (e2 subA (e2 gtA (eV 2) (eV 3)) (e2 ltA (eV 2) (eV 3))))
def b_compared_bijective : FS := (sSeq (sPar 2 3 (aCons (eTup (aCons (eN lenP (aCons (eV 0) aNil)) (aCons (eN tupP (aCons (eV 0) aNil)) aNil))) (aCons (eTup (aCons (eN lenP (aCons (eV 1) aNil)) (aCons (eN tupP (aCons (eV 1) aNil)) aNil))) aNil))) t_compared_bijective_1)
/-- below_base: slots 0 base -/
def t_below_base_1 : FS := (sRet (eV 0))
def b_below_base : FS := (sSeq (sIf (tNot1 (cCh leA leA (e1 negP (eC (.int 1000))) (eV 0) (e1 negP (eC (.int 2))))) sNever sNil) t_below_base_1)
/-- value_signed: slots 0 base, 1 word, 2 whole, 3 digit -/
def w_value_signed_1 : FS := (sSet 2 (e2 addP (e2 mulA (eV 2) (eV 0)) (eV 3)))
def t_value_signed_2 : FS := (sRet (eV 2))
def t_value_signed_1 : FS := (sSeq (sFor (iSeq (eV 1)) (gN 3) w_value_signed_1) t_value_signed_2)
def b_value_signed : FS := (sSeq (sSet 2 (eC (.int 0))) t_value_signed_1)
/-- are_below: slots 0 base, 1 word, 2 digit -/
def b_are_below : FS := (sRet (eAnd (eNot (eN anyP (aCons (eF (fLc (iSeq (eV 1)) (gN 2) tYs (eNot (eT (cCh leA ltA (eC (.int 0)) (eV 2) (e1 negP (eV 0))))) [2])) aNil))) (eOr (eNot (eV 1)) (e2 neA (e2 ixP (eV 1) (eC (.int 0))) (eC (.int 0))))))
/-- balanced_base: slots 0 base -/
def t_balanced_base_1 : FS := (sRet (eV 0))
def b_balanced_base : FS := (sSeq (sIf (tOr2 (tNot1 (cCh leA leA (eC (.int 3)) (eV 0) (eC (.int 999)))) (cB eqA (e2 modP (eV 0) (eC (.int 2))) (eC (.int 0)))) sNever sNil) t_balanced_base_1)
/-- turned: slots 0 word, 1 digit -/
def b_turned : FS := (sRet (eN tupP (aCons (eF (fLc (iSeq (eV 0)) (gN 1) tYs (e1 negP (eV 1)) [1])) aNil)))
/-- rounded: slots 0 word, 1 places -/
def t_rounded_1 : FS := (sRet (eN tupP (aCons (eSl (eV 0) oN (oS (e2 subA (eN lenP (aCons (eV 0) aNil)) (eV 1)))) aNil)))
def b_rounded : FS := (sSeq (sIf (tNot1 (cCh leA leA (eC (.int 0)) (eV 1) (eN lenP (aCons (eV 0) aNil)))) sNever sNil) t_rounded_1)
/-- are_apart: slots 0 word, 1 digit, 2 a, 3 b -/
def t_are_apart_1 : FS := (sRet (eNot (eN anyP (aCons (eF (fLc (iZip2 (aCons (eV 0) (aCons (eSl (eV 0) (oS (eC (.int 1))) oN) aNil))) (gS 2 (gsCons (gN 2) (gsCons (gN 3) gsNil))) tYs (eAnd (e2 neA (eV 2) (eC (.int 0))) (e2 neA (eV 3) (eC (.int 0)))) [2, 3])) aNil))))
def b_are_apart : FS := (sSeq (sIf (tOr2 (tTru (eN anyP (aCons (eF (fLc (iSeq (eV 0)) (gN 1) tYs (e2 (inA true) (eV 1) (eTup (aCons (e1 negP (eC (.int 1))) (aCons (eC (.int 0)) (aCons (eC (.int 1)) aNil))))) [1])) aNil))) (tAnd2 (tTru (eV 0)) (cB eqA (e2 ixP (eV 0) (eC (.int 0))) (eC (.int 0))))) (sRet (eC (.bl false))) sNil) t_are_apart_1)
/-- weight: slots 0 word, 1 digit -/
def b_weight : FS := (sRet (eN lenP (aCons (eF (fLc (iSeq (eV 0)) (gN 1) (cB neA (eV 1) (eC (.int 0))) (eV 1) [1])) aNil)))
/-- _law_cell: slots 0 script, 1 k -/
def t__law_cell_1 : FS := (sRet (eC (.int 0)))
def b__law_cell : FS := (sSeq (sIf (cB ltA (eV 1) (eN lenP (aCons (eV 0) aNil))) (sRet (e2 ixP (eV 0) (eV 1))) sNil) t__law_cell_1)
/-- _law_source: slots 0 cell, 1 k -/
def t__law_source_1 : FS := (sRet (eF (fLst (aCons (eC (.int 0)) (aCons (e2 modP (eN intP (aCons (e2 addP (e2 addP (e2 mulA (eV 0) (eC (.int 7919))) (e2 mulA (eV 1) (eC (.int 104729)))) (eC (.int 1))) aNil)) (eC (.int 2147483647))) aNil)))))
def b__law_source : FS := (sSeq (sIf (cB geA (eV 0) (e2 powP (eC (.int 10)) (eC (.int 18)))) (sRet (eF (fLst (aCons (e2 subA (eV 0) (e2 powP (eC (.int 10)) (eC (.int 18)))) (aCons (e2 addP (eV 1) (eC (.int 1))) aNil))))) sNil) t__law_source_1)
/-- _law_pick: slots 0 source, 1 many, 2 picked, 3 mixed -/
def t__law_pick_3 : FS := (sRet (e2 modP (eN intP (aCons (e2 divP (eV 3) (eC (.int 16))) aNil)) (eV 1)))
def t__law_pick_2 : FS := (sSeq (sSet 3 (e2 modP (eN intP (aCons (e2 addP (e2 addP (e2 mulA (e2 ixP (eV 0) (eC (.int 1))) (eC (.int 69621))) (e2 divP (e2 ixP (eV 0) (eC (.int 1))) (eC (.int 127)))) (eC (.int 7))) aNil)) (eC (.int 2147483629)))) t__law_pick_3)
def t__law_pick_1 : FS := (sSeq (sPut 0 (eC (.int 1)) (e2 modP (eN intP (aCons (e2 addP (e2 mulA (e2 ixP (eV 0) (eC (.int 1))) (eC (.int 48271))) (eC (.int 12345))) aNil)) (eC (.int 2147483647)))) t__law_pick_2)
def b__law_pick : FS := (sSeq (sIf (cB gtA (e2 ixP (eV 0) (eC (.int 0))) (eC (.int 1))) (sSeq (sSet 2 (e2 modP (eN intP (aCons (e2 ixP (eV 0) (eC (.int 0))) aNil)) (eV 1))) (sSeq (sPut 0 (eC (.int 0)) (e2 divP (e2 ixP (eV 0) (eC (.int 0))) (eV 1))) (sRet (eV 2)))) sNil) t__law_pick_1)
/-- _law_same: slots 0 told, 1 due, 2 k -/
def t__law_same_5 : FS := (sRet (eAnd (eIsi .str (eV 0)) (e2 eqA (eV 0) (eV 1))))
def t__law_same_4 : FS := (sSeq (sIf (tTru (eIsi .int (eV 1))) (sRet (eAnd (eIsi .int (eV 0)) (eAnd (eNot (eIsi .bool (eV 0))) (e2 eqA (eV 0) (eV 1))))) sNil) t__law_same_5)
def t__law_same_3 : FS := (sSeq (sIf (tTru (eIsi .bool (eV 1))) (sRet (eAnd (eIsi .bool (eV 0)) (e2 eqA (eV 0) (eV 1)))) sNil) t__law_same_4)
def t__law_same_2 : FS := (sSeq (sIf (cB isN (eV 1) (eC .non)) (sRet (e2 isN (eV 0) (eC .non))) sNil) t__law_same_3)
def t__law_same_1 (rc : PSp) : FS := (sSeq (sIf (tTru (eIsi .list (eV 1))) (sSeq (sIf (tOr2 (tNot1 (tTru (eIsi .list (eV 0)))) (cB neA (eN lenP (aCons (eV 0) aNil)) (eN lenP (aCons (eV 1) aNil)))) (sRet (eC (.bl false))) sNil) (sRet (e2 eqA (eF (fLc (iR1 (aCons (eN lenP (aCons (eV 1) aNil)) aNil)) (gN 2) (tNot1 (tTru (eCall rc (aCons (e2 ixP (eV 0) (eV 2)) (aCons (e2 ixP (eV 1) (eV 2)) aNil))))) (eV 2) [2])) (eF (fLst aNil))))) sNil) t__law_same_2)
def b__law_same (rc : PSp) : FS := (sSeq (sIf (tTru (eIsi .tuple (eV 1))) (sSeq (sIf (tOr2 (tNot1 (tTru (eIsi .tuple (eV 0)))) (cB neA (eN lenP (aCons (eV 0) aNil)) (eN lenP (aCons (eV 1) aNil)))) (sRet (eC (.bl false))) sNil) (sRet (e2 eqA (eF (fLc (iR1 (aCons (eN lenP (aCons (eV 1) aNil)) aNil)) (gN 2) (tNot1 (tTru (eCall rc (aCons (e2 ixP (eV 0) (eV 2)) (aCons (e2 ixP (eV 1) (eV 2)) aNil))))) (eV 2) [2])) (eF (fLst aNil))))) sNil) (t__law_same_1 rc))
/-- _law_power: slots 0 base, 1 e, 2 whole, 3 step -/
def w__law_power_1 : FS := (sSet 2 (e2 mulA (eV 2) (eV 0)))
def t__law_power_2 : FS := (sRet (eV 2))
def t__law_power_1 : FS := (sSeq (sFor (iR1 (aCons (eV 1) aNil)) (gN 3) w__law_power_1) t__law_power_2)
def b__law_power : FS := (sSeq (sSet 2 (eC (.int 1))) t__law_power_1)
/-- _law_digits: slots 0 base, 1 n, 2 found, 3 left -/
def w__law_digits_1_1 : FS := (sSet 3 (e2 divP (eV 3) (eV 0)))
def c__law_digits_1 : FT := (cB gtA (eV 3) (eC (.int 0)))
def w__law_digits_1 : FS := (sSeq (sApp 2 (e2 modP (eV 3) (eV 0))) w__law_digits_1_1)
def t__law_digits_3 : FS := (sRet (eN tupP (aCons (e1 revP (eV 2)) aNil)))
def t__law_digits_2 : FS := (sSeq (sWhile c__law_digits_1 w__law_digits_1) t__law_digits_3)
def t__law_digits_1 : FS := (sSeq (sSet 3 (eV 1)) t__law_digits_2)
def b__law_digits : FS := (sSeq (sBld 2 (fLst aNil)) t__law_digits_1)
/-- _law_sign: slots 0 one, 1 other -/
def b__law_sign : FS := (sRet (e2 subA (eN intP (aCons (e2 gtA (eV 0) (eV 1)) aNil)) (eN intP (aCons (e2 ltA (eV 0) (eV 1)) aNil))))
/-- _law_scaled: slots 0 base, 1 word, 2 factor, 3 carries, 4 digit -/
def w__law_scaled_1 : FS := (sApp 3 (e2 divP (e2 addP (e2 mulA (eV 4) (eV 2)) (e2 ixP (eV 3) (e2 subA (eN lenP (aCons (eV 3) aNil)) (eC (.int 1))))) (eV 0)))
def t__law_scaled_2 : FS := (sRet (eN tupP (aCons (eV 3) aNil)))
def t__law_scaled_1 : FS := (sSeq (sFor (iSeq (e1 revP (eV 1))) (gN 4) w__law_scaled_1) t__law_scaled_2)
def b__law_scaled : FS := (sSeq (sBld 3 (fLst (aCons (eC (.int 0)) aNil))) t__law_scaled_1)
/-- _law_carries: slots 0 base, 1 one, 2 other, 3 size, 4 first, 5 second, 6 carries, 7 at -/
def w__law_carries_1 : FS := (sApp 6 (eN intP (aCons (e2 geA (e2 addP (e2 addP (e2 ixP (eV 4) (eV 7)) (e2 ixP (eV 5) (eV 7))) (e2 ixP (eV 6) (eV 7))) (eV 0)) aNil)))
def t__law_carries_4 : FS := (sRet (eN tupP (aCons (eV 6) aNil)))
def t__law_carries_3 : FS := (sSeq (sFor (iR1 (aCons (eV 3) aNil)) (gN 7) w__law_carries_1) t__law_carries_4)
def t__law_carries_2 : FS := (sSeq (sBld 6 (fLst (aCons (eC (.int 0)) aNil))) t__law_carries_3)
def t__law_carries_1 : FS := (sSeq (sPar 4 5 (aCons (e1 revP (e2 addP (e2 mulA (eTup (aCons (eC (.int 0)) aNil)) (eV 3)) (eV 1))) (aCons (e1 revP (e2 addP (e2 mulA (eTup (aCons (eC (.int 0)) aNil)) (eV 3)) (eV 2))) aNil))) t__law_carries_2)
def b__law_carries : FS := (sSeq (sSet 3 (eN maxP (aCons (eN lenP (aCons (eV 1) aNil)) (aCons (eN lenP (aCons (eV 2) aNil)) aNil)))) t__law_carries_1)
/-- _law_below: slots 0 size, 1 n, 2 found, 3 left, 4 digit -/
def w__law_below_1_2 : FS := (sSet 3 (e2 subA (eC (.int 0)) (e2 divN (e2 subA (eV 3) (eV 4)) (eV 0))))
def w__law_below_1_1 : FS := (sSeq (sApp 2 (eV 4)) w__law_below_1_2)
def c__law_below_1 : FT := (cB neA (eV 3) (eC (.int 0)))
def w__law_below_1 : FS := (sSeq (sSet 4 (e2 modP (eV 3) (eV 0))) w__law_below_1_1)
def t__law_below_3 : FS := (sRet (eN tupP (aCons (e1 revP (eV 2)) aNil)))
def t__law_below_2 : FS := (sSeq (sWhile c__law_below_1 w__law_below_1) t__law_below_3)
def t__law_below_1 : FS := (sSeq (sSet 3 (eV 1)) t__law_below_2)
def b__law_below : FS := (sSeq (sBld 2 (fLst aNil)) t__law_below_1)
/-- _law_below_carries: slots 0 size, 1 one, 2 other, 3 most, 4 first, 5 second, 6 carries, 7 at, 8 whole -/
def w__law_below_carries_1_3 : FS := (sSet 7 (e2 addP (eV 7) (eC (.int 1))))
def w__law_below_carries_1_2 : FS := (sSeq (sApp 6 (e2 subA (eC (.int 0)) (e2 divN (e2 subA (eV 8) (e2 modP (eV 8) (eV 0))) (eV 0)))) w__law_below_carries_1_3)
def w__law_below_carries_1_1 : FS := (sSeq (sIf (cB ltA (eV 7) (eV 3)) (sSet 8 (e2 addP (e2 addP (eV 8) (e2 ixP (eV 4) (eV 7))) (e2 ixP (eV 5) (eV 7)))) sNil) w__law_below_carries_1_2)
def c__law_below_carries_1 : FT := (tOr2 (cB ltA (eV 7) (eV 3)) (cB neA (e2 ixP (eV 6) (eV 7)) (eC (.int 0))))
def w__law_below_carries_1 : FS := (sSeq (sSet 8 (e2 ixP (eV 6) (eV 7))) w__law_below_carries_1_1)
def t__law_below_carries_5 : FS := (sRet (eN tupP (aCons (eV 6) aNil)))
def t__law_below_carries_4 : FS := (sSeq (sWhile c__law_below_carries_1 w__law_below_carries_1) t__law_below_carries_5)
def t__law_below_carries_3 : FS := (sSeq (sSet 7 (eC (.int 0))) t__law_below_carries_4)
def t__law_below_carries_2 : FS := (sSeq (sBld 6 (fLst (aCons (eC (.int 0)) aNil))) t__law_below_carries_3)
def t__law_below_carries_1 : FS := (sSeq (sPar 4 5 (aCons (e1 revP (e2 addP (e2 mulA (eTup (aCons (eC (.int 0)) aNil)) (eV 3)) (eV 1))) (aCons (e1 revP (e2 addP (e2 mulA (eTup (aCons (eC (.int 0)) aNil)) (eV 3)) (eV 2))) aNil))) t__law_below_carries_2)
def b__law_below_carries : FS := (sSeq (sSet 3 (eN maxP (aCons (eN lenP (aCons (eV 1) aNil)) (aCons (eN lenP (aCons (eV 2) aNil)) aNil)))) t__law_below_carries_1)
/-- _law_ones: slots 0 base, 1 n, 2 found, 3 left, 4 digit -/
def w__law_ones_1_3 : FS := (sSet 3 (e2 divP (e2 subA (eV 3) (eV 4)) (eV 0)))
def w__law_ones_1_2 : FS := (sSeq (sApp 2 (eV 4)) w__law_ones_1_3)
def w__law_ones_1_1 : FS := (sSeq (sIf (cB eqA (eV 4) (eC (.int 0))) (sSet 4 (eV 0)) sNil) w__law_ones_1_2)
def c__law_ones_1 : FT := (cB gtA (eV 3) (eC (.int 0)))
def w__law_ones_1 : FS := (sSeq (sSet 4 (e2 modP (eV 3) (eV 0))) w__law_ones_1_1)
def t__law_ones_3 : FS := (sRet (eN tupP (aCons (e1 revP (eV 2)) aNil)))
def t__law_ones_2 : FS := (sSeq (sWhile c__law_ones_1 w__law_ones_1) t__law_ones_3)
def t__law_ones_1 : FS := (sSeq (sSet 3 (eV 1)) t__law_ones_2)
def b__law_ones : FS := (sSeq (sBld 2 (fLst aNil)) t__law_ones_1)

end Fl

section
set_option exponentiation.threshold 2000
namespace Fl
open PySem PySem.Spec PyProof.Rows L2
theorem nT {b : Bool} (h : (!b) = true) : b = false := by simpa using h
theorem nF {b : Bool} (h : (!b) = false) : b = true := by simpa using h
/-! a list comprehension whose turns change nothing -/
theorem lcP_run {α : Type} {g : FG} {mt : FT} {me : FE} {fw : Fm} {ι : α → PV} (F : α → Option PV) {M : Sto} {Q : List PV → Sto → Prop} : ∀ (l : List α) (acc : List PV),
    (∀ d ∈ l, ∀ (K1 : PV → Sto → Prop) (K0 : Sto → Prop), (∀ p, F d = some p → K1 p M) → (F d = none → K0 M) → g (ι d) fw fun f2 => mt f2 M fun b M2 => (b = true → me f2 M2 fun y M3 => match y with
      | .v p => K1 p M3
      | .b _ => False) ∧ (b = false → K0 M2)) →
    Q (acc ++ l.filterMap F) M → lcP g mt me fw (l.map ι) acc M Q
  | [], acc, h, q => by
    rw [List.filterMap_nil, List.append_nil] at q
    exact q
  | d :: l, acc, h, q => by
    have h1 := h d (by simp) (fun p M3 => lcP g mt me fw (l.map ι) (acc ++ [p]) M3 Q) (fun M2 => lcP g mt me fw (l.map ι) acc M2 Q)
    refine h1 (fun p e => ?_) fun e => ?_
    · refine lcP_run F l (acc ++ [p]) (fun d' hd' => h d' (by simp [hd'])) ?_
      rw [List.filterMap_cons, e] at q
      rw [List.append_assoc]
      exact q
    · refine lcP_run F l acc (fun d' hd' => h d' (by simp [hd'])) ?_
      rw [List.filterMap_cons, e] at q
      exact q
/-- the same, an item for each -/
theorem lcP_all {α : Type} {g : FG} {mt : FT} {me : FE} {fw : Fm} {ι : α → PV} (F : α → PV) {M : Sto} {Q : List PV → Sto → Prop} {l : List α}
    (h : ∀ d ∈ l, ∀ (K1 : PV → Sto → Prop) (K0 : Sto → Prop), K1 (F d) M → g (ι d) fw fun f2 => mt f2 M fun b M2 => (b = true → me f2 M2 fun y M3 => match y with
      | .v p => K1 p M3
      | .b _ => False) ∧ (b = false → K0 M2))
    (q : Q (l.map F) M) : lcP g mt me fw (l.map ι) [] M Q := by
  refine lcP_run (fun d => some (F d)) l [] (fun d hd K1 K0 h1 _ => h d hd K1 K0 (h1 _ rfl)) ?_
  rw [show l.filterMap (fun d => some (F d)) = l.map F by rw [← List.filterMap_eq_map]; rfl]
  exact q
theorem l_checked : ∀ args M Q, sp_checked args M Q → args.length = 1 ∧ b_checked (fE Q) (fr0 0 args) M := fun args M Q h => by
  match args, h with
  | [.int n], ⟨⟨h1, h2⟩, hq⟩ =>
    refine ⟨rfl, fun h => ?_, fun _ => hq⟩
    have h := of_decide_eq_true h
    split at h <;> omega
theorem l_natural : ∀ args M Q, sp_natural args M Q → args.length = 1 ∧ b_natural (fE Q) (fr0 0 args) M := fun args M Q h => by
  match args, h with
  | [.int n], ⟨⟨h1, h2⟩, hq⟩ =>
    refine ⟨rfl, fun h => ?_, fun _ => ⟨⟨?_, h2⟩, hq⟩⟩
    · have h := of_decide_eq_true h
      omega
    · have : 0 < g_LIMIT := by have := BB_lim BB_pos; omega
      omega
theorem l_base_of : ∀ args M Q, sp_base_of args M Q → args.length = 1 ∧ b_base_of (fE Q) (fr0 0 args) M := fun args M Q h => by
  match args, h with
  | [.int n], ⟨⟨h1, h2⟩, hq⟩ =>
    refine ⟨rfl, fun _ => ⟨fun h => ?_, fun _ => hq⟩, fun h => ?_⟩
    · have h := of_decide_eq_false (nT h)
      omega
    · have h := of_decide_eq_false h
      omega
theorem l_are_digits_bases : ∀ args M Q, sp_are_digits_bases args M Q → args.length = 2 ∧ b_are_digits_bases (fE Q) (fr0 1 args) M := fun args M Q h => by
  match args, h with
  | [.int b, w], ⟨l, hw, hl, hq⟩ =>
    refine ⟨rfl, ?_⟩
    rcases hw with rfl | rfl
    all_goals
      refine ⟨by rw [List.length_map]; exact hl, lcP_all (fun d : Int => .bl (!(decide (0 ≤ d) && decide (d < b)))) (fun d hd K1 K0 k => ?_) ?_⟩
      · refine ⟨fun _ => ⟨fun h => ⟨trivial, ?_⟩, fun h => ⟨trivial, ?_⟩⟩, fun h => nomatch h⟩
        · rw [show decide (0 ≤ d) = true from h] at k
          exact k
        · rw [show decide (0 ≤ d) = false from h] at k
          exact k
      · refine ⟨l.map fun d => !(decide (0 ≤ d) && decide (d < b)), by rw [List.map_map]; rfl, trivial, trivial, fun h => ?_, fun h => ?_⟩
        · have e : (l.any fun d => !(decide (0 ≤ d) && decide (d < b))) = false := by
            have h : ((l.map fun d => !(decide (0 ≤ d) && decide (d < b))).any id) = false := nT h
            rw [List.any_map] at h
            exact h
          cases l with
          | nil => exact ⟨trivial, trivial, fun _ => hq, fun h => nomatch h⟩
          | cons d r =>
            refine ⟨trivial, trivial, fun h => (nomatch h), fun _ => ⟨.int d, atI_nat (j := 0) rfl, ?_⟩⟩
            unfold areD at hq
            rw [e] at hq
            exact hq
        · have e : (l.any fun d => !(decide (0 ≤ d) && decide (d < b))) = true := by
            have h : ((l.map fun d => !(decide (0 ≤ d) && decide (d < b))).any id) = true := nF h
            rw [List.any_map] at h
            exact h
          unfold areD at hq
          rw [e] at hq
          show Q (.bl (!((l.map fun d => !(decide (0 ≤ d) && decide (d < b))).any id))) M
          rw [List.any_map]
          rw [show (id ∘ fun d : Int => !(decide (0 ≤ d) && decide (d < b))) = fun d => !(decide (0 ≤ d) && decide (d < b)) from rfl, e]
          exact hq
theorem l_checked_digits : ∀ args M Q, sp_checked_digits args M Q → args.length = 2 ∧ b_checked_digits (fE Q) (fr0 1 args) M := fun args M Q h => by
  match args, h with
  | [.int b, w], ⟨l, hw, ⟨h0, h1, h2, h3⟩, hq⟩ =>
    refine ⟨rfl, ⟨h1, h2⟩, ?_⟩
    rcases hw with rfl | rfl
    all_goals
      refine ⟨l, .inl rfl, h0, trivial, fun h => ?_, fun _ => hq⟩
      have h := nT h
      rw [areD_iff.mpr h3] at h
      cases h
theorem mul_l {a b : Int} (h1 : -(2 ^ 64) < a) (h2 : a < 2 ^ 64) : IntMulOk a b := .of_left (intBits_le_64 h1 h2)
theorem mul_r {a b : Int} (h1 : -(2 ^ 64) < b) (h2 : b < 2 ^ 64) : IntMulOk a b := .of_right (intBits_le_64 h1 h2)
theorem dv {j : Int} (h1 : 0 < j) (h2 : j < 2 ^ 100) : 0 < j ∧ j.natAbs.log2 < 9000 := ⟨h1, by
  have h3 : j.natAbs ≠ 0 := by omega
  have := (Nat.log2_lt (k := 100) h3).mpr (by omega)
  omega⟩
/-- the loop of value -/
theorem val_loop {b : Int} {D : FEnds} {M : Sto} {w : PV} (hb : -(2 ^ 64) < b ∧ b < 2 ^ 64) : ∀ (l : List Int) (a : Int) (x : Option EV), (∀ x, D.nx [some (.v (.int b)), some (.v w), some (.v (.int (l.foldl (fun a d => a * b + d) a))), x] M) →
    foP (gN 3) (sSet 2 (e2 addP (e2 mulA (eV 2) (eV 0)) (eV 3))) D (l.map .int) [some (.v (.int b)), some (.v w), some (.v (.int a)), x] M
  | [], a, x, h => h x
  | d :: l, a, x, h => ⟨mul_r hb.1 hb.2, val_loop hb l (a * b + d) _ h⟩
theorem l_value_bases : ∀ args M Q, sp_value_bases args M Q → args.length = 2 ∧ b_value_bases (fE Q) (fr0 2 args) M := fun args M Q h => by
  match args, h with
  | [.int b, w], ⟨l, hw, hb, hq⟩ =>
    refine ⟨rfl, ?_⟩
    rcases hw with rfl | rfl
    all_goals exact val_loop (D := { fE Q with nx := sRet (eV 2) (fE Q) }) hb l 0 none fun x => hq
theorem l_value_signed : ∀ args M Q, sp_value_signed args M Q → args.length = 2 ∧ b_value_signed (fE Q) (fr0 2 args) M := l_value_bases
theorem mapI (l : List Int) (d : Int) : (l ++ [d]).map PV.int = l.map PV.int ++ [.int d] := by rw [List.map_append]; rfl
theorem gtD {a b : Int} (h : cGt a b = true) : b < a := of_decide_eq_true h
theorem gtN {a b : Int} (h : cGt a b = false) : a ≤ b := by have := of_decide_eq_false h; omega
/-- the loop of digits -/
theorem dig_loop {b : Int} {D : FEnds} {M : Sto} {x1 : Option EV} (hb : 2 ≤ b ∧ b < 2 ^ 100) : ∀ (k : Nat) (n : Int) (acc : List Int), n.toNat ≤ k → 0 ≤ n → acc.length + (lowd b n).length ≤ sizeLine →
    D.nx [some (.v (.int b)), x1, some (.v (.int 0)), some (.b ((acc ++ lowd b n).map .int))] M →
    whP (cB gtA (eV 2) (eC (.int 0))) (sSeq (sApp 3 (e2 modP (eV 2) (eV 0))) (sSet 2 (e2 divP (eV 2) (eV 0)))) D (k + 1) [some (.v (.int b)), x1, some (.v (.int n)), some (.b (acc.map .int))] M
  | k, n, acc, hk, h0, hl, q => by
    refine ⟨fun h => ?_, fun h => ?_⟩
    · have h := gtD h
      match k, hk with
      | 0, hk => omega
      | k + 1, hk =>
        have hd := div_lt h hb.1
        rw [lowd_pos h hb.1] at hl q
        rw [List.length_cons] at hl
        refine ⟨by omega, by rw [List.length_map]; omega, dv (by omega) hb.2, ?_⟩
        rw [← mapI]
        refine dig_loop hb k (n / b) (acc ++ [n % b]) (by omega) hd.2 (by rw [List.length_append, List.length_singleton]; omega) ?_
        rw [List.append_assoc]
        exact q
    · have h := gtN h
      have e : n = 0 := by omega
      rw [e, lowd_zero (Int.le_refl _), List.append_nil] at q
      rw [e]
      exact q
theorem l_digits : ∀ args M Q, sp_digits args M Q → args.length = 2 ∧ b_digits (fE Q) (fr0 2 args) M := fun args M Q h => by
  match args, h with
  | [.int b, .int n], ⟨⟨h1, h2, h3, h4⟩, hq⟩ =>
    refine ⟨rfl, ⟨h1, h2⟩, ⟨h3, BB_lim h4⟩, n.toNat + 1, ?_⟩
    have hl := lowd_len h1 1000 h3 (BB_nat h4)
    have h5 := line1
    refine dig_loop (acc := []) ⟨h1, by omega⟩ n.toNat n (Nat.le_refl _) h3 (by rw [List.length_nil]; omega) ?_
    rw [List.nil_append]
    show Q (.tup ((lowd b n).map PV.int).reverse) M
    rw [← List.map_reverse]
    exact hq
end Fl

end

section
set_option exponentiation.threshold 2000
namespace Fl
open PySem PySem.Spec PyProof.Rows L2
theorem foP_eq {g : FG} {mb : FS} {D : FEnds} {xs ys : List PV} {f : Fm} {M : Sto} (e : xs = ys) (h : foP g mb D ys f M) : foP g mb D xs f M := e ▸ h
theorem flatR (k : Nat) (d : Int) : (List.replicate k [PV.int d]).flatten = (List.replicate k d).map PV.int := by
  induction k with
  | zero => rfl
  | succ k ih =>
    rw [List.replicate_succ, List.flatten_cons, ih, List.replicate_succ]
    rfl
theorem iteN (a b : Nat) : (if (b : Int) > (a : Int) then (b : Int) else (a : Int)) = ((max a b : Nat) : Int) := by split <;> omega
theorem iteM (a b : Nat) : (if (b : Int) < (a : Int) then (b : Int) else (a : Int)) = ((min a b : Nat) : Int) := by split <;> omega
theorem atL (l : List Int) (c : Int) : atI ((l ++ [c]).map PV.int) (-1) = some (.int c) := by rw [mapI]; exact atI_last _ _
theorem eqD {a b : Int} (h : decide (a = b) = true) : a = b := of_decide_eq_true h
theorem eqN {a b : Int} (h : decide (a = b) = false) : a ≠ b := of_decide_eq_false h
/-- the loop of added -/
theorem add_loop {b : Int} {D : FEnds} {M : Sto} {x1 x2 x3 x4 x5 : Option EV} (hb : 2 ≤ b ∧ b < 2 ^ 100) : ∀ (xs ys : List Int) (ca : List Int) (c : Int) (fd : List Int) (x8 x9 x10 : Option EV), xs.length = ys.length → ca.length + xs.length + 1 < sizeLine → fd.length + xs.length < sizeLine →
    (∀ x8 x9 x10, D.nx [some (.v (.int b)), x1, x2, x3, x4, x5, some (.b ((ca ++ c :: crs b c xs ys).map .int)), some (.b ((fd ++ dgs b c xs ys).map .int)), x8, x9, x10] M) →
    foP (gS 2 (gsCons (gN 8) (gsCons (gN 9) gsNil))) w_added_bases_1 D
      (zipV (xs.map .int) (ys.map .int)) [some (.v (.int b)), x1, x2, x3, x4, x5, some (.b ((ca ++ [c]).map .int)), some (.b (fd.map .int)), x8, x9, x10] M
  | [], ys, ca, c, fd, x8, x9, x10, _, _, _, q => by
    have q := q x8 x9 x10
    rw [crs, dgs, List.append_nil] at q
    · exact q
    all_goals simp
  | x :: xs, [], ca, c, fd, x8, x9, x10, h, _, _, q => by simp at h
  | x :: xs, y :: ys, ca, c, fd, x8, x9, x10, h, h1, h2, q => by
    rw [List.length_cons] at h1 h2
    refine ⟨rfl, .int c, atL ca c, by omega, by rw [List.length_map]; omega, dv (by omega) hb.2, by rw [List.length_map, List.length_append, List.length_singleton]; omega, ?_⟩
    rw [← mapI, ← mapI]
    refine add_loop hb xs ys (ca ++ [c]) ((x + y + c) / b) (fd ++ [(x + y + c) % b]) _ _ _ (by simpa using h) (by rw [List.length_append, List.length_singleton]; omega) (by rw [List.length_append, List.length_singleton]; omega) fun x8 x9 x10 => ?_
    have q := q x8 x9 x10
    rw [crs, dgs] at q
    rw [List.append_assoc, List.append_assoc]
    exact q
theorem add_end {b : Int} {Q : PV → Sto → Prop} {M : Sto} {l1 l2 : List Int} {N : Nat} (hN : N = max l1.length l2.length) (g1 : l1.length ≤ 2000) (g2 : l2.length ≤ 2000) (h1 : 2 ≤ b) (h2 : b ≤ 1000) (k1 : wOk b l1) (k2 : wOk b l2)
    (hq : Q (.tup [.str "sum", pInts l1, pInts l2, pInts (carL b l1 l2), pInts (digs b (valL b l1 + valL b l2))]) M) :
    t_added_bases_4 (fE Q) [some (.v (.int b)), some (.v (pInts l1)), some (.v (pInts l2)), some (.v (.int N)), some (.v (pInts (pad N l1))), some (.v (pInts (pad N l2))), none, none, none, none, none] M := by
  have hz := line1
  have q1 : (pad N l1).reverse.length = N := by rw [List.length_reverse, pad_length (by omega)]
  have q2 : (pad N l2).reverse.length = N := by rw [List.length_reverse, pad_length (by omega)]
  refine foP_eq (ys := zipV ((pad N l1).reverse.map .int) ((pad N l2).reverse.map .int)) (by rw [List.map_reverse, List.map_reverse]) ?_
  refine add_loop (ca := []) (c := 0) (fd := []) ⟨h1, by omega⟩ (pad N l1).reverse (pad N l2).reverse none none none (by omega) (by rw [List.length_nil]; omega) (by rw [List.length_nil]; omega) fun x8 x9 x10 => ?_
  simp only [List.nil_append]
  obtain ⟨ini, ei⟩ := crs_last b 0 (pad N l1).reverse (pad N l2).reverse
  have hs := sum_digits h1 k1 k2 hN
  refine ⟨.int (crl b 0 (pad N l1).reverse (pad N l2).reverse), by rw [ei]; exact atL _ _, fun h => ⟨?_, ?_⟩, fun h => ?_⟩
  · rw [List.length_map, dgs_length b _ _ _ (by omega)]; omega
  · have h := eqD h
    simp only [h, if_true] at hs
    rw [← mapI, hs]
    show Q (.tup [.str "sum", pInts l1, pInts l2, .tup ((0 :: crs b 0 (pad N l1).reverse (pad N l2).reverse).map .int), .tup ((lowd b (valL b l1 + valL b l2)).map PV.int).reverse]) M
    rw [← List.map_reverse, hN]
    exact hq
  · have h := eqN h
    simp only [h, if_false, List.append_nil] at hs
    rw [hs]
    show Q (.tup [.str "sum", pInts l1, pInts l2, .tup ((0 :: crs b 0 (pad N l1).reverse (pad N l2).reverse).map .int), .tup ((lowd b (valL b l1 + valL b l2)).map PV.int).reverse]) M
    rw [← List.map_reverse, hN]
    exact hq
theorem add_mid {b : Int} {Q : PV → Sto → Prop} {M : Sto} {l1 l2 : List Int} {N : Nat} (hN : N = max l1.length l2.length) (g1 : l1.length ≤ 2000) (g2 : l2.length ≤ 2000)
    (h : t_added_bases_4 (fE Q) [some (.v (.int b)), some (.v (pInts l1)), some (.v (pInts l2)), some (.v (.int N)), some (.v (pInts (pad N l1))), some (.v (pInts (pad N l2))), none, none, none, none, none] M) :
    t_added_bases_2 (fE Q) [some (.v (.int b)), some (.v (pInts l1)), some (.v (pInts l2)), some (.v (.int N)), none, none, none, none, none, none, none] M := by
  have hz := line1
  have p1 : ∀ l : List Int, l.length ≤ N → (List.replicate ((N : Int) - ((l.map PV.int).length : Int)).toNat [PV.int 0]).flatten ++ l.map PV.int = (pad N l).map PV.int := fun l hl => by
    rw [flatR, ← List.map_append, List.length_map]
    unfold pad
    rw [show ((N : Int) - (l.length : Int)).toNat = N - l.length by omega]
  have p2 : ∀ l : List Int, l.length ≤ N → N ≤ 2000 → ((-(2 ^ 62) ≤ (N : Int) - ((l.map PV.int).length : Int) ∧ (N : Int) - ((l.map PV.int).length : Int) < 2 ^ 62) ∧ [PV.int 0].length * ((N : Int) - ((l.map PV.int).length : Int)).toNat ≤ sizeLine) ∧
      (List.replicate ((N : Int) - ((l.map PV.int).length : Int)).toNat [PV.int 0]).flatten.length + (l.map PV.int).length ≤ sizeLine := fun l hl hn => by
    rw [flatR, List.length_map, List.length_map, List.length_replicate, List.length_singleton]
    omega
  have e1 := p2 l1 (by omega) (by omega)
  have e2 := p2 l2 (by omega) (by omega)
  unfold pInts at h
  rw [← p1 l1 (by omega), ← p1 l2 (by omega)] at h
  exact ⟨e1.1, e1.2, e2.1, e2.2, h⟩
theorem l_added_bases : ∀ args M Q, sp_added_bases args M Q → args.length = 3 ∧ b_added_bases (fE Q) (fr0 8 args) M := fun args M Q h => by
  match args, h with
  | [.int b, w1, w2], ⟨l1, l2, hw1, hw2, ⟨g1, g2, h1, h2, k1, k2⟩, hq⟩ =>
    have hz := line1
    refine ⟨rfl, l1, hw1, ⟨by omega, h1, h2, k1⟩, l2, hw2, ⟨by omega, h1, h2, k2⟩, ?_⟩
    have e1 : ((max l1.length l2.length : Nat) : Int) = (if ((l2.map PV.int).length : Int) > ((l1.map PV.int).length : Int) then ((l2.map PV.int).length : Int) else ((l1.map PV.int).length : Int)) := by rw [iteN, List.length_map, List.length_map]
    have h := add_mid (b := b) rfl g1 g2 (add_end rfl g1 g2 h1 h2 k1 k2 hq)
    rw [e1] at h
    exact h
end Fl

end

section
set_option exponentiation.threshold 2000
namespace Fl
open PySem PySem.Spec PyProof.Rows L2
theorem ipow_right {b : Int} (hb : 1 ≤ b) {i j : Nat} (h : i ≤ j) : b ^ i ≤ b ^ j := by
  obtain ⟨k, rfl⟩ := Nat.exists_eq_add_of_le h
  induction k with
  | zero => exact Int.le_refl _
  | succ k ih =>
    have h1 : 0 ≤ b ^ (i + k) := Int.pow_nonneg (by omega)
    have h2 : b ^ (i + (k + 1)) = b ^ (i + k) * b := by rw [← Int.pow_succ]; rfl
    have h3 : b ^ (i + k) * 1 ≤ b ^ (i + k) * b := Int.mul_le_mul_of_nonneg_left hb h1
    have := ih (by omega)
    omega
theorem ipow_left {a b : Int} (ha : 0 ≤ a) (h : a ≤ b) : ∀ n : Nat, a ^ n ≤ b ^ n
  | 0 => by rw [Int.pow_zero, Int.pow_zero]; omega
  | n + 1 => by
    rw [Int.pow_succ, Int.pow_succ]
    exact Int.mul_le_mul (ipow_left ha h n) h ha (Int.pow_nonneg (by omega))
theorem bits_le {x : Int} {K : Nat} (h : x.natAbs < 2 ^ K) : Builtin.Int.intBits x ≤ K := by
  unfold Builtin.Int.intBits
  split
  · exact Nat.zero_le _
  · rename_i hx
    have hx : x ≠ 0 := fun e => hx (by rw [e]; rfl)
    have := (Nat.log2_lt (k := K) (n := x.natAbs) (by omega)).mpr h
    omega
theorem mul_b {x y : Int} {K : Nat} (hK : K ≤ 1048576) (hx : x.natAbs < 2 ^ K) (hy : y.natAbs < 2 ^ K) : IntMulOk x y :=
  .of_bits (Nat.le_trans (bits_le hx) (by omega)) (Nat.le_trans (bits_le hy) (by omega))
theorem pow_le {b : Int} (hb : 0 ≤ b) {i j : Nat} (h : i ≤ j) {K : Nat} (hj : b ^ j < 2 ^ K) (hK : 0 < K) : (b ^ i).natAbs < 2 ^ K := by
  have h0 : 0 ≤ b ^ i := Int.pow_nonneg hb
  have h1 : b ^ i < 2 ^ K := by
    by_cases hz : b = 0
    · rw [hz]
      have : (0 : Int) ^ i ≤ 1 := by
        cases i with
        | zero => rw [Int.pow_zero]; omega
        | succ i => rw [Int.pow_succ, Int.mul_zero]; omega
      have h2 : (2 : Int) ^ 1 ≤ 2 ^ K := ipow_right (by omega) hK
      omega
    · exact Int.lt_of_le_of_lt (ipow_right (by omega) h) hj
  have h2 : ((2 ^ K : Nat) : Int) = 2 ^ K := by rw [Int.natCast_pow]; rfl
  omega
theorem pow_loop {b : Int} {D : FEnds} {M : Sto} {x1 : Option EV} {e K : Nat} (hb : 0 ≤ b) (hK : 0 < K ∧ K ≤ 1048576) (hs : b ^ (2 * e) < 2 ^ K) : ∀ (k L r f : Nat), L ≤ k → r + f * L = e →
    (∀ x4, D.nx [some (.v (.int b)), x1, some (.v (.int (b ^ e))), some (.v (.int 0)), x4] M) →
    whP c_power_1 w_power_1 D (k + 1) [some (.v (.int b)), x1, some (.v (.int (b ^ r))), some (.v (.int L)), some (.v (.int (b ^ f)))] M
  | k, L, r, f, hk, hr, q => by
    refine ⟨fun h => ?_, fun h => ?_⟩
    · have h := gtD h
      match k, hk with
      | 0, hk => omega
      | k + 1, hk =>
        have hf : f ≤ e := by
          have : f * 1 ≤ f * L := Nat.mul_le_mul_left _ (by omega)
          omega
        have hr2 : r ≤ e := by omega
        have m1 : IntMulOk (b ^ r) (b ^ f) := mul_b hK.2 (pow_le hb (by omega) hs hK.1) (pow_le hb (by omega) hs hK.1)
        have m2 : IntMulOk (b ^ f) (b ^ f) := mul_b hK.2 (pow_le hb (by omega) hs hK.1) (pow_le hb (by omega) hs hK.1)
        have e2 : b ^ f * b ^ f = b ^ (2 * f) := by rw [← Int.pow_add]; congr 1; omega
        have e3 : b ^ r * b ^ f = b ^ (r + f) := by rw [← Int.pow_add]
        have e4 : ((L : Int) / 2) = ((L / 2 : Nat) : Int) := by omega
        refine ⟨by omega, fun h2 => ?_, fun h2 => ?_⟩
        · have h2 := eqD h2
          refine ⟨m1, m2, dv (by omega) (by omega), ?_⟩
          have ih := pow_loop hb hK hs k (L / 2) (r + f) (2 * f) (by omega) (by
            have : L = 2 * (L / 2) + 1 := by omega
            have e5 : f * L = 2 * f * (L / 2) + f := by
              rw [show 2 * f * (L / 2) = f * (2 * (L / 2)) by rw [Nat.mul_comm 2 f, Nat.mul_assoc]]
              rw [← Nat.mul_succ]
              congr 1
            omega) q
          rw [← e2, ← e3, ← e4] at ih
          exact ih
        · have h2 := eqN h2
          refine ⟨m2, dv (by omega) (by omega), ?_⟩
          have ih := pow_loop hb hK hs k (L / 2) r (2 * f) (by omega) (by
            have : L = 2 * (L / 2) := by omega
            have e5 : f * L = 2 * f * (L / 2) := by
              rw [show 2 * f * (L / 2) = f * (2 * (L / 2)) by rw [Nat.mul_comm 2 f, Nat.mul_assoc]]
              congr 1
            omega) q
          rw [← e2, ← e4] at ih
          exact ih
    · have h := gtN h
      have e0 : L = 0 := by omega
      subst e0
      rw [Nat.mul_zero, Nat.add_zero] at hr
      subst hr
      exact q _
theorem l_power : ∀ args M Q, sp_power args M Q → args.length = 2 ∧ b_power (fE Q) (fr0 3 args) M := fun args M Q h => by
  match args, h with
  | [.int b, .int e], ⟨⟨h1, h2, h3, h4⟩, hq⟩ =>
    refine ⟨rfl, fun h => ?_, fun _ => ⟨e.toNat + 1, ?_⟩⟩
    · have := of_decide_eq_true h
      omega
    · have hs : b ^ (2 * e.toNat) < 2 ^ 128 := by
        have a1 : b ^ (2 * e.toNat) ≤ 1000 ^ (2 * e.toNat) := ipow_left h1 h2 _
        have a2 : (1000 : Int) ^ (2 * e.toNat) ≤ 1000 ^ 10 := ipow_right (by omega) (by omega)
        omega
      have := pow_loop (D := { fE Q with nx := sRet (eV 2) (fE Q) }) (M := M) (x1 := some (.v (.int e))) h1 ⟨(by omega : 0 < 128), by omega⟩ hs e.toNat e.toNat 0 1 (Nat.le_refl _) (by omega) fun x4 => hq
      rw [Int.pow_zero, Int.pow_succ, Int.pow_zero, Int.one_mul, show ((e.toNat : Nat) : Int) = e by omega] at this
      exact this
theorem l_less : ∀ args M Q, sp_less args M Q → args.length = 3 ∧ b_less (fE Q) (fr0 2 args) M := fun args M Q h => by
  match args, h with
  | [.int b, w1, w2], ⟨l1, l2, hw1, hw2, ⟨g1, g2, h1, h2, k1, k2, h3, h4⟩, hq⟩ =>
    have hz := line1
    refine ⟨rfl, l1, hw1, ⟨by omega, h1, h2, k1⟩, l1, .inl rfl, ⟨by omega, by omega⟩, l2, hw2, ⟨by omega, h1, h2, k2⟩, l2, .inl rfl, ⟨by omega, by omega⟩, fun h => ?_, fun h => ?_⟩
    · have h := of_decide_eq_true h
      omega
    · have : 0 ≤ valL b l2 := by rw [valL_vl]; exact vl_nonneg (by omega) fun d hd => (k2.1 d (List.mem_reverse.mp hd)).1
      exact ⟨⟨h1, h2, by omega, by omega⟩, hq⟩
end Fl

end

section
set_option exponentiation.threshold 2000
namespace Fl
open PySem PySem.Spec PyProof.Rows L2
/-! ### a word times a factor -/
def sdg (b f : Int) : Int → List Int → List Int
  | _, [] => []
  | c, x :: xs => (x * f + c) % b :: sdg b f ((x * f + c) / b) xs
def scl (b f : Int) : Int → List Int → Int
  | c, [] => c
  | c, x :: xs => scl b f ((x * f + c) / b) xs
theorem scr_last (b f : Int) : ∀ (c : Int) (xs : List Int), ∃ ini, c :: scr b f c xs = ini ++ [scl b f c xs]
  | c, [] => ⟨[], by simp [scr, scl]⟩
  | c, x :: xs => by
    obtain ⟨ini, e⟩ := scr_last b f ((x * f + c) / b) xs
    exact ⟨c :: ini, by rw [scr, scl, e]; rfl⟩
theorem sdg_length (b f : Int) : ∀ (c : Int) (xs : List Int), (sdg b f c xs).length = xs.length
  | c, [] => rfl
  | c, x :: xs => by rw [sdg, List.length_cons, List.length_cons, sdg_length b f _ xs]
theorem sdg_ok {b f : Int} (hb : 2 ≤ b) (hf : 0 ≤ f) : ∀ (c : Int) (xs : List Int), okD1 0 b xs → 0 ≤ c ∧ c ≤ f →
    okD1 0 b (sdg b f c xs) ∧ (0 ≤ scl b f c xs ∧ scl b f c xs ≤ f) ∧ vl b (sdg b f c xs) + b ^ xs.length * scl b f c xs = vl b xs * f + c
  | c, [], _, hc => ⟨fun d hd => (by simp [sdg] at hd), hc, by simp [sdg, scl, vl]⟩
  | c, x :: xs, hx, hc => by
    have h1 := hx x (by simp)
    have e1 := Int.emod_nonneg (x * f + c) (by omega : b ≠ 0)
    have e2 := Int.emod_lt_of_pos (x * f + c) (by omega : 0 < b)
    have e3 := Int.emod_add_mul_ediv (x * f + c) b
    have p1 : 0 ≤ x * f := Int.mul_nonneg h1.1 hf
    have p2 : x * f ≤ (b - 1) * f := Int.mul_le_mul_of_nonneg_right (by omega) hf
    have h3 : 0 ≤ (x * f + c) / b ∧ (x * f + c) / b ≤ f := by
      refine ⟨Int.ediv_nonneg (by omega) (by omega), ?_⟩
      apply Int.ediv_le_of_le_mul (by omega)
      rw [Int.sub_mul, Int.one_mul] at p2
      rw [Int.mul_comm f b]
      omega
    obtain ⟨i1, i2, i3⟩ := sdg_ok hb hf ((x * f + c) / b) xs (fun d hd => hx d (by simp [hd])) h3
    refine ⟨fun d hd => ?_, i2, ?_⟩
    · rw [sdg] at hd
      rcases List.mem_cons.mp hd with q | q
      · rw [q]; omega
      · exact i1 d q
    · rw [sdg, scl]
      show (x * f + c) % b + b * vl b (sdg b f ((x * f + c) / b) xs) + b ^ (xs.length + 1) * scl b f ((x * f + c) / b) xs = (x + b * vl b xs) * f + c
      have e4 : b ^ (xs.length + 1) * scl b f ((x * f + c) / b) xs = b * (b ^ xs.length * scl b f ((x * f + c) / b) xs) := by
        rw [Int.pow_succ, Int.mul_comm (b ^ xs.length) b, Int.mul_assoc]
      have e5 : b * (vl b (sdg b f ((x * f + c) / b) xs) + b ^ xs.length * scl b f ((x * f + c) / b) xs) = b * (vl b xs * f + (x * f + c) / b) := by rw [i3]
      rw [Int.mul_add, Int.mul_add] at e5
      have e6 : (x + b * vl b xs) * f = x * f + b * (vl b xs * f) := by rw [Int.add_mul, Int.mul_assoc]
      omega
theorem sc_loop {b f : Int} {D : FEnds} {M : Sto} {x1 x7 : Option EV} (hb : 2 ≤ b ∧ b ≤ 1000) : ∀ (xs : List Int) (ca : List Int) (c : Int) (fd : List Int) (x5 x6 : Option EV), okD1 0 b xs → ca.length + xs.length + 1 < sizeLine → fd.length + xs.length < sizeLine →
    (∀ x5 x6, D.nx [some (.v (.int b)), x1, some (.v (.int f)), some (.b ((ca ++ c :: scr b f c xs).map .int)), some (.b ((fd ++ sdg b f c xs).map .int)), x5, x6, x7] M) →
    foP (gN 5) w_scaled_1 D (xs.map .int) [some (.v (.int b)), x1, some (.v (.int f)), some (.b ((ca ++ [c]).map .int)), some (.b (fd.map .int)), x5, x6, x7] M
  | [], ca, c, fd, x5, x6, _, _, _, q => by
    have q := q x5 x6
    rw [scr, sdg, List.append_nil] at q
    exact q
  | x :: xs, ca, c, fd, x5, x6, hx, h1, h2, q => by
    rw [List.length_cons] at h1 h2
    have hd := hx x (by simp)
    refine ⟨mul_l (by omega) (by omega), .int c, atL ca c, by omega, by rw [List.length_map]; omega, dv (by omega) (by omega), by rw [List.length_map, List.length_append, List.length_singleton]; omega, ?_⟩
    rw [← mapI, ← mapI]
    refine sc_loop hb xs (ca ++ [c]) ((x * f + c) / b) (fd ++ [(x * f + c) % b]) _ _ (fun d hd => hx d (by simp [hd])) (by rw [List.length_append, List.length_singleton]; omega) (by rw [List.length_append, List.length_singleton]; omega) fun x5 x6 => ?_
    have q := q x5 x6
    rw [scr, sdg] at q
    rw [List.append_assoc, List.append_assoc]
    exact q
theorem sc_loop2 {b : Int} {D : FEnds} {M : Sto} {x1 x2 x3 x5 x6 : Option EV} (hb : 2 ≤ b ∧ b < 2 ^ 100) : ∀ (k : Nat) (n : Int) (acc : List Int), n.toNat ≤ k → 0 ≤ n → acc.length + (lowd b n).length ≤ sizeLine →
    D.nx [some (.v (.int b)), x1, x2, x3, some (.b ((acc ++ lowd b n).map .int)), x5, x6, some (.v (.int 0))] M →
    whP c_scaled_2 w_scaled_2 D (k + 1) [some (.v (.int b)), x1, x2, x3, some (.b (acc.map .int)), x5, x6, some (.v (.int n))] M
  | k, n, acc, hk, h0, hl, q => by
    refine ⟨fun h => ?_, fun h => ?_⟩
    · have h := gtD h
      match k, hk with
      | 0, hk => omega
      | k + 1, hk =>
        have hd := div_lt h hb.1
        rw [lowd_pos h hb.1] at hl q
        rw [List.length_cons] at hl
        refine ⟨by omega, by rw [List.length_map]; omega, dv (by omega) hb.2, ?_⟩
        rw [← mapI]
        refine sc_loop2 hb k (n / b) (acc ++ [n % b]) (by omega) hd.2 (by rw [List.length_append, List.length_singleton]; omega) ?_
        rw [List.append_assoc]
        exact q
    · have h := gtN h
      have e : n = 0 := by omega
      rw [e, lowd_zero (Int.le_refl _), List.append_nil] at q
      rw [e]
      exact q
/-- the zeros at the end gone -/
def trim : List Int → List Int
  | [] => []
  | d :: r => match trim r with
    | [] => if d = 0 then [] else [d]
    | e :: m => d :: e :: m
theorem trim_snoc0 : ∀ l : List Int, trim (l ++ [0]) = trim l
  | [] => rfl
  | d :: l => by
    show trim (d :: (l ++ [0])) = _
    rw [trim, trim_snoc0 l, trim]
theorem trim_snoc {d : Int} (hd : d ≠ 0) : ∀ l : List Int, trim (l ++ [d]) = l ++ [d]
  | [] => by
    show trim [d] = [d]
    rw [trim]
    show (if d = 0 then [] else [d]) = [d]
    rw [if_neg hd]
  | x :: l => by
    show trim (x :: (l ++ [d])) = _
    rw [trim, trim_snoc hd l]
    cases l <;> rfl
theorem trim_vl (b : Int) : ∀ l : List Int, vl b (trim l) = vl b l
  | [] => rfl
  | d :: r => by
    have ih := trim_vl b r
    rw [trim]
    split
    · rename_i e
      rw [e] at ih
      have ih : vl b r = 0 := ih.symm
      show _ = d + b * vl b r
      rw [ih, Int.mul_zero]
      split
      · rename_i e; rw [e]; rfl
      · show d + b * 0 = _
        rw [Int.mul_zero]
    · rename_i e m h
      rw [h] at ih
      show d + b * vl b (e :: m) = d + b * vl b r
      rw [ih]
theorem trim_mem : ∀ {l : List Int} {d : Int}, d ∈ trim l → d ∈ l
  | [], d, h => h
  | x :: r, d, h => by
    rw [trim] at h
    split at h
    · split at h
      · exact absurd h (by simp)
      · rw [List.mem_singleton.mp h]; simp
    · rename_i e m q
      rcases List.mem_cons.mp h with z | z
      · rw [z]; simp
      · exact List.mem_cons_of_mem _ (trim_mem (by rw [q]; exact z))
theorem trim_top : ∀ l : List Int, topOk (trim l)
  | [] => trivial
  | d :: r => by
    have ih := trim_top r
    rw [trim]
    split
    · split
      · exact trivial
      · assumption
    · rename_i e m q
      rw [q] at ih
      exact ih
theorem trim_low {b : Int} (hb : 2 ≤ b) {l : List Int} (h : okD1 0 b l) : trim l = lowd b (vl b l) := by
  rw [← trim_vl b l]
  exact lowd_of hb (fun d hd => h d (trim_mem hd)) (trim_top l)
theorem snoc_or (l : List Int) : l = [] ∨ ∃ i d, l = i ++ [d] := by
  rcases List.eq_nil_or_concat l with h | ⟨i, d, h⟩
  · exact .inl h
  · exact .inr ⟨i, d, by rw [h, List.concat_eq_append]⟩
theorem sc_loop3 {D : FEnds} {M : Sto} {x0 x1 x2 x3 x5 x6 x7 : Option EV} : ∀ (k : Nat) (l : List Int), l.length ≤ k →
    D.nx [x0, x1, x2, x3, some (.b ((trim l).map .int)), x5, x6, x7] M →
    whP c_scaled_3 w_scaled_3 D (k + 1) [x0, x1, x2, x3, some (.b (l.map .int)), x5, x6, x7] M
  | k, l, hk, q => by
    rcases snoc_or l with e | ⟨i, d, e⟩
    · subst e
      refine ⟨trivial, fun h => ?_, fun _ => ⟨fun h => ?_, fun _ => q⟩⟩
      · cases (show false = true from h)
      · cases h
    · subst e
      refine ⟨trivial, fun _ => ⟨.int d, atL i d, fun h => ?_, fun h => ?_⟩, fun h => ?_⟩
      · have h := eqD h
        subst h
        rw [List.length_append, List.length_singleton] at hk
        match k, hk with
        | 0, hk => omega
        | k + 1, hk =>
          refine ⟨by rw [mapI]; simp, ?_⟩
          rw [mapI, List.dropLast_concat]
          rw [trim_snoc0] at q
          exact sc_loop3 k i (by omega) q
      · have h := eqN h
        rw [trim_snoc h] at q
        exact q
      · have h : (!((i ++ [d]).map PV.int).isEmpty) = false := h
        rw [mapI] at h
        simp at h
theorem l_scaled : ∀ args M Q, sp_scaled args M Q → args.length = 3 ∧ b_scaled (fE Q) (fr0 5 args) M := fun args M Q h => by
  match args, h with
  | [.int b, w, .int f], ⟨l, hw, ⟨g1, h1, h2, k1, f1, f2⟩, hq⟩ =>
    have hz := line1
    obtain ⟨ini, ei⟩ := scr_last b f 0 l.reverse
    have hl : okD1 0 b l.reverse := fun d hd => k1.1 d (List.mem_reverse.mp hd)
    obtain ⟨i1, i2, i3⟩ := sdg_ok h1 f1 0 l.reverse hl ⟨Int.le_refl _, f1⟩
    have hc := lowd_len h1 1000 i2.1 (BB_nat (by omega))
    refine ⟨rfl, ⟨f1, BB_lim f2⟩, l, hw, ⟨by omega, h1, h2, k1⟩, ?_⟩
    refine foP_eq (ys := l.reverse.map .int) (by rw [List.map_reverse]) ?_
    refine sc_loop (ca := []) (c := 0) (fd := []) ⟨h1, h2⟩ l.reverse none none hl (by rw [List.length_nil, List.length_reverse]; omega) (by rw [List.length_nil, List.length_reverse]; omega) fun x5 x6 => ?_
    simp only [List.nil_append]
    refine ⟨.int (scl b f 0 l.reverse), by rw [ei]; exact atL _ _, (scl b f 0 l.reverse).toNat + 1, ?_⟩
    refine sc_loop2 ⟨h1, by omega⟩ _ _ _ (Nat.le_refl _) i2.1 (by rw [sdg_length, List.length_reverse]; omega) ?_
    refine ⟨_, sc_loop3 _ _ (Nat.le_refl _) ?_⟩
    have hd : okD1 0 b (sdg b f 0 l.reverse ++ lowd b (scl b f 0 l.reverse)) := fun d hd => by
      rcases List.mem_append.mp hd with q | q
      · exact i1 d q
      · exact lowd_dig h1 i2.1 d q
    rw [trim_low h1 hd, vl_append, sdg_length, lowd_val h1 i2.1, i3, Int.add_zero, ← valL_vl]
    show Q (.tup [.tup ((0 :: scr b f 0 l.reverse).map .int), .tup ((lowd b (valL b l * f)).map PV.int).reverse]) M
    rw [← List.map_reverse]
    exact hq
end Fl

end

section
set_option exponentiation.threshold 2000
namespace Fl
open PySem PySem.Spec PyProof.Rows L2
/-! ### from one base to another -/
theorem sdg_top {b f : Int} (hb : 2 ≤ b) (hf : 1 ≤ f) : ∀ (c : Int) (xs : List Int), okD1 0 b xs → 0 ≤ c → xs ≠ [] → topOk xs → scl b f c xs = 0 → topOk (sdg b f c xs)
  | c, [], _, _, hn, _, _ => absurd rfl hn
  | c, [x], hx, hc, _, ht, hz => by
    have h1 := hx x (by simp)
    have hz : (x * f + c) / b = 0 := hz
    have e3 := Int.emod_add_mul_ediv (x * f + c) b
    rw [hz, Int.mul_zero] at e3
    have ht : x ≠ 0 := ht
    have p : 1 * f ≤ x * f := Int.mul_le_mul_of_nonneg_right (by omega) (by omega)
    show (x * f + c) % b ≠ 0
    omega
  | c, x :: x' :: xs, hx, hc, _, ht, hz => by
    have h1 := hx x (by simp)
    have p : 0 ≤ x * f := Int.mul_nonneg h1.1 (by omega)
    exact sdg_top hb hf ((x * f + c) / b) (x' :: xs) (fun d hd => hx d (by simp [hd])) (Int.ediv_nonneg (by omega) (by omega)) (by simp) ht hz
theorem topOk_app : ∀ (l m : List Int), m ≠ [] → topOk m → topOk (l ++ m)
  | [], m, _, h => h
  | [d], [], hn, _ => absurd rfl hn
  | [d], e :: m, _, h => h
  | d :: e :: l, m, hn, h => topOk_app (e :: l) m hn h
theorem step_low {o b d v : Int} (ho : 2 ≤ o) (hb : 2 ≤ b) (hd : 0 ≤ d ∧ d < b) (hv : 0 ≤ v) : sdg o b d (lowd o v) ++ lowd o (scl o b d (lowd o v)) = lowd o (v * b + d) := by
  obtain ⟨i1, i2, i3⟩ := sdg_ok ho (by omega : 0 ≤ b) d (lowd o v) (lowd_dig ho hv) ⟨hd.1, by omega⟩
  rw [lowd_val ho hv] at i3
  have ev : vl o (sdg o b d (lowd o v) ++ lowd o (scl o b d (lowd o v))) = v * b + d := by
    rw [vl_append, sdg_length, lowd_val ho i2.1, i3]
  rw [← ev]
  refine lowd_of ho (fun x hx => ?_) ?_
  · rcases List.mem_append.mp hx with q | q
    · exact i1 x q
    · exact lowd_dig ho i2.1 x q
  · by_cases hz : scl o b d (lowd o v) = 0
    · rw [hz, lowd_zero (Int.le_refl _), List.append_nil]
      by_cases hn : lowd o v = []
      · rw [hn]; exact trivial
      · exact sdg_top ho (by omega) d _ (lowd_dig ho hv) hd.1 hn (lowd_top ho hv) hz
    · have hp : 0 < scl o b d (lowd o v) := by omega
      exact topOk_app _ _ (by rw [lowd_pos hp ho]; simp) (lowd_top ho i2.1)
theorem foldl_ge {b : Int} (hb : 1 ≤ b) : ∀ (l : List Int) (v : Int), (∀ d ∈ l, 0 ≤ d) → 0 ≤ v → v ≤ l.foldl (fun a d => a * b + d) v
  | [], v, _, _ => Int.le_refl _
  | d :: l, v, h, hv => by
    have hd := h d (by simp)
    have p : v * 1 ≤ v * b := Int.mul_le_mul_of_nonneg_left hb hv
    have := foldl_ge hb l (v * b + d) (fun x hx => h x (by simp [hx])) (by omega)
    show v ≤ l.foldl _ (v * b + d)
    omega
theorem io_loop2 {b o : Int} {D : FEnds} {M : Sto} {x1 x3 x4 : Option EV} (hb : 2 ≤ b ∧ b ≤ 1000) (ho : 2 ≤ o ∧ o ≤ 1000) : ∀ (xs : List Int) (c : Int) (fd : List Int) (x7 x8 : Option EV), fd.length + xs.length < sizeLine →
    (∀ x7 x8, D.nx [some (.v (.int b)), x1, some (.v (.int o)), x3, x4, some (.v (.int (scl o b c xs))), some (.b ((fd ++ sdg o b c xs).map .int)), x7, x8] M) →
    foP (gN 7) w_in_other_2 D (xs.map .int) [some (.v (.int b)), x1, some (.v (.int o)), x3, x4, some (.v (.int c)), some (.b (fd.map .int)), x7, x8] M
  | [], c, fd, x7, x8, _, q => by
    have q := q x7 x8
    rw [scl, sdg, List.append_nil] at q
    exact q
  | x :: xs, c, fd, x7, x8, h1, q => by
    rw [List.length_cons] at h1
    refine ⟨mul_r (by omega) (by omega), by omega, by rw [List.length_map]; omega, dv (by omega) (by omega), ?_⟩
    rw [← mapI]
    refine io_loop2 hb ho xs ((x * b + c) / o) (fd ++ [(x * b + c) % o]) _ _ (by rw [List.length_append, List.length_singleton]; omega) fun x7 x8 => ?_
    have q := q x7 x8
    rw [scl, sdg] at q
    rw [List.append_assoc]
    exact q
theorem io_loop3 {o : Int} {D : FEnds} {M : Sto} {x0 x1 x3 x4 x7 x8 : Option EV} (hb : 2 ≤ o ∧ o < 2 ^ 100) : ∀ (k : Nat) (n : Int) (acc : List Int), n.toNat ≤ k → 0 ≤ n → acc.length + (lowd o n).length ≤ sizeLine →
    D.nx [x0, x1, some (.v (.int o)), x3, x4, some (.v (.int 0)), some (.b ((acc ++ lowd o n).map .int)), x7, x8] M →
    whP c_in_other_3 w_in_other_3 D (k + 1) [x0, x1, some (.v (.int o)), x3, x4, some (.v (.int n)), some (.b (acc.map .int)), x7, x8] M
  | k, n, acc, hk, h0, hl, q => by
    refine ⟨fun h => ?_, fun h => ?_⟩
    · have h := gtD h
      match k, hk with
      | 0, hk => omega
      | k + 1, hk =>
        have hd := div_lt h hb.1
        rw [lowd_pos h hb.1] at hl q
        rw [List.length_cons] at hl
        refine ⟨by omega, by rw [List.length_map]; omega, dv (by omega) hb.2, ?_⟩
        rw [← mapI]
        refine io_loop3 hb k (n / o) (acc ++ [n % o]) (by omega) hd.2 (by rw [List.length_append, List.length_singleton]; omega) ?_
        rw [List.append_assoc]
        exact q
    · have h := gtN h
      have e : n = 0 := by omega
      rw [e, lowd_zero (Int.le_refl _), List.append_nil] at q
      rw [e]
      exact q
theorem io_loop1 {b o : Int} {D : FEnds} {M : Sto} {x1 : Option EV} (hb : 2 ≤ b ∧ b ≤ 1000) (ho : 2 ≤ o ∧ o ≤ 1000) : ∀ (l : List Int) (v : Int) (x4 x5 x6 x7 x8 : Option EV), okD1 0 b l → 0 ≤ v → l.foldl (fun a d => a * b + d) v < BB →
    (∀ x4 x5 x6 x7 x8, D.nx [some (.v (.int b)), x1, some (.v (.int o)), some (.v (.lst ((lowd o (l.foldl (fun a d => a * b + d) v)).map .int))), x4, x5, x6, x7, x8] M) →
    foP (gN 4) w_in_other_1 D (l.map .int) [some (.v (.int b)), x1, some (.v (.int o)), some (.v (.lst ((lowd o v).map .int))), x4, x5, x6, x7, x8] M
  | [], v, x4, x5, x6, x7, x8, _, _, _, q => q x4 x5 x6 x7 x8
  | d :: l, v, x4, x5, x6, x7, x8, hd, hv, hB, q => by
    have hz := line1
    have h1 := hd d (by simp)
    have p : v * 1 ≤ v * b := Int.mul_le_mul_of_nonneg_left (by omega) hv
    have hd' : okD1 0 b l := fun x hx => hd x (by simp [hx])
    have g := foldl_ge (by omega : 1 ≤ b) l (v * b + d) (fun x hx => (hd' x hx).1) (by omega)
    have hB' : l.foldl (fun a d => a * b + d) (v * b + d) < BB := hB
    have len1 := lowd_len ho.1 1000 hv (BB_nat (by omega))
    have len2 := lowd_len ho.1 1000 (by omega : 0 ≤ v * b + d) (BB_nat (by omega))
    have i2 := (sdg_ok ho.1 (by omega : 0 ≤ b) d (lowd o v) (lowd_dig ho.1 hv) ⟨h1.1, by omega⟩).2.1
    have es := step_low ho.1 hb.1 ⟨h1.1, by omega⟩ hv (d := d)
    refine io_loop2 (fd := []) hb ho (lowd o v) d x7 x8 (by rw [List.length_nil]; omega) fun x7 x8 => ⟨_, io_loop3 ⟨ho.1, by omega⟩ _ _ _ (Nat.le_refl _) i2.1 ?_ ?_⟩
    · rw [List.nil_append, ← List.length_append, es]
      omega
    · rw [List.nil_append, es]
      exact io_loop1 hb ho l (v * b + d) _ _ _ _ _ hd' (by omega) hB' q
theorem l_in_other : ∀ args M Q, sp_in_other args M Q → args.length = 3 ∧ b_in_other (fE Q) (fr0 6 args) M := fun args M Q h => by
  match args, h with
  | [.int b, w, .int o], ⟨l, hw, ⟨g1, h1, h2, h3, h4, k1, k2⟩, hq⟩ =>
    have hz := line1
    refine ⟨rfl, ⟨h3, h4⟩, l, hw, ⟨by omega, h1, h2, k1⟩, ?_⟩
    have z : ([] : List PV) = (lowd o 0).map .int := by rw [lowd_zero (Int.le_refl _)]; rfl
    have := io_loop1 (D := { fE Q with nx := t_in_other_3 (fE Q) }) (M := M) (x1 := some (.v w)) ⟨h1, h2⟩ ⟨h3, h4⟩ l 0 none none none none none (fun d hd => by have := k1.1 d hd; omega) (Int.le_refl _) k2 fun x4 x5 x6 x7 x8 => by
      show Q (.tup ((lowd o (valL b l)).map PV.int).reverse) M
      rw [← List.map_reverse]
      exact hq
    rw [← z] at this
    exact this
end Fl

end

section
set_option exponentiation.threshold 2000
namespace Fl
open PySem PySem.Spec PyProof.Rows L2
/-! ### the order of words -/
structure OrdC (c : Int → Int → Bool) : Prop where
  mono : ∀ a b a' b' : Int, (a < b ↔ a' < b') → (b < a ↔ b' < a') → c a b = c a' b'
theorem oc_lt : OrdC cLt := ⟨fun a b a' b' h _ => decide_eq_decide.mpr h⟩
theorem oc_gt : OrdC cGt := ⟨fun a b a' b' _ h => decide_eq_decide.mpr h⟩
theorem valL_cons (b d : Int) (r : List Int) : valL b (d :: r) = d * b ^ r.length + valL b r := by
  unfold valL
  show r.foldl _ (0 * b + d) = _
  rw [foldl_vl, foldl_vl, Int.zero_mul, Int.zero_add, Int.mul_zero, Int.add_zero, Int.mul_comm d]
  omega
theorem valL_lt {b : Int} (hb : 1 ≤ b) {l : List Int} (h : okD1 0 b l) : 0 ≤ valL b l ∧ valL b l < b ^ l.length := by
  rw [valL_vl]
  have h' : okD1 0 b l.reverse := fun d hd => h d (List.mem_reverse.mp hd)
  have := vl_lt hb h'
  rw [List.length_reverse] at this
  exact ⟨vl_nonneg (by omega) fun d hd => (h' d hd).1, this⟩
theorem valL_ge {b : Int} (hb : 1 ≤ b) {l : List Int} (h : wOk b l) (hn : l ≠ []) : b ^ (l.length - 1) ≤ valL b l := by
  cases l with
  | nil => exact absurd rfl hn
  | cons d r =>
    have hd := h.1 d (by simp)
    have h0 := h.2 d r rfl
    have hr := valL_lt hb (l := r) fun x hx => h.1 x (by simp [hx])
    rw [valL_cons]
    have p : 1 * b ^ r.length ≤ d * b ^ r.length := Int.mul_le_mul_of_nonneg_right (by omega) (Int.pow_nonneg (by omega))
    show b ^ (r.length + 1 - 1) ≤ _
    rw [Nat.add_sub_cancel]
    omega
theorem lex_num {b : Int} (hb : 1 ≤ b) {c : Int → Int → Bool} (hc : OrdC c) {d : Nat} : ∀ (l1 l2 : List Int), l1.length = l2.length → okD1 0 b l1 → okD1 0 b l2 → relvs c d (l1.map .int) (l2.map .int) = c (valL b l1) (valL b l2)
  | [], [], _, _, _ => by
    show relvs c d [] [] = _
    rw [relvs]
    rfl
  | [], y :: l2, h, _, _ => by simp at h
  | x :: l1, [], h, _, _ => by simp at h
  | x :: l1, y :: l2, h, h1, h2 => by
    have hx := h1 x (by simp)
    have hy := h2 y (by simp)
    have r1 := valL_lt hb (l := l1) fun z hz => h1 z (by simp [hz])
    have r2 := valL_lt hb (l := l2) fun z hz => h2 z (by simp [hz])
    have hl : l1.length = l2.length := by simpa using h
    show relvs c d (.int x :: l1.map .int) (.int y :: l2.map .int) = _
    rw [relvs, eqv_int, valL_cons, valL_cons, ← hl]
    rw [← hl] at r2
    by_cases e : x = y
    · rw [decide_eq_true e, if_pos rfl, lex_num hb hc l1 l2 hl (fun z hz => h1 z (by simp [hz])) (fun z hz => h2 z (by simp [hz])), e]
      exact hc.mono _ _ _ _ (by omega) (by omega)
    · rw [decide_eq_false e, if_neg Bool.false_ne_true]
      have er : relv c d (.int x) (.int y) = c x y := by cases d <;> simp only [relv]
      rw [er]
      by_cases hlt : x < y
      · have p : (x + 1) * b ^ l1.length ≤ y * b ^ l1.length := Int.mul_le_mul_of_nonneg_right (by omega) (Int.pow_nonneg (by omega))
        rw [Int.add_mul, Int.one_mul] at p
        exact hc.mono _ _ _ _ (by omega) (by omega)
      · have p : (y + 1) * b ^ l1.length ≤ x * b ^ l1.length := Int.mul_le_mul_of_nonneg_right (by omega) (Int.pow_nonneg (by omega))
        rw [Int.add_mul, Int.one_mul] at p
        exact hc.mono _ _ _ _ (by omega) (by omega)
theorem eqvs_ints : ∀ l1 l2 : List Int, eqvs (l1.map .int) (l2.map .int) = decide (l1 = l2)
  | [], [] => by simp [eqvs]
  | [], y :: l2 => by simp [eqvs]
  | x :: l1, [] => by simp [eqvs]
  | x :: l1, y :: l2 => by
    rw [List.map_cons, List.map_cons, eqvs, eqv_int, eqvs_ints l1 l2]
    by_cases h1 : x = y <;> by_cases h2 : l1 = l2 <;> simp [h1, h2]
/-- (len, word) against (len, word) -/
def lw (l : List Int) : PV := .tup [.int l.length, .tup (l.map .int)]
theorem lw_rel {c : Int → Int → Bool} (hc : OrdC c) (l1 l2 : List Int) : relv c 3 (lw l1) (lw l2) = if l1.length = l2.length then (if l1 = l2 then c 0 0 else relvs c 1 (l1.map .int) (l2.map .int)) else c l1.length l2.length := by
  unfold lw
  rw [relv, relvs, eqv_int]
  by_cases h : l1.length = l2.length
  · rw [decide_eq_true (by omega), if_pos rfl, if_pos h, relvs, eqv, eqvs_ints]
    by_cases h2 : l1 = l2
    · rw [decide_eq_true h2, if_pos rfl, if_pos h2, relvs]
      rfl
    · rw [decide_eq_false h2, if_neg Bool.false_ne_true, if_neg h2, relv]
  · rw [decide_eq_false (by omega), if_neg Bool.false_ne_true, if_neg h, relv]
theorem lay_ints : ∀ l : List Int, PyData.canLayAll0 (toDs (l.map .int)) = true ∧ PyData.depthAll (toDs (l.map .int)) = 0
  | [] => ⟨rfl, rfl⟩
  | x :: l => by
    have ih := lay_ints l
    rw [List.map_cons, toDs, toD, PyData.canLayAll0, PyData.depthAll, ih.1, ih.2]
    exact ⟨rfl, rfl⟩
theorem okD_ints (l : List Int) : okD (.tup (l.map .int)) := by
  unfold okD SeqAt.shaped
  rw [toD, PyData.canLay0, PyData.depth, (lay_ints l).1, (lay_ints l).2]
  rfl
theorem okD_lw (l : List Int) : okD (lw l) := by
  unfold okD SeqAt.shaped lw
  rw [toD, toDs, toDs, toDs, toD, toD, PyData.canLay0, PyData.depth, PyData.canLayAll0, PyData.depthAll, PyData.canLayAll0, PyData.depthAll, PyData.canLayAll0, PyData.depthAll, PyData.canLay0, PyData.depth, PyData.canLay0, PyData.depth, (lay_ints l).1, (lay_ints l).2]
  rfl
theorem cmpbs_ints {d : Nat} : ∀ l1 l2 : List Int, cmpbs d (l1.map .int) (l2.map .int) = true
  | [], l2 => by simp [cmpbs]
  | x :: l1, [] => by simp [cmpbs]
  | x :: l1, y :: l2 => by
    rw [List.map_cons, List.map_cons, cmpbs, cmpbs_ints l1 l2]
    cases d <;> simp [cmpb]
theorem cmpb_lw (l1 l2 : List Int) : cmpb 3 (lw l1) (lw l2) = true := by
  unfold lw
  rw [cmpb, cmpbs, cmpbs, cmpbs, cmpb, cmpb, cmpbs_ints]
  rfl
/-- of two words in normal form the longer one is the greater -/
theorem lw_num {b : Int} (hb : 2 ≤ b) {c : Int → Int → Bool} (hc : OrdC c) {l1 l2 : List Int} (h1 : wOk b l1) (h2 : wOk b l2) : relv c 3 (lw l1) (lw l2) = c (valL b l1) (valL b l2) := by
  rw [lw_rel hc]
  have r1 := valL_lt (by omega : 1 ≤ b) h1.1
  have r2 := valL_lt (by omega : 1 ≤ b) h2.1
  by_cases h : l1.length = l2.length
  · rw [if_pos h]
    by_cases e : l1 = l2
    · rw [if_pos e, e]
      exact hc.mono _ _ _ _ (by omega) (by omega)
    · rw [if_neg e]
      exact lex_num (by omega) hc l1 l2 h h1.1 h2.1
  · rw [if_neg h]
    by_cases hlt : l1.length < l2.length
    · have g := valL_ge (by omega : 1 ≤ b) h2 (by intro z; rw [z] at hlt; simp at hlt)
      have m : b ^ l1.length ≤ b ^ (l2.length - 1) := ipow_right (by omega) (by omega)
      exact hc.mono _ _ _ _ (by omega) (by omega)
    · have g := valL_ge (by omega : 1 ≤ b) h1 (fun z => by subst z; simp only [List.length_nil] at h hlt; omega)
      have m : b ^ l2.length ≤ b ^ (l1.length - 1) := ipow_right (by omega) (by omega)
      exact hc.mono _ _ _ _ (by omega) (by omega)
theorem sgn_b (a b : Int) : b2I (cGt a b) - b2I (cLt a b) = sgn a b := by
  unfold b2I cGt cLt sgn
  by_cases h : b < a
  · simp [h, show ¬ a < b by omega]
  · by_cases h2 : a < b
    · simp [h, h2]
    · simp [h, h2]
theorem l_compared_bases : ∀ args M Q, sp_compared_bases args M Q → args.length = 2 ∧ b_compared_bases (fE Q) (fr0 2 args) M := fun args M Q h => by
  match args, h with
  | [w1, w2], ⟨l1, l2, b, hw1, hw2, ⟨g1, g2, h1, k1, k2⟩, hq⟩ =>
    rw [← sgn_b, ← lw_num h1 oc_gt k1 k2, ← lw_num h1 oc_lt k1 k2] at hq
    have e1 : ((l1.map PV.int).length : Int) = l1.length := by rw [List.length_map]
    have e2 : ((l2.map PV.int).length : Int) = l2.length := by rw [List.length_map]
    have o1 := okD_lw l1
    have o2 := okD_lw l2
    have o3 := cmpb_lw l1 l2
    unfold lw at hq o1 o2 o3
    rw [← e1, ← e2] at hq o3
    rw [← e1] at o1
    rw [← e2] at o2
    refine ⟨rfl, ?_⟩
    rcases hw1 with rfl | rfl <;> rcases hw2 with rfl | rfl <;> exact ⟨⟨o1, o2, o3⟩, ⟨o1, o2, o3⟩, hq⟩
end Fl

end

section
set_option exponentiation.threshold 2000
namespace Fl
open PySem PySem.Spec PyProof.Rows L2
/-! ### blocks of digits -/
theorem valL_append (b : Int) (l r : List Int) : valL b (l ++ r) = valL b l * b ^ r.length + valL b r := by
  rw [valL_vl, valL_vl, valL_vl, List.reverse_append, vl_append, List.length_reverse, Int.mul_comm (b ^ r.length)]
  omega
def chv (b : Int) (s : Nat) : Nat → List Int → List Int
  | 0, _ => []
  | m + 1, W => valL b (W.take s) :: chv b s m (W.drop s)
theorem chv_length (b : Int) (s : Nat) : ∀ (m : Nat) (W : List Int), (chv b s m W).length = m
  | 0, _ => rfl
  | m + 1, W => congrArg (· + 1) (chv_length b s m _)
theorem chv_range (b : Int) (s : Nat) : ∀ (m : Nat) (W : List Int), (List.range m).map (fun i => valL b ((W.drop (i * s)).take s)) = chv b s m W
  | 0, _ => rfl
  | m + 1, W => by
    rw [List.range_succ_eq_map, List.map_cons, List.map_map, chv, ← chv_range b s m (W.drop s)]
    rw [Nat.zero_mul, List.drop_zero]
    congr 1
    refine List.map_congr_left fun i _ => ?_
    show valL b ((W.drop ((i + 1) * s)).take s) = _
    rw [List.drop_drop, show s + i * s = (i + 1) * s by rw [Nat.succ_mul]; omega]
theorem chv_val {b : Int} {s : Nat} : ∀ (m : Nat) (W : List Int), W.length = s * m → valL (b ^ s) (chv b s m W) = valL b W
  | 0, W, h => by
    have : W = [] := List.eq_nil_of_length_eq_zero (by rw [h, Nat.mul_zero])
    rw [this]
    rfl
  | m + 1, W, h => by
    rw [Nat.mul_succ] at h
    have h2 : (W.drop s).length = s * m := by rw [List.length_drop]; omega
    rw [chv, valL_cons, chv_length, chv_val m (W.drop s) h2, ← Int.pow_mul]
    conv => rhs; rw [← List.take_append_drop s W, valL_append, h2]
theorem chv_dig {b : Int} {s : Nat} (hb : 1 ≤ b) : ∀ (m : Nat) (W : List Int), W.length = s * m → okD1 0 b W → okD1 0 (b ^ s) (chv b s m W)
  | 0, W, h, hW => fun d hd => by simp [chv] at hd
  | m + 1, W, h, hW => by
    rw [Nat.mul_succ] at h
    have h2 : (W.drop s).length = s * m := by rw [List.length_drop]; omega
    have h3 := valL_lt hb (l := W.take s) fun x hx => hW x (List.mem_of_mem_take hx)
    rw [List.length_take, show min s W.length = s by omega] at h3
    intro d hd
    rw [chv] at hd
    rcases List.mem_cons.mp hd with q | q
    · rw [q]; omega
    · exact chv_dig hb m (W.drop s) h2 (fun x hx => hW x (List.mem_of_mem_drop hx)) d q
theorem valL_pos {b : Int} (hb : 1 ≤ b) : ∀ {l : List Int}, (∀ d ∈ l, 0 ≤ d) → (∃ d ∈ l, d ≠ 0) → 0 < valL b l
  | [], _, ⟨d, hd, _⟩ => by simp at hd
  | d :: r, h, ⟨e, he, hn⟩ => by
    have h0 := h d (by simp)
    have hp : 0 < b ^ r.length := Int.pow_pos (by omega)
    have hr : 0 ≤ valL b r := by rw [valL_vl]; exact vl_nonneg (by omega) fun x hx => h x (List.mem_cons_of_mem _ (List.mem_reverse.mp hx))
    rw [valL_cons]
    rcases List.mem_cons.mp he with q | q
    · subst q
      have : 1 * b ^ r.length ≤ e * b ^ r.length := Int.mul_le_mul_of_nonneg_right (by omega) (by omega)
      omega
    · have := valL_pos hb (l := r) (fun x hx => h x (List.mem_cons_of_mem _ hx)) ⟨e, q, hn⟩
      have : 0 ≤ d * b ^ r.length := Int.mul_nonneg h0 (by omega)
      omega
theorem valL_rep (b : Int) : ∀ k : Nat, valL b (List.replicate k 0) = 0 := fun k => by
  rw [valL_vl, List.reverse_replicate, vl_rep]
/-- the blocks of a word in normal form -/
theorem chv_digs {b : Int} {s m k : Nat} {l : List Int} (hb : 2 ≤ b) (hs : 1 ≤ s) (hk : k < s) (hm : k + l.length = s * m) (h : wOk b l) : chv b s m (List.replicate k 0 ++ l) = digs (b ^ s) (valL b l) := by
  have hW : (List.replicate k (0 : Int) ++ l).length = s * m := by rw [List.length_append, List.length_replicate]; exact hm
  have hdW : okD1 0 b (List.replicate k 0 ++ l) := fun d hd => by
    rcases List.mem_append.mp hd with q | q
    · have := List.eq_of_mem_replicate q; omega
    · exact h.1 d q
  have hB : 2 ≤ b ^ s := by
    have := ipow_right (by omega : 1 ≤ b) hs
    rw [Int.pow_succ, Int.pow_zero, Int.one_mul] at this
    omega
  have hv : valL (b ^ s) (chv b s m (List.replicate k 0 ++ l)) = valL b l := by
    rw [chv_val m _ hW, valL_append, valL_rep, Int.zero_mul, Int.zero_add]
  rw [← hv]
  refine digs_of hB ⟨chv_dig (by omega) m _ hW hdW, fun d r e => ?_⟩
  cases m with
  | zero => rw [chv] at e; cases e
  | succ m =>
    rw [chv] at e
    injection e with e1 e2
    rw [← e1]
    have hn : l ≠ [] := fun z => by
      rw [z, List.length_nil, Nat.mul_succ] at hm
      omega
    cases l with
    | nil => exact absurd rfl hn
    | cons x t =>
      have hx := h.2 x t rfl
      have := valL_pos (b := b) (by omega) (l := (List.replicate k 0 ++ x :: t).take s) (fun d hd => (hdW d (List.mem_of_mem_take hd)).1) ⟨x, ?_, hx⟩
      · omega
      · rw [List.take_append, List.length_replicate]
        refine List.mem_append_right _ ?_
        rw [show s - k = (s - k - 1) + 1 by omega, List.take_succ_cons]
        simp
theorem rngC_map (c : Nat) : ∀ (n : Nat) (lo : Nat), rngC (lo : Int) (c : Int) n = (List.range n).map fun i => PV.int (((lo + i * c : Nat) : Int))
  | 0, _ => rfl
  | n + 1, lo => by
    rw [rngC, List.range_succ_eq_map, List.map_cons, List.map_map, show (lo : Int) + (c : Int) = ((lo + c : Nat) : Int) by omega, rngC_map c n (lo + c)]
    congr 1
    · simp
    · refine List.map_congr_left fun i _ => ?_
      show PV.int (((lo + c + i * c : Nat) : Int)) = PV.int (((lo + (i + 1) * c : Nat) : Int))
      rw [Nat.succ_mul, show lo + c + i * c = lo + (i * c + c) by omega]
theorem cut_map (W : List Int) (i s : Nat) (h : i + s ≤ W.length) : cut (W.map PV.int) (some (i : Int)) (some ((i : Int) + (s : Int))) = ((W.drop i).take s).map PV.int := by
  unfold cut
  rw [show (i : Int) + (s : Int) = ((i + s : Nat) : Int) by omega, HT.sIx_nat, HT.sIx_nat, List.length_map, show min i W.length = i by omega, show min (i + s) W.length = i + s by omega, show i + s - i = s by omega, List.map_take, List.map_drop]
theorem small_step {s m : Nat} (hs : 1 ≤ s) (h : s * m ≤ 100000) (hs2 : s ≤ 1000) : RgC 0 ((s * m : Nat) : Int) (s : Int) m := by
  have hsz : Builtin.Range.rangeSize 0 ((s * m : Nat) : Int) (s : Int) = m := by
    unfold Builtin.Range.rangeSize
    rw [if_pos (by omega)]
    cases m with
    | zero => rw [Nat.mul_zero, if_neg (by omega)]; rfl
    | succ m =>
      have hm : s * (m + 1) = s * m + s := Nat.mul_succ s m
      rw [if_pos (by omega)]
      have e : (((s * (m + 1) : Nat) : Int) - 0 - 1) / (s : Int) = m := by
        rw [hm, show (((s * m + s : Nat) : Int) - 0 - 1) = ((s : Int) - 1) + (s : Int) * (m : Int) by rw [← Int.natCast_mul]; omega]
        rw [Int.add_mul_ediv_left _ _ (by omega), Int.ediv_eq_zero_of_lt (by omega) (by omega)]
        omega
      rw [e]
      omega
  refine ⟨by omega, by omega, ?_, hsz⟩
  unfold Builtin.Range.small
  have hm : m ≤ 100000 := by
    have : 1 * m ≤ s * m := Nat.mul_le_mul_right _ hs
    omega
  have hmm : (s : Int) * (m : Int) ≤ 100000 := by rw [← Int.natCast_mul]; omega
  have hm0 : 0 ≤ (s : Int) * (m : Int) := by rw [← Int.natCast_mul]; omega
  rw [hsz]
  simp only [Builtin.Range.rangeFitsLong, Bool.and_eq_true, Bool.or_eq_true, decide_eq_true_eq, beq_iff_eq, show ((s : Int) > 0) by omega, if_true]
  omega
end Fl

end

section
set_option exponentiation.threshold 2000
namespace Fl
open PySem PySem.Spec PyProof.Rows L2
theorem blk_mid {b : Int} {Q : PV → Sto → Prop} {M : Sto} {x1 : Option EV} {l : List Int} {s m k : Nat} (hb : 2 ≤ b ∧ b ≤ 1000) (hs : 1 ≤ s) (hs2 : s ≤ 5) (hk : k < s) (hm : k + l.length = s * m) (hl : l.length ≤ 2000) (h : wOk b l) (hq : Q (pInts (digs (b ^ s) (valL b l))) M) :
    t_blocks_3 (fE Q) [some (.v (.int b)), x1, some (.v (.int s)), some (.v (pInts l)), some (.v (.tup ((List.replicate k 0 ++ l).map .int))), none, none] M := by
  have hz := line1
  have hW : (List.replicate k (0 : Int) ++ l).length = s * m := by rw [List.length_append, List.length_replicate]; exact hm
  have hW2 : (((List.replicate k (0 : Int) ++ l).map PV.int).length : Int) = ((s * m : Nat) : Int) := by rw [List.length_map, hW]
  have hmm : m ≤ 3000 := by
    have : 1 * m ≤ s * m := Nat.mul_le_mul_right _ hs
    omega
  have er : rngC 0 (s : Int) m = (List.range m).map fun i => PV.int (((i * s : Nat) : Int)) := by
    have := rngC_map s m 0
    simp only [Nat.zero_add] at this
    exact this
  have st := small_step (s := s) (m := m) hs (by omega) (by omega)
  rw [← hW2] at st
  refine ⟨m, st, by rw [rngC_length]; omega, ?_⟩
  rw [er]
  refine lcP_all (fun i : Nat => PV.int (valL b (((List.replicate k (0 : Int) ++ l).drop (i * s)).take s))) (fun i hi K1 K0 kk => ⟨fun _ => ?_, fun h => ?_⟩) ?_
  · have hi := List.mem_range.mp hi
    have hb2 : i * s + s ≤ (List.replicate k (0 : Int) ++ l).length := by
      rw [hW, ← Nat.succ_mul, Nat.mul_comm s m]
      exact Nat.mul_le_mul_right _ hi
    exact ⟨_, .inl (congrArg PV.tup (cut_map _ _ _ hb2)), ⟨by omega, by omega⟩, kk⟩
  · cases h
  · have e2 : (List.range m).map (fun i : Nat => PV.int (valL b (((List.replicate k (0 : Int) ++ l).drop (i * s)).take s))) = (digs (b ^ s) (valL b l)).map PV.int := by
      rw [← chv_digs hb.1 hs hk hm h, ← chv_range, List.map_map]
      rfl
    rw [e2]
    exact hq
theorem l_blocks : ∀ args M Q, sp_blocks args M Q → args.length = 3 ∧ b_blocks (fE Q) (fr0 4 args) M := fun args M Q h => by
  match args, h with
  | [.int b, w, .int s], ⟨l, hw, ⟨g1, h1, h2, h3, h4, k1⟩, hq⟩ =>
    have hz := line1
    obtain ⟨s, rfl⟩ : ∃ n : Nat, s = n := ⟨s.toNat, by omega⟩
    rw [Int.toNat_natCast] at hq
    -- how many zeros
    have hr0 := Int.emod_nonneg (-(l.length : Int)) (by omega : (s : Int) ≠ 0)
    have hr1 := Int.emod_lt_of_pos (-(l.length : Int)) (by omega : 0 < (s : Int))
    obtain ⟨k, hk⟩ : ∃ k : Nat, -(l.length : Int) % (s : Int) = k := ⟨(-(l.length : Int) % (s : Int)).toNat, by omega⟩
    have hdiv := Int.emod_add_mul_ediv (-(l.length : Int)) (s : Int)
    obtain ⟨m, hm⟩ : ∃ m : Nat, k + l.length = s * m := by
      have e1 : (k : Int) + l.length = (s : Int) * (-(-(l.length : Int) / (s : Int))) := by rw [Int.mul_neg]; omega
      have e2 : 0 ≤ -(-(l.length : Int) / (s : Int)) := by
        have : -(l.length : Int) / (s : Int) ≤ 0 := by
          apply Int.ediv_le_of_le_mul (by omega)
          omega
        omega
      refine ⟨(-(-(l.length : Int) / (s : Int))).toNat, ?_⟩
      have e3 : ((-(-(l.length : Int) / (s : Int))).toNat : Int) = -(-(l.length : Int) / (s : Int)) := by omega
      have : ((k + l.length : Nat) : Int) = ((s * (-(-(l.length : Int) / (s : Int))).toNat : Nat) : Int) := by rw [Int.natCast_mul, e3, Int.natCast_add]; exact e1
      exact Int.ofNat.inj this
    have e0 : -(((l.map PV.int).length : Nat) : Int) % (s : Int) = k := by rw [List.length_map]; exact hk
    have key := blk_mid (Q := Q) (M := M) (x1 := some (.v w)) (s := s) (m := m) (k := k) ⟨h1, h2⟩ (by omega) (by omega) (by omega) hm g1 k1 hq
    rw [List.map_append, ← flatR] at key
    have e5 : k = (-(((l.map PV.int).length : Nat) : Int) % (s : Int)).toNat := by rw [e0, Int.toNat_natCast]
    have c1 : (-(2 ^ 62) ≤ -(((l.map PV.int).length : Nat) : Int) % (s : Int) ∧ -(((l.map PV.int).length : Nat) : Int) % (s : Int) < 2 ^ 62) ∧ [PV.int 0].length * (-(((l.map PV.int).length : Nat) : Int) % (s : Int)).toNat ≤ sizeLine := by
      rw [e0, Int.toNat_natCast, List.length_singleton]
      omega
    have c2 : (List.replicate (-(((l.map PV.int).length : Nat) : Int) % (s : Int)).toNat [PV.int 0]).flatten.length + (l.map PV.int).length ≤ sizeLine := by
      rw [e0, Int.toNat_natCast, flatR, List.length_map, List.length_map, List.length_replicate]
      omega
    rw [e5] at key
    refine ⟨rfl, fun h => ?_, fun _ => ⟨l, hw, ⟨by omega, h1, h2, k1⟩, by omega, c1, c2, key⟩⟩
    have := of_decide_eq_true h
    omega
end Fl

end

section
set_option exponentiation.threshold 2000
namespace Fl
open PySem PySem.Spec PyProof.Rows L2
theorem lowd_lenb {b : Int} (hb : 2 ≤ b) : ∀ (k : Nat) {n : Int}, 0 ≤ n → n < b ^ k → (lowd b n).length ≤ k
  | 0, n, h0, h => by
    rw [Int.pow_zero] at h
    rw [lowd_zero (by omega)]
    exact Nat.le_refl _
  | k + 1, n, h0, h => by
    by_cases hp : 0 < n
    · rw [lowd_pos hp hb, List.length_cons]
      have hd := div_lt hp hb
      have : n / b < b ^ k := by
        apply Int.ediv_lt_of_lt_mul (by omega)
        rw [← Int.pow_succ]
        exact h
      have := lowd_lenb hb k hd.2 this
      omega
    · rw [lowd_zero (by omega)]
      exact Nat.zero_le _
def unb (b : Int) (s : Nat) : List Int → List Int
  | [] => []
  | d :: l => pad s (digs b d) ++ unb b s l
theorem pad_val {b : Int} {s : Nat} {l : List Int} : valL b (pad s l) = valL b l := by
  unfold pad
  rw [valL_append, valL_rep, Int.zero_mul, Int.zero_add]
theorem digs_lenb {b d : Int} {s : Nat} (hb : 2 ≤ b) (h0 : 0 ≤ d) (h : d < b ^ s) : (digs b d).length ≤ s := by
  rw [digs, List.length_reverse]
  exact lowd_lenb hb s h0 h
theorem unb_ok {b : Int} {s : Nat} (hb : 2 ≤ b) : ∀ (l : List Int), okD1 0 (b ^ s) l → okD1 0 b (unb b s l) ∧ (unb b s l).length = s * l.length ∧ valL b (unb b s l) = valL (b ^ s) l
  | [], _ => ⟨fun d hd => (by simp [unb] at hd), by simp [unb], rfl⟩
  | d :: l, h => by
    have hd := h d (by simp)
    obtain ⟨i1, i2, i3⟩ := unb_ok hb l fun x hx => h x (by simp [hx])
    have hl := digs_lenb (s := s) hb hd.1 (by omega)
    have hp := pad_length hl
    refine ⟨fun x hx => ?_, ?_, ?_⟩
    · rw [unb] at hx
      rcases List.mem_append.mp hx with q | q
      · unfold pad at q
        rcases List.mem_append.mp q with q | q
        · have := List.eq_of_mem_replicate q; omega
        · exact (digs_ok hb hd.1).1 x q
      · exact i1 x q
    · rw [unb, List.length_append, hp, i2, List.length_cons, Nat.mul_succ]
      omega
    · rw [unb, valL_append, pad_val, digs_val hb hd.1, i2, i3, valL_cons, ← Int.pow_mul]
def lead : List Int → List Int
  | [] => []
  | d :: r => if d = 0 then lead r else d :: r
theorem lead_val (b : Int) : ∀ l : List Int, valL b (lead l) = valL b l
  | [] => rfl
  | d :: r => by
    rw [lead]
    split
    · rename_i e
      rw [e, lead_val b r, valL_cons, Int.zero_mul, Int.zero_add]
    · rfl
theorem lead_ok {b : Int} : ∀ {l : List Int}, okD1 0 b l → wOk b (lead l)
  | [], h => ⟨h, fun d r e => by cases e⟩
  | d :: r, h => by
    rw [lead]
    split
    · exact lead_ok fun x hx => h x (by simp [hx])
    · rename_i hd
      exact ⟨h, fun e t z => by injection z with z1 z2; rw [← z1]; exact hd⟩
theorem lead_digs {b : Int} (hb : 2 ≤ b) {l : List Int} (h : okD1 0 b l) : lead l = digs b (valL b l) := by
  rw [← lead_val b l]
  exact digs_of hb (lead_ok h)
theorem un_loop2 {D : FEnds} {M : Sto} {x0 x1 x2 x4 x5 : Option EV} : ∀ (k : Nat) (l : List Int), l.length ≤ k →
    D.nx [x0, x1, x2, some (.b ((lead l).map .int)), x4, x5] M →
    whP c_unblocked_2 w_unblocked_2 D (k + 1) [x0, x1, x2, some (.b (l.map .int)), x4, x5] M
  | k, [], hk, q => by
    refine ⟨trivial, fun h => ?_, fun _ => ⟨fun h => ?_, fun _ => q⟩⟩
    · cases (show false = true from h)
    · cases h
  | k, d :: l, hk, q => by
    refine ⟨trivial, fun _ => ⟨.int d, atI_nat (j := 0) rfl, fun h => ?_, fun h => ?_⟩, fun h => ?_⟩
    · have h := eqD h
      subst h
      rw [List.length_cons] at hk
      match k, hk with
      | 0, hk => omega
      | k + 1, hk =>
        rw [lead, if_pos rfl] at q
        exact ⟨⟨Int.le_refl _, by rw [List.map_cons, List.length_cons]; omega, by omega⟩, un_loop2 k l (by omega) q⟩
    · have h := eqN h
      rw [lead, if_neg h] at q
      exact q
    · cases (show true = false from h)
theorem un_loop1 {b : Int} {D : FEnds} {M : Sto} {x1 : Option EV} {s : Nat} (hb : 2 ≤ b ∧ b ≤ 1000) (hs : 1 ≤ s ∧ s ≤ 5) : ∀ (l : List Int) (fd : List Int) (x4 x5 : Option EV), okD1 0 (b ^ s) l → fd.length + s * l.length ≤ sizeLine →
    (∀ x4 x5, D.nx [some (.v (.int b)), x1, some (.v (.int s)), some (.b ((fd ++ unb b s l).map .int)), x4, x5] M) →
    foP (gN 4) w_unblocked_1 D (l.map .int) [some (.v (.int b)), x1, some (.v (.int s)), some (.b (fd.map .int)), x4, x5] M
  | [], fd, x4, x5, _, _, q => by
    have q := q x4 x5
    rw [unb, List.append_nil] at q
    exact q
  | d :: l, fd, x4, x5, h, hl, q => by
    have hz := line1
    have hd := h d (by simp)
    have hlen := digs_lenb (s := s) hb.1 hd.1 (by omega)
    have hdB : d < BB := by
      have a1 : b ^ s ≤ 1000 ^ s := ipow_left (by omega) hb.2 s
      have a2 : (1000 : Int) ^ s ≤ 1000 ^ 5 := ipow_right (by omega) hs.2
      have a3 : (1000 : Int) ^ 5 ≤ BB := by unfold BB; decide
      omega
    rw [List.length_cons, Nat.mul_succ] at hl
    have p1 : (List.replicate ((s : Int) - (((digs b d).map PV.int).length : Int)).toNat [PV.int 0]).flatten ++ (digs b d).map PV.int = (pad s (digs b d)).map PV.int := by
      rw [flatR, ← List.map_append, List.length_map]
      unfold pad
      rw [show ((s : Int) - ((digs b d).length : Int)).toNat = s - (digs b d).length by omega]
    have c1 : (-(2 ^ 62) ≤ (s : Int) - (((digs b d).map PV.int).length : Int) ∧ (s : Int) - (((digs b d).map PV.int).length : Int) < 2 ^ 62) ∧ [PV.int 0].length * ((s : Int) - (((digs b d).map PV.int).length : Int)).toNat ≤ sizeLine := by
      rw [List.length_map, List.length_singleton]
      omega
    have c2 : (List.replicate ((s : Int) - (((digs b d).map PV.int).length : Int)).toNat [PV.int 0]).flatten.length + ((digs b d).map PV.int).length ≤ sizeLine := by
      rw [flatR, List.length_map, List.length_map, List.length_replicate]
      omega
    have hp := pad_length hlen
    have ih := un_loop1 hb hs l (fd ++ pad s (digs b d)) (some (.v (.int d))) (some (.v (pInts (digs b d)))) (fun x hx => h x (by simp [hx])) (by rw [List.length_append, hp]; omega) fun x4 x5 => by
      have q := q x4 x5
      rw [unb] at q
      rw [List.append_assoc]
      exact q
    rw [List.map_append, ← p1] at ih
    have c3 : (fd.map PV.int).length + ((List.replicate ((s : Int) - (((digs b d).map PV.int).length : Int)).toNat [PV.int 0]).flatten ++ (digs b d).map PV.int).length ≤ sizeLine := by
      rw [p1, List.length_map, List.length_map, hp]
      omega
    refine ⟨fun _ => ⟨⟨by omega, by omega⟩, ⟨by omega, by omega, by omega, by omega⟩, fun h => ?_, fun _ => ⟨⟨hb.1, hb.2, hd.1, hdB⟩, c1, c2, c3, ih⟩⟩, fun h => ?_⟩
    · have h := of_decide_eq_false (nT h)
      rw [Int.toNat_natCast] at h
      omega
    · have := of_decide_eq_false h
      omega
theorem l_unblocked : ∀ args M Q, sp_unblocked args M Q → args.length = 3 ∧ b_unblocked (fE Q) (fr0 3 args) M := fun args M Q h => by
  match args, h with
  | [.int b, w, .int s], ⟨l, hw, ⟨g1, h1, h2, h3, h4, k1⟩, hq⟩ =>
    have hz := line1
    obtain ⟨s, rfl⟩ : ∃ n : Nat, s = n := ⟨s.toNat, by omega⟩
    rw [Int.toNat_natCast] at hq k1
    obtain ⟨i1, i2, i3⟩ := unb_ok h1 l k1.1
    have hm : s * l.length ≤ 5 * 2000 := Nat.mul_le_mul (by omega) g1
    have fin : ∀ x4 x5, t_unblocked_2 (fE Q) [some (.v (.int b)), some (.v w), some (.v (.int s)), some (.b ((([] : List Int) ++ unb b s l).map .int)), x4, x5] M := fun x4 x5 => by
      rw [List.nil_append]
      refine ⟨_, un_loop2 _ _ (Nat.le_refl _) ?_⟩
      rw [lead_digs h1 i1, i3]
      exact hq
    have key := un_loop1 (D := { fE Q with nx := t_unblocked_2 (fE Q) }) ⟨h1, h2⟩ ⟨by omega, by omega⟩ l [] none none k1.1 (by rw [List.length_nil]; omega) fin
    refine ⟨rfl, ?_⟩
    rcases hw with rfl | rfl <;> exact key
end Fl

end

section
set_option exponentiation.threshold 2000
/-! k00: words of the digits 1 .. b. Plain maths. -/
namespace Fl
open PySem PySem.Spec PyProof.Rows L2
def od (b n : Int) : Int := if n % b = 0 then b else n % b
theorem od_ok {b n : Int} (hb : 2 ≤ b) (hn : 0 < n) : 1 ≤ od b n ∧ od b n ≤ b ∧ od b n + b * ((n - od b n) / b) = n ∧ (n - od b n) / b < n ∧ 0 ≤ (n - od b n) / b := by
  have e1 := Int.emod_nonneg n (by omega : b ≠ 0)
  have e2 := Int.emod_lt_of_pos n (by omega : 0 < b)
  have e3 := Int.emod_add_mul_ediv n b
  have e4 := div_lt hn hb
  unfold od
  by_cases h : n % b = 0
  · rw [if_pos h]
    have e5 : (n - b) / b = n / b - 1 := by
      rw [show n - b = n + b * (-1) by omega, Int.add_mul_ediv_left _ _ (by omega)]
      omega
    rw [e5, Int.mul_sub]
    have : 0 < n / b := by
      by_cases z : n / b = 0
      · rw [z, Int.mul_zero] at e3
        omega
      · omega
    omega
  · rw [if_neg h]
    have e5 : (n - n % b) / b = n / b := by
      rw [show n - n % b = b * (n / b) by omega, Int.mul_ediv_cancel_left _ (by omega)]
    rw [e5]
    omega
def lowo (b n : Int) : List Int := if h : 0 < n ∧ 2 ≤ b then od b n :: lowo b ((n - od b n) / b) else []
termination_by n.toNat
decreasing_by
  have := od_ok h.2 h.1
  omega
theorem lowo_pos {b n : Int} (h1 : 0 < n) (h2 : 2 ≤ b) : lowo b n = od b n :: lowo b ((n - od b n) / b) := by
  rw [lowo, dif_pos ⟨h1, h2⟩]
theorem lowo_zero {b n : Int} (h : n ≤ 0) : lowo b n = [] := by
  rw [lowo, dif_neg (by omega)]
theorem lowo_ok {b : Int} (hb : 2 ≤ b) : ∀ (k : Nat) {n : Int}, n.toNat ≤ k → 0 ≤ n → okD1 1 b (lowo b n) ∧ vl b (lowo b n) = n
  | 0, n, hk, h0 => by
    rw [lowo_zero (by omega)]
    exact ⟨fun d hd => (by simp at hd), by show (0 : Int) = n; omega⟩
  | k + 1, n, hk, h0 => by
    by_cases h : 0 < n
    · rw [lowo_pos h hb]
      have hd := od_ok hb h
      obtain ⟨i1, i3⟩ := lowo_ok hb k (n := (n - od b n) / b) (by omega) hd.2.2.2.2
      refine ⟨fun d q => ?_, ?_⟩
      · rcases List.mem_cons.mp q with q | q
        · rw [q]; omega
        · exact i1 d q
      · show od b n + b * vl b _ = n
        rw [i3]
        exact hd.2.2.1
    · rw [lowo_zero (by omega)]
      exact ⟨fun d hd => (by simp at hd), by show (0 : Int) = n; omega⟩
theorem lowo_dig {b n : Int} (hb : 2 ≤ b) (h0 : 0 ≤ n) : okD1 1 b (lowo b n) := (lowo_ok hb _ (Nat.le_refl _) h0).1
theorem lowo_val {b n : Int} (hb : 2 ≤ b) (h0 : 0 ≤ n) : vl b (lowo b n) = n := (lowo_ok hb _ (Nat.le_refl _) h0).2
theorem lowo_of {b : Int} {l : List Int} (hb : 2 ≤ b) (h : okD1 1 b l) : l = lowo b (vl b l) :=
  vl_inj1 hb h (lowo_dig hb (vl_pos (by omega) h).1) (lowo_val hb (vl_pos (by omega) h).1).symm
theorem lowo_len {b : Int} (hb : 2 ≤ b) : ∀ (k : Nat) {n : Int}, 0 ≤ n → n < 2 ^ k → (lowo b n).length ≤ k
  | 0, n, h0, h => by
    rw [Int.pow_zero] at h
    rw [lowo_zero (by omega)]
    exact Nat.le_refl _
  | k + 1, n, h0, h => by
    by_cases hp : 0 < n
    · rw [lowo_pos hp hb, List.length_cons]
      have hd := od_ok hb hp
      have h2 := Int.mul_le_mul_of_nonneg_right hb hd.2.2.2.2
      rw [Int.pow_succ] at h
      have := lowo_len hb k hd.2.2.2.2 (by omega)
      omega
    · rw [lowo_zero (by omega)]
      exact Nat.zero_le _
def ones (b n : Int) : List Int := (lowo b n).reverse
theorem ones_dig {b n : Int} (hb : 2 ≤ b) (h0 : 0 ≤ n) : okD1 1 b (ones b n) := fun d hd => lowo_dig hb h0 d (List.mem_reverse.mp hd)
theorem ones_val {b n : Int} (hb : 2 ≤ b) (h0 : 0 ≤ n) : valL b (ones b n) = n := by
  rw [valL_vl, ones, List.reverse_reverse, lowo_val hb h0]
theorem ones_of {b : Int} {w : List Int} (hb : 2 ≤ b) (h : okD1 1 b w) : w = ones b (valL b w) := by
  rw [valL_vl, ones, ← lowo_of hb (fun d hd => h d (List.mem_reverse.mp hd)), List.reverse_reverse]
theorem ones_len {b n : Int} {k : Nat} (hb : 2 ≤ b) (h0 : 0 ≤ n) (h : n < 2 ^ k) : (ones b n).length ≤ k := by
  rw [ones, List.length_reverse]
  exact lowo_len hb k h0 h
/-- b .. b and one more -/
theorem rep_next (b : Int) : ∀ k : Nat, valL b (List.replicate k b) + 1 = b ^ k + valL b (List.replicate k 1)
  | 0 => by
    show valL b [] + 1 = b ^ 0 + valL b []
    rw [Int.pow_zero]
    omega
  | k + 1 => by
    rw [List.replicate_succ, List.replicate_succ, valL_cons, valL_cons, List.length_replicate, List.length_replicate, Int.one_mul, Int.pow_succ, Int.mul_comm (b ^ k) b]
    have := rep_next b k
    omega
theorem fol_val (b : Int) (i : List Int) (d : Int) (k : Nat) : valL b (i ++ d :: List.replicate k b) + 1 = valL b (i ++ (d + 1) :: List.replicate k 1) := by
  rw [valL_append, valL_append, valL_cons, valL_cons, List.length_cons, List.length_cons, List.length_replicate, List.length_replicate, Int.add_mul, Int.one_mul]
  have := rep_next b k
  omega
theorem fol_all (b : Int) (k : Nat) : valL b (List.replicate k b) + 1 = valL b (1 :: List.replicate k 1) := by
  rw [valL_cons, List.length_replicate, Int.one_mul]
  exact rep_next b k
/-- between 1 .. 1 and b .. b -/
theorem ones_range {b : Int} (hb : 1 ≤ b) : ∀ {l : List Int}, okD1 1 b l → valL b (List.replicate l.length 1) ≤ valL b l ∧ valL b l ≤ valL b (List.replicate l.length b)
  | [], _ => ⟨Int.le_refl _, Int.le_refl _⟩
  | d :: r, h => by
    have hd := h d (by simp)
    have ih := ones_range hb (l := r) fun x hx => h x (by simp [hx])
    have hp : 0 < b ^ r.length := Int.pow_pos (by omega)
    rw [List.length_cons, List.replicate_succ, List.replicate_succ, valL_cons, valL_cons, valL_cons, List.length_replicate, List.length_replicate]
    have p1 : 1 * b ^ r.length ≤ d * b ^ r.length := Int.mul_le_mul_of_nonneg_right (by omega) (by omega)
    have p2 : d * b ^ r.length ≤ b * b ^ r.length := Int.mul_le_mul_of_nonneg_right (by omega) (by omega)
    omega
theorem lex_ones {b : Int} (hb : 1 ≤ b) {c : Int → Int → Bool} (hc : OrdC c) {d : Nat} : ∀ (l1 l2 : List Int), l1.length = l2.length → okD1 1 b l1 → okD1 1 b l2 → relvs c d (l1.map .int) (l2.map .int) = c (valL b l1) (valL b l2)
  | [], [], _, _, _ => by
    show relvs c d [] [] = _
    rw [relvs]
    rfl
  | [], y :: l2, h, _, _ => by simp at h
  | x :: l1, [], h, _, _ => by simp at h
  | x :: l1, y :: l2, h, h1, h2 => by
    have r1 := ones_range hb (l := l1) fun z hz => h1 z (by simp [hz])
    have r2 := ones_range hb (l := l2) fun z hz => h2 z (by simp [hz])
    have rn := rep_next b l1.length
    have hl : l1.length = l2.length := by simpa using h
    show relvs c d (.int x :: l1.map .int) (.int y :: l2.map .int) = _
    rw [relvs, eqv_int, valL_cons, valL_cons, ← hl]
    rw [← hl] at r2
    by_cases e : x = y
    · rw [decide_eq_true e, if_pos rfl, lex_ones hb hc l1 l2 hl (fun z hz => h1 z (by simp [hz])) (fun z hz => h2 z (by simp [hz])), e]
      exact hc.mono _ _ _ _ (by omega) (by omega)
    · rw [decide_eq_false e, if_neg Bool.false_ne_true]
      have er : relv c d (.int x) (.int y) = c x y := by cases d <;> simp only [relv]
      rw [er]
      by_cases hlt : x < y
      · have p : (x + 1) * b ^ l1.length ≤ y * b ^ l1.length := Int.mul_le_mul_of_nonneg_right (by omega) (Int.pow_nonneg (by omega))
        rw [Int.add_mul, Int.one_mul] at p
        exact hc.mono _ _ _ _ (by omega) (by omega)
      · have p : (y + 1) * b ^ l1.length ≤ x * b ^ l1.length := Int.mul_le_mul_of_nonneg_right (by omega) (Int.pow_nonneg (by omega))
        rw [Int.add_mul, Int.one_mul] at p
        exact hc.mono _ _ _ _ (by omega) (by omega)
theorem rep1_mono {b : Int} (hb : 1 ≤ b) : ∀ {i j : Nat}, i ≤ j → valL b (List.replicate i 1) ≤ valL b (List.replicate j 1) := fun {i j} h => by
  obtain ⟨k, rfl⟩ := Nat.exists_eq_add_of_le h
  induction k with
  | zero => exact Int.le_refl _
  | succ k ih =>
    have hp : 0 < b ^ (i + k) := Int.pow_pos (by omega)
    rw [show i + (k + 1) = (i + k) + 1 by omega, List.replicate_succ, valL_cons, List.length_replicate, Int.one_mul]
    have := ih (by omega)
    omega
theorem lw_ones {b : Int} (hb : 2 ≤ b) {c : Int → Int → Bool} (hc : OrdC c) {l1 l2 : List Int} (h1 : okD1 1 b l1) (h2 : okD1 1 b l2) : relv c 3 (lw l1) (lw l2) = c (valL b l1) (valL b l2) := by
  rw [lw_rel hc]
  have r1 := ones_range (by omega : 1 ≤ b) h1
  have r2 := ones_range (by omega : 1 ≤ b) h2
  by_cases h : l1.length = l2.length
  · rw [if_pos h]
    by_cases e : l1 = l2
    · rw [if_pos e, e]
      exact hc.mono _ _ _ _ (by omega) (by omega)
    · rw [if_neg e]
      exact lex_ones (by omega) hc l1 l2 h h1 h2
  · rw [if_neg h]
    have nx : ∀ k : Nat, valL b (List.replicate k b) + 1 = valL b (List.replicate (k + 1) 1) := fun k => fol_all b k
    by_cases hlt : l1.length < l2.length
    · have g := nx l1.length
      have m := rep1_mono (by omega : 1 ≤ b) (show l1.length + 1 ≤ l2.length by omega)
      exact hc.mono _ _ _ _ (by omega) (by omega)
    · have g := nx l2.length
      have m := rep1_mono (by omega : 1 ≤ b) (show l2.length + 1 ≤ l1.length by omega)
      exact hc.mono _ _ _ _ (by omega) (by omega)
/-- the sum of two words: the carry, the digits -/
def bsd (b w : Int) : Int := (w - 1) % b + 1
theorem bsd_ok {b w : Int} (hb : 2 ≤ b) (hw : 1 ≤ w) (hw2 : w ≤ 2 * b + 2) : 1 ≤ bsd b w ∧ bsd b w ≤ b ∧ bsd b w + b * ((w - bsd b w) / b) = w ∧ 0 ≤ (w - bsd b w) / b ∧ (w - bsd b w) / b ≤ 2 := by
  have e1 := Int.emod_nonneg (w - 1) (by omega : b ≠ 0)
  have e2 := Int.emod_lt_of_pos (w - 1) (by omega : 0 < b)
  have e3 := Int.emod_add_mul_ediv (w - 1) b
  unfold bsd
  have e5 : (w - ((w - 1) % b + 1)) / b = (w - 1) / b := by
    rw [show w - ((w - 1) % b + 1) = b * ((w - 1) / b) by omega, Int.mul_ediv_cancel_left _ (by omega)]
  rw [e5]
  have e6 : 0 ≤ (w - 1) / b := Int.ediv_nonneg (by omega) (by omega)
  have e7 : (w - 1) / b < 3 := by
    apply Int.ediv_lt_of_lt_mul (by omega)
    omega
  omega
def bss (b : Int) : Int → List Int → List Int → List Int
  | c, [], [] => if 0 < c then [c] else []
  | c, x :: xs, [] => bsd b (c + x + 0) :: bss b ((c + x + 0 - bsd b (c + x + 0)) / b) xs []
  | c, [], y :: ys => bsd b (c + 0 + y) :: bss b ((c + 0 + y - bsd b (c + 0 + y)) / b) [] ys
  | c, x :: xs, y :: ys => bsd b (c + x + y) :: bss b ((c + x + y - bsd b (c + x + y)) / b) xs ys
theorem bss_ok {b : Int} (hb : 2 ≤ b) : ∀ (c : Int) (xs ys : List Int), 0 ≤ c ∧ c ≤ 2 → okD1 1 b xs → okD1 1 b ys → okD1 1 b (bss b c xs ys) ∧ vl b (bss b c xs ys) = c + vl b xs + vl b ys
  | c, [], [], hc, _, _ => by
    rw [bss]
    split
    · exact ⟨fun d hd => (by have := List.mem_singleton.mp hd; omega), by show c + b * 0 = c + 0 + 0; rw [Int.mul_zero]; omega⟩
    · exact ⟨fun d hd => (by simp at hd), by show (0 : Int) = c + 0 + 0; omega⟩
  | c, x :: xs, [], hc, hx, hy => by
    have h1 := hx x (by simp)
    have hd := bsd_ok hb (show 1 ≤ c + x + 0 by omega) (by omega)
    obtain ⟨i1, i2⟩ := bss_ok hb ((c + x + 0 - bsd b (c + x + 0)) / b) xs [] ⟨hd.2.2.2.1, hd.2.2.2.2⟩ (fun d q => hx d (by simp [q])) hy
    rw [bss]
    refine ⟨fun d q => ?_, ?_⟩
    · rcases List.mem_cons.mp q with q | q
      · rw [q]; omega
      · exact i1 d q
    · show _ + b * vl b _ = c + (x + b * vl b xs) + 0
      rw [i2, Int.mul_add, Int.mul_add]
      show _ + (_ + _ + b * 0) = _
      rw [Int.mul_zero]
      omega
  | c, [], y :: ys, hc, hx, hy => by
    have h1 := hy y (by simp)
    have hd := bsd_ok hb (show 1 ≤ c + 0 + y by omega) (by omega)
    obtain ⟨i1, i2⟩ := bss_ok hb ((c + 0 + y - bsd b (c + 0 + y)) / b) [] ys ⟨hd.2.2.2.1, hd.2.2.2.2⟩ hx (fun d q => hy d (by simp [q]))
    rw [bss]
    refine ⟨fun d q => ?_, ?_⟩
    · rcases List.mem_cons.mp q with q | q
      · rw [q]; omega
      · exact i1 d q
    · show _ + b * vl b _ = c + 0 + (y + b * vl b ys)
      rw [i2, Int.mul_add, Int.mul_add]
      show _ + (_ + b * 0 + _) = _
      rw [Int.mul_zero]
      omega
  | c, x :: xs, y :: ys, hc, hx, hy => by
    have h1 := hx x (by simp)
    have h2 := hy y (by simp)
    have hd := bsd_ok hb (show 1 ≤ c + x + y by omega) (by omega)
    obtain ⟨i1, i2⟩ := bss_ok hb ((c + x + y - bsd b (c + x + y)) / b) xs ys ⟨hd.2.2.2.1, hd.2.2.2.2⟩ (fun d q => hx d (by simp [q])) (fun d q => hy d (by simp [q]))
    rw [bss]
    refine ⟨fun d q => ?_, ?_⟩
    · rcases List.mem_cons.mp q with q | q
      · rw [q]; omega
      · exact i1 d q
    · show _ + b * vl b _ = c + (x + b * vl b xs) + (y + b * vl b ys)
      rw [i2, Int.mul_add, Int.mul_add]
      omega
end Fl

end

/-! k00: what each def promises: words of the digits 1 .. b -/
namespace Fl
open PySem PySem.Spec PyProof.Rows L2
def sp_are_digits_bijective : PSp := fun args M Q => match args with
  | [.int b, w] => ∃ l, isW w l ∧ l.length ≤ sizeLine ∧ Q (.bl (areO b l)) M
  | _ => False
def sp_value_bijective : PSp := fun args M Q => match args with
  | [.int b, w] => ∃ l, isW w l ∧ (2 ≤ b ∧ b ≤ 1000 ∧ l.length ≤ 2000 ∧ okD1 1 b l) ∧ Q (.int (valL b l)) M
  | _ => False
def sp_following : PSp := fun args M Q => match args with
  | [.int b, w] => ∃ l, isW w l ∧ (2 ≤ b ∧ b ≤ 1000 ∧ l.length ≤ 2000 ∧ okD1 1 b l) ∧ Q (pInts (ones b (valL b l + 1))) M
  | _ => False
def sp_ahead : PSp := fun args M Q => match args with
  | [.int b, w] => ∃ l, isW w l ∧ (2 ≤ b ∧ b ≤ 1000 ∧ l.length ≤ 2000 ∧ okD1 1 b l ∧ l ≠ []) ∧ Q (pInts (ones b (valL b l - 1))) M
  | _ => False
def sp_compared_bijective : PSp := fun args M Q => match args with
  | [w1, w2] => ∃ l1 l2 b, isW w1 l1 ∧ isW w2 l2 ∧ (l1.length ≤ 2000 ∧ l2.length ≤ 2000 ∧ 2 ≤ b ∧ okD1 1 b l1 ∧ okD1 1 b l2) ∧ Q (.int (sgn (valL b l1) (valL b l2))) M
  | _ => False
def sp_added_bijective : PSp := fun args M Q => match args with
  | [.int b, w1, w2] => ∃ l1 l2, isW w1 l1 ∧ isW w2 l2 ∧ (l1.length ≤ 2000 ∧ l2.length ≤ 2000 ∧ 2 ≤ b ∧ b ≤ 1000 ∧ okD1 1 b l1 ∧ okD1 1 b l2) ∧ Q (pInts (ones b (valL b l1 + valL b l2))) M
  | _ => False
end Fl

namespace Fl
open PySem PySem.Spec PyProof.Rows L2
/-- value_bijective: slots 0 base, 1 word, 2 whole, 3 digit -/
def w_value_bijective_1 : FS := (sSet 2 (e2 addP (e2 mulA (eV 2) (eV 0)) (eV 3)))
def t_value_bijective_3 : FS := (sRet (eV 2))
def t_value_bijective_2 : FS := (sSeq (sFor (iSeq (eV 1)) (gN 3) w_value_bijective_1) t_value_bijective_3)
def t_value_bijective_1 : FS := (sSeq (sSet 2 (eC (.int 0))) t_value_bijective_2)
def b_value_bijective : FS := (sSeq (sIf (tNot1 (tTru (eCall sp_are_digits_bijective (aCons (eCall sp_base_of (aCons (eV 0) aNil)) (aCons (eV 1) aNil))))) sNever sNil) t_value_bijective_1)
/-- following: slots 0 base, 1 word, 2 found, 3 at -/
def w_following_1_1 : FS := (sSet 3 (e2 subA (eV 3) (eC (.int 1))))
def c_following_1 : FT := (tAnd2 (cB geA (eV 3) (eC (.int 0))) (cB eqA (e2 ixP (eV 2) (eV 3)) (eV 0)))
def w_following_1 : FS := (sSeq (sPut 2 (eV 3) (eC (.int 1))) w_following_1_1)
def t_following_6 : FS := (sRet (eN tupP (aCons (eV 2) aNil)))
def t_following_5 : FS := (sSeq (sPut 2 (eV 3) (e2 addP (e2 ixP (eV 2) (eV 3)) (eC (.int 1)))) t_following_6)
def t_following_4 : FS := (sSeq (sIf (cB ltA (eV 3) (eC (.int 0))) (sRet (e2 addP (eTup (aCons (eC (.int 1)) aNil)) (eN tupP (aCons (eV 2) aNil)))) sNil) t_following_5)
def t_following_3 : FS := (sSeq (sWhile c_following_1 w_following_1) t_following_4)
def t_following_2 : FS := (sSeq (sSet 3 (e2 subA (eN lenP (aCons (eV 2) aNil)) (eC (.int 1)))) t_following_3)
def t_following_1 : FS := (sSeq (sBld 2 (fList (aCons (eV 1) aNil))) t_following_2)
def b_following : FS := (sSeq (sIf (tNot1 (tTru (eCall sp_are_digits_bijective (aCons (eCall sp_base_of (aCons (eV 0) aNil)) (aCons (eV 1) aNil))))) sNever sNil) t_following_1)
/-- ahead: slots 0 base, 1 word, 2 found, 3 at -/
def w_ahead_1_1 : FS := (sSet 3 (e2 subA (eV 3) (eC (.int 1))))
def c_ahead_1 : FT := (tAnd2 (cB geA (eV 3) (eC (.int 0))) (cB eqA (e2 ixP (eV 2) (eV 3)) (eC (.int 1))))
def w_ahead_1 : FS := (sSeq (sPut 2 (eV 3) (eV 0)) w_ahead_1_1)
def t_ahead_6 : FS := (sRet (eN tupP (aCons (eV 2) aNil)))
def t_ahead_5 : FS := (sSeq (sPut 2 (eV 3) (e2 subA (e2 ixP (eV 2) (eV 3)) (eC (.int 1)))) t_ahead_6)
def t_ahead_4 : FS := (sSeq (sIf (cB ltA (eV 3) (eC (.int 0))) (sRet (eN tupP (aCons (eSl (eV 2) (oS (eC (.int 1))) oN) aNil))) sNil) t_ahead_5)
def t_ahead_3 : FS := (sSeq (sWhile c_ahead_1 w_ahead_1) t_ahead_4)
def t_ahead_2 : FS := (sSeq (sSet 3 (e2 subA (eN lenP (aCons (eV 2) aNil)) (eC (.int 1)))) t_ahead_3)
def t_ahead_1 : FS := (sSeq (sBld 2 (fList (aCons (eV 1) aNil))) t_ahead_2)
def b_ahead : FS := (sSeq (sIf (tOr2 (tNot1 (tTru (eV 1))) (tNot1 (tTru (eCall sp_are_digits_bijective (aCons (eCall sp_base_of (aCons (eV 0) aNil)) (aCons (eV 1) aNil)))))) sNever sNil) t_ahead_1)
/-- added_bijective: slots 0 base, 1 one, 2 other, 3 first, 4 second, 5 found, 6 carry, 7 at, 8 whole, 9 digit -/
def w_added_bijective_1_5 : FS := (sSet 7 (e2 addP (eV 7) (eC (.int 1))))
def w_added_bijective_1_4 : FS := (sSeq (sSet 6 (e2 divP (e2 subA (eV 8) (eV 9)) (eV 0))) w_added_bijective_1_5)
def w_added_bijective_1_3 : FS := (sSeq (sApp 5 (eV 9)) w_added_bijective_1_4)
def w_added_bijective_1_2 : FS := (sSeq (sSet 9 (e2 addP (e2 modP (e2 subA (eV 8) (eC (.int 1))) (eV 0)) (eC (.int 1)))) w_added_bijective_1_3)
def w_added_bijective_1_1 : FS := (sSeq (sSet 8 (e2 addP (e2 addP (eV 8) (eIf (cB ltA (eV 7) (eN lenP (aCons (eV 3) aNil))) (e2 ixP (eV 3) (eV 7)) (eC (.int 0)))) (eIf (cB ltA (eV 7) (eN lenP (aCons (eV 4) aNil))) (e2 ixP (eV 4) (eV 7)) (eC (.int 0))))) w_added_bijective_1_2)
def c_added_bijective_1 : FT := (tOr2 (cB ltA (eV 7) (eN maxP (aCons (eN lenP (aCons (eV 3) aNil)) (aCons (eN lenP (aCons (eV 4) aNil)) aNil)))) (cB gtA (eV 6) (eC (.int 0))))
def w_added_bijective_1 : FS := (sSeq (sSet 8 (eV 6)) w_added_bijective_1_1)
def t_added_bijective_6 : FS := (sRet (e1 tRevP (eV 5)))
def t_added_bijective_5 : FS := (sSeq (sWhile c_added_bijective_1 w_added_bijective_1) t_added_bijective_6)
def t_added_bijective_4 : FS := (sSeq (sSet 7 (eC (.int 0))) t_added_bijective_5)
def t_added_bijective_3 : FS := (sSeq (sSet 6 (eC (.int 0))) t_added_bijective_4)
def t_added_bijective_2 : FS := (sSeq (sBld 5 (fLst aNil)) t_added_bijective_3)
def t_added_bijective_1 : FS := (sSeq (sPar 3 4 (aCons (eF (fLstRev (eV 1))) (aCons (eF (fLstRev (eV 2))) aNil))) t_added_bijective_2)
def b_added_bijective : FS := (sSeq (sIf (tOr2 (tNot1 (tTru (eCall sp_are_digits_bijective (aCons (eCall sp_base_of (aCons (eV 0) aNil)) (aCons (eV 1) aNil))))) (tNot1 (tTru (eCall sp_are_digits_bijective (aCons (eV 0) (aCons (eV 2) aNil)))))) sNever sNil) t_added_bijective_1)

end Fl

section
set_option exponentiation.threshold 2000
namespace Fl
open PySem PySem.Spec PyProof.Rows L2
theorem l_are_digits_bijective : ∀ args M Q, sp_are_digits_bijective args M Q → args.length = 2 ∧ b_are_digits_bijective (fE Q) (fr0 1 args) M := fun args M Q h => by
  match args, h with
  | [.int b, w], ⟨l, hw, hl, hq⟩ =>
    refine ⟨rfl, ?_⟩
    rcases hw with rfl | rfl
    all_goals
      refine ⟨by rw [List.length_map]; exact hl, lcP_all (fun d : Int => .bl (!(decide (1 ≤ d) && decide (d ≤ b)))) (fun d hd K1 K0 k => ?_) ?_⟩
      · refine ⟨fun _ => ⟨fun h => ⟨trivial, ?_⟩, fun h => ⟨trivial, ?_⟩⟩, fun h => ?_⟩
        · rw [show decide (1 ≤ d) = true from h] at k
          exact k
        · rw [show decide (1 ≤ d) = false from h] at k
          exact k
        · cases h
      · refine ⟨l.map fun d => !(decide (1 ≤ d) && decide (d ≤ b)), by rw [List.map_map]; rfl, trivial, ?_⟩
        show Q (.bl (!((l.map fun d => !(decide (1 ≤ d) && decide (d ≤ b))).any id))) M
        rw [List.any_map]
        exact hq
theorem l_value_bijective : ∀ args M Q, sp_value_bijective args M Q → args.length = 2 ∧ b_value_bijective (fE Q) (fr0 2 args) M := fun args M Q h => by
  match args, h with
  | [.int b, w], ⟨l, hw, ⟨h1, h2, h3, h4⟩, hq⟩ =>
    have hz := line1
    refine ⟨rfl, ⟨h1, h2⟩, l, hw, by omega, trivial, fun h => ?_, fun _ => ?_⟩
    · have h := nT h
      rw [areO_iff.mpr h4] at h
      cases h
    · rcases hw with rfl | rfl
      all_goals exact val_loop (D := { fE Q with nx := sRet (eV 2) (fE Q) }) ⟨by omega, by omega⟩ l 0 none fun x => hq
theorem atM {l : List Int} {j : Nat} {d : Int} (h : l[j]? = some d) : atI (l.map PV.int) (j : Int) = some (.int d) := atI_nat (by rw [List.getElem?_map, h]; rfl)
theorem atMid (i t : List Int) (d : Int) : atI ((i ++ d :: t).map PV.int) (i.length : Int) = some (.int d) := atM (by simp)
theorem setMid (i t : List Int) (d v : Int) : ((i ++ d :: t).map PV.int).set i.length (.int v) = (i ++ v :: t).map PV.int := by
  rw [List.map_append, List.map_append, List.map_cons, List.map_cons, show i.length = (i.map PV.int).length + 0 by rw [List.length_map]; rfl, List.set_append_right _ _ (by omega), Nat.add_zero, Nat.sub_self, List.set_cons_zero]
theorem repS (v : Int) (j : Nat) : v :: List.replicate j v = List.replicate (j + 1) v := rfl
theorem fo_loop {b : Int} {D : FEnds} {M : Sto} {x1 : Option EV} {l : List Int} : ∀ (k : Nat) (A : List Int) (j : Nat), A.length ≤ k → l = A ++ List.replicate j b →
    (l = List.replicate l.length b → D.nx [some (.v (.int b)), x1, some (.b ((List.replicate l.length 1).map .int)), some (.v (.int (-1)))] M) →
    (∀ i d j, l = i ++ d :: List.replicate j b → d ≠ b → D.nx [some (.v (.int b)), x1, some (.b ((i ++ d :: List.replicate j 1).map .int)), some (.v (.int (i.length : Int)))] M) →
    whP c_following_1 w_following_1 D (k + 1) [some (.v (.int b)), x1, some (.b ((A ++ List.replicate j 1).map .int)), some (.v (.int ((A.length : Int) - 1)))] M
  | k, A, j, hk, hl, q0, q1 => by
    rcases snoc_or A with e | ⟨i, d, e⟩
    · subst e
      have hlen : l.length = j := by rw [hl, List.nil_append, List.length_replicate]
      have q0 := q0 (by rw [hlen, hl]; rfl)
      rw [hlen] at q0
      refine ⟨fun h => ?_, fun _ => ⟨fun h => ?_, fun _ => q0⟩⟩
      · have : (0 : Int) ≤ (([] : List Int).length : Int) - 1 := of_decide_eq_true h
        rw [List.length_nil] at this
        omega
      · cases h
    · subst e
      have eA : ((i ++ [d]).length : Int) - 1 = (i.length : Int) := by rw [List.length_append, List.length_singleton]; omega
      rw [eA, List.append_assoc, List.singleton_append]
      rw [List.append_assoc, List.singleton_append] at hl
      refine ⟨fun _ => ⟨.int d, atMid i _ d, fun h => ?_, fun h => ?_⟩, fun h => ?_⟩
      · have h := eqD h
        subst h
        rw [List.length_append, List.length_singleton] at hk
        match k, hk with
        | 0, hk => omega
        | k + 1, hk =>
          refine ⟨⟨by omega, by rw [List.length_map, List.length_append, List.length_cons]; omega⟩, ?_⟩
          have ih := fo_loop k i (j + 1) (by omega) (by rw [hl, repS]) q0 q1
          rw [← repS 1 j, ← setMid i (List.replicate j 1) d 1] at ih
          exact ih
      · have h := eqN h
        exact q1 i d j hl h
      · have := of_decide_eq_false h
        omega
theorem l_following : ∀ args M Q, sp_following args M Q → args.length = 2 ∧ b_following (fE Q) (fr0 2 args) M := fun args M Q h => by
  match args, h with
  | [.int b, w], ⟨l, hw, ⟨h1, h2, h3, h4⟩, hq⟩ =>
    have hz := line1
    have q0 : l = List.replicate l.length b → t_following_4 (fE Q) [some (.v (.int b)), some (.v w), some (.b ((List.replicate l.length 1).map .int)), some (.v (.int (-1)))] M := fun e => by
      have ev : valL b l + 1 = valL b (1 :: List.replicate l.length 1) := by
        conv => lhs; rw [e]
        exact fol_all b _
      rw [ev, ← ones_of h1 (w := 1 :: List.replicate l.length 1) (fun d hd => by
        rcases List.mem_cons.mp hd with q | q
        · omega
        · have := List.eq_of_mem_replicate q; omega)] at hq
      refine ⟨fun _ => ⟨?_, hq⟩, fun h => ?_⟩
      · show [PV.int 1].length + ((List.replicate l.length 1).map PV.int).length ≤ sizeLine
        rw [List.length_map, List.length_replicate, List.length_singleton]
        omega
      · have := of_decide_eq_false h
        omega
    have q1 : ∀ i d j, l = i ++ d :: List.replicate j b → d ≠ b → t_following_4 (fE Q) [some (.v (.int b)), some (.v w), some (.b ((i ++ d :: List.replicate j 1).map .int)), some (.v (.int (i.length : Int)))] M := fun i d j e hd => by
      have hdd := h4 d (by rw [e]; simp)
      rw [e, fol_val, ← ones_of h1 (w := i ++ (d + 1) :: List.replicate j 1) (fun x hx => by
        rcases List.mem_append.mp hx with q | q
        · exact h4 x (by rw [e]; simp [q])
        · rcases List.mem_cons.mp q with q | q
          · omega
          · have := List.eq_of_mem_replicate q; omega)] at hq
      refine ⟨fun h => ?_, fun _ => ⟨.int d, atMid i _ d, ⟨by omega, by rw [List.length_map, List.length_append, List.length_cons]; omega⟩, ?_⟩⟩
      · have := of_decide_eq_true h
        omega
      · show Q (.tup (((i ++ d :: List.replicate j 1).map PV.int).set i.length (.int (d + 1)))) M
        rw [setMid]
        exact hq
    have key := fo_loop (D := { fE Q with nx := t_following_4 (fE Q) }) (M := M) (x1 := some (.v w)) l.length l 0 (Nat.le_refl _) (by rw [List.replicate_zero, List.append_nil]) q0 q1
    rw [List.replicate_zero, List.append_nil] at key
    have e3 : (l.length : Int) = ((l.map PV.int).length : Int) := by rw [List.length_map]
    rw [e3] at key
    refine ⟨rfl, ⟨h1, h2⟩, l, hw, by omega, trivial, fun h => ?_, fun _ => ?_⟩
    · have h := nT h
      rw [areO_iff.mpr h4] at h
      cases h
    · rcases hw with rfl | rfl <;> exact ⟨_, key⟩
end Fl

end

section
set_option exponentiation.threshold 2000
namespace Fl
open PySem PySem.Spec PyProof.Rows L2
theorem ah_loop {b : Int} {D : FEnds} {M : Sto} {x1 : Option EV} {l : List Int} : ∀ (k : Nat) (A : List Int) (j : Nat), A.length ≤ k → l = A ++ List.replicate j 1 →
    (l = List.replicate l.length 1 → D.nx [some (.v (.int b)), x1, some (.b ((List.replicate l.length b).map .int)), some (.v (.int (-1)))] M) →
    (∀ i d j, l = i ++ d :: List.replicate j 1 → d ≠ 1 → D.nx [some (.v (.int b)), x1, some (.b ((i ++ d :: List.replicate j b).map .int)), some (.v (.int (i.length : Int)))] M) →
    whP c_ahead_1 w_ahead_1 D (k + 1) [some (.v (.int b)), x1, some (.b ((A ++ List.replicate j b).map .int)), some (.v (.int ((A.length : Int) - 1)))] M
  | k, A, j, hk, hl, q0, q1 => by
    rcases snoc_or A with e | ⟨i, d, e⟩
    · subst e
      have hlen : l.length = j := by rw [hl, List.nil_append, List.length_replicate]
      have q0 := q0 (by rw [hlen, hl]; rfl)
      rw [hlen] at q0
      refine ⟨fun h => ?_, fun _ => ⟨fun h => ?_, fun _ => q0⟩⟩
      · have : (0 : Int) ≤ (([] : List Int).length : Int) - 1 := of_decide_eq_true h
        rw [List.length_nil] at this
        omega
      · cases h
    · subst e
      have eA : ((i ++ [d]).length : Int) - 1 = (i.length : Int) := by rw [List.length_append, List.length_singleton]; omega
      rw [eA, List.append_assoc, List.singleton_append]
      rw [List.append_assoc, List.singleton_append] at hl
      refine ⟨fun _ => ⟨.int d, atMid i _ d, fun h => ?_, fun h => ?_⟩, fun h => ?_⟩
      · have h := eqD h
        subst h
        rw [List.length_append, List.length_singleton] at hk
        match k, hk with
        | 0, hk => omega
        | k + 1, hk =>
          refine ⟨⟨by omega, by rw [List.length_map, List.length_append, List.length_cons]; omega⟩, ?_⟩
          have ih := ah_loop k i (j + 1) (by omega) (by rw [hl, repS]) q0 q1
          rw [← repS b j, ← setMid i (List.replicate j b) 1 b] at ih
          exact ih
      · have h := eqN h
        exact q1 i d j hl h
      · have := of_decide_eq_false h
        omega
theorem cut1 (l : List Int) (d : Int) : cut ((d :: l).map PV.int) (some (1 : Int)) none = l.map PV.int := by
  have : cut ((d :: l).map PV.int) (some ((1 : Nat) : Int)) none = l.map PV.int := by
    unfold cut
    rw [HT.sIx_nat, HT.sIx_none, List.length_map, List.length_cons, show min 1 (l.length + 1) = 1 by omega, List.map_cons, List.drop_one, List.tail_cons, List.take_of_length_le (by rw [List.length_map]; omega)]
  exact this
theorem l_ahead : ∀ args M Q, sp_ahead args M Q → args.length = 2 ∧ b_ahead (fE Q) (fr0 2 args) M := fun args M Q h => by
  match args, h with
  | [.int b, w], ⟨l, hw, ⟨h1, h2, h3, h4, h5⟩, hq⟩ =>
    have hz := line1
    have q0 : l = List.replicate l.length 1 → t_ahead_4 (fE Q) [some (.v (.int b)), some (.v w), some (.b ((List.replicate l.length b).map .int)), some (.v (.int (-1)))] M := fun e => by
      cases l with
      | nil => exact absurd rfl h5
      | cons x r =>
        have ev : valL b (x :: r) - 1 = valL b (List.replicate r.length b) := by
          have := fol_all b r.length
          rw [e]
          show valL b (1 :: List.replicate r.length 1) - 1 = _
          omega
        rw [ev, ← ones_of h1 (w := List.replicate r.length b) (fun d hd => by
          have := List.eq_of_mem_replicate hd; omega)] at hq
        refine ⟨fun _ => ?_, fun h => ?_⟩
        · show Q (.tup (cut ((b :: List.replicate r.length b).map PV.int) (some (1 : Int)) none)) M
          rw [cut1]
          exact hq
        · have := of_decide_eq_false h
          omega
    have q1 : ∀ i d j, l = i ++ d :: List.replicate j 1 → d ≠ 1 → t_ahead_4 (fE Q) [some (.v (.int b)), some (.v w), some (.b ((i ++ d :: List.replicate j b).map .int)), some (.v (.int (i.length : Int)))] M := fun i d j e hd => by
      have hdd := h4 d (by rw [e]; simp)
      have ev : valL b l - 1 = valL b (i ++ (d - 1) :: List.replicate j b) := by
        have := fol_val b i (d - 1) j
        rw [show d - 1 + 1 = d by omega, ← e] at this
        omega
      rw [ev, ← ones_of h1 (w := i ++ (d - 1) :: List.replicate j b) (fun x hx => by
        rcases List.mem_append.mp hx with q | q
        · exact h4 x (by rw [e]; simp [q])
        · rcases List.mem_cons.mp q with q | q
          · omega
          · have := List.eq_of_mem_replicate q; omega)] at hq
      refine ⟨fun h => ?_, fun _ => ⟨.int d, atMid i _ d, ⟨by omega, by rw [List.length_map, List.length_append, List.length_cons]; omega⟩, ?_⟩⟩
      · have := of_decide_eq_true h
        omega
      · show Q (.tup (((i ++ d :: List.replicate j b).map PV.int).set i.length (.int (d - 1)))) M
        rw [setMid]
        exact hq
    have key := ah_loop (D := { fE Q with nx := t_ahead_4 (fE Q) }) (M := M) (x1 := some (.v w)) l.length l 0 (Nat.le_refl _) (by rw [List.replicate_zero, List.append_nil]) q0 q1
    rw [List.replicate_zero, List.append_nil] at key
    have e3 : (l.length : Int) = ((l.map PV.int).length : Int) := by rw [List.length_map]
    rw [e3] at key
    refine ⟨rfl, ?_⟩
    rcases hw with rfl | rfl
    all_goals
      refine ⟨trivial, fun h => ?_, fun _ => ⟨⟨h1, h2⟩, l, ?_, by omega, trivial, fun h => ?_, fun _ => ⟨_, key⟩⟩⟩
      · have h : (!(!(l.map PV.int).isEmpty)) = true := h
        cases l with
        | nil => exact absurd rfl h5
        | cons x r => cases h
      · first | exact .inl rfl | exact .inr rfl
      · have h := nT h
        rw [areO_iff.mpr h4] at h
        cases h
theorem l_compared_bijective : ∀ args M Q, sp_compared_bijective args M Q → args.length = 2 ∧ b_compared_bijective (fE Q) (fr0 2 args) M := fun args M Q h => by
  match args, h with
  | [w1, w2], ⟨l1, l2, b, hw1, hw2, ⟨g1, g2, h1, k1, k2⟩, hq⟩ =>
    rw [← sgn_b, ← lw_ones h1 oc_gt k1 k2, ← lw_ones h1 oc_lt k1 k2] at hq
    have e1 : ((l1.map PV.int).length : Int) = l1.length := by rw [List.length_map]
    have e2 : ((l2.map PV.int).length : Int) = l2.length := by rw [List.length_map]
    have o1 := okD_lw l1
    have o2 := okD_lw l2
    have o3 := cmpb_lw l1 l2
    unfold lw at hq o1 o2 o3
    rw [← e1, ← e2] at hq o3
    rw [← e1] at o1
    rw [← e2] at o2
    refine ⟨rfl, ?_⟩
    rcases hw1 with rfl | rfl <;> rcases hw2 with rfl | rfl <;> exact ⟨⟨o1, o2, o3⟩, ⟨o1, o2, o3⟩, hq⟩
/-- xs[at] if at < len(xs) else 0: both ways -/
theorem pick2 {xs : List Int} {k : Nat} {P1 : Prop} (h : xs.getD k 0 = xs.getD k 0 → P1) : P1 := h rfl
theorem ltLen {xs : List Int} {k : Nat} (h : cLt (k : Int) (((xs.map PV.int).length : Nat) : Int) = true) : atI (xs.map PV.int) (k : Int) = some (.int (xs.getD k 0)) := by
  have h := of_decide_eq_true h
  rw [List.length_map] at h
  have h : k < xs.length := by omega
  exact atM (by simp [h])
theorem geLen {xs : List Int} {k : Nat} (h : cLt (k : Int) (((xs.map PV.int).length : Nat) : Int) = false) : xs.getD k 0 = 0 := by
  have h := of_decide_eq_false h
  rw [List.length_map] at h
  have h : ¬ k < xs.length := by omega
  simp [h]
theorem drop_getD (xs : List Int) (k : Nat) (h : k < xs.length) : xs.drop k = xs.getD k 0 :: xs.drop (k + 1) := by
  rw [List.drop_eq_getElem_cons h]
  simp [h]
theorem bss_step {b : Int} (c : Int) (xs ys : List Int) (k : Nat) (h : k < xs.length ∨ k < ys.length) :
    bss b c (xs.drop k) (ys.drop k) = bsd b (c + xs.getD k 0 + ys.getD k 0) :: bss b ((c + xs.getD k 0 + ys.getD k 0 - bsd b (c + xs.getD k 0 + ys.getD k 0)) / b) (xs.drop (k + 1)) (ys.drop (k + 1)) := by
  by_cases h1 : k < xs.length
  · by_cases h2 : k < ys.length
    · rw [drop_getD xs k h1, drop_getD ys k h2, bss]
    · rw [drop_getD xs k h1, List.drop_of_length_le (show ys.length ≤ k by omega), List.drop_of_length_le (show ys.length ≤ k + 1 by omega), show ys.getD k 0 = 0 by simp [h2], bss]
  · have h2 : k < ys.length := by omega
    rw [drop_getD ys k h2, List.drop_of_length_le (show xs.length ≤ k by omega), List.drop_of_length_le (show xs.length ≤ k + 1 by omega), show xs.getD k 0 = 0 by simp [h1], bss]
theorem bss_end {b : Int} (c : Int) (hb : 2 ≤ b) (h : 1 ≤ c ∧ c ≤ 2) : bss b c [] [] = bsd b (c + 0 + 0) :: bss b ((c + 0 + 0 - bsd b (c + 0 + 0)) / b) [] [] ∧ (c + 0 + 0 - bsd b (c + 0 + 0)) / b = 0 := by
  have e : bsd b (c + 0 + 0) = c := by
    unfold bsd
    rw [Int.emod_eq_of_lt (by omega) (by omega)]
    omega
  rw [e]
  have e2 : (c + 0 + 0 - c) / b = 0 := by
    rw [show c + 0 + 0 - c = 0 by omega, Int.zero_ediv]
  rw [e2]
  refine ⟨?_, rfl⟩
  rw [bss, bss, if_pos (by omega), if_neg (by omega)]
theorem getD_le {s lo hi : Int} {xs : List Int} (h0 : lo ≤ 0 ∧ 0 ≤ hi) (h : ∀ d ∈ xs, lo ≤ d ∧ d ≤ hi) (k : Nat) : lo ≤ xs.getD k 0 ∧ xs.getD k 0 ≤ hi := by
  by_cases hk : k < xs.length
  · have : xs.getD k 0 ∈ xs := by
      simp [hk]
    exact h _ this
  · rw [show xs.getD k 0 = 0 by simp [hk]]
    exact h0
theorem ab_loop {b : Int} {D : FEnds} {M : Sto} {x1 x2 : Option EV} {xs ys : List Int} {N : Nat} (hN : max xs.length ys.length = N) (hb : 2 ≤ b ∧ b ≤ 1000) (hx : okD1 1 b xs) (hy : okD1 1 b ys) : ∀ (k : Nat) (c : Int) (at' : Nat) (fd : List Int) (x8 x9 : Option EV), (N - at') + (if at' < N then 2 else if 0 < c then 2 else 1) ≤ k → 0 ≤ c ∧ c ≤ 2 → fd.length + k ≤ sizeLine →
    (∀ x6 x7 x8 x9, D.nx [some (.v (.int b)), x1, x2, some (.v (.lst (xs.map .int))), some (.v (.lst (ys.map .int))), some (.b ((fd ++ bss b c (xs.drop at') (ys.drop at')).map .int)), x6, x7, x8, x9] M) →
    whP c_added_bijective_1 w_added_bijective_1 D k [some (.v (.int b)), x1, x2, some (.v (.lst (xs.map .int))), some (.v (.lst (ys.map .int))), some (.b (fd.map .int)), some (.v (.int c)), some (.v (.int (at' : Int))), x8, x9] M
  | 0, c, at', fd, x8, x9, hk, hc, hl, q => by
    exfalso
    by_cases h : at' < N
    · rw [if_pos h] at hk; omega
    · rw [if_neg h] at hk
      by_cases h2 : 0 < c
      · rw [if_pos h2] at hk; omega
      · rw [if_neg h2] at hk; omega
  | k + 1, c, at', fd, x8, x9, hk, hc, hl, q => by
    have em : (if ((ys.map PV.int).length : Int) > ((xs.map PV.int).length : Int) then ((ys.map PV.int).length : Int) else ((xs.map PV.int).length : Int)) = (N : Int) := by rw [iteN, List.length_map, List.length_map, hN]
    have gx := getD_le (s := 0) (lo := 0) (hi := b) ⟨Int.le_refl _, by omega⟩ (fun d hd => ⟨by have := hx d hd; omega, by have := hx d hd; omega⟩) at'
    have gy := getD_le (s := 0) (lo := 0) (hi := b) ⟨Int.le_refl _, by omega⟩ (fun d hd => ⟨by have := hy d hd; omega, by have := hy d hd; omega⟩) at'
    generalize hX : xs.getD at' 0 = X at *
    generalize hY : ys.getD at' 0 = Y at *
    have body : 1 ≤ c + X + Y → bss b c (xs.drop at') (ys.drop at') = bsd b (c + X + Y) :: bss b ((c + X + Y - bsd b (c + X + Y)) / b) (xs.drop (at' + 1)) (ys.drop (at' + 1)) →
        (N - (at' + 1)) + (if at' + 1 < N then 2 else if 0 < (c + X + Y - bsd b (c + X + Y)) / b then 2 else 1) ≤ k →
        w_added_bijective_1 { D with nx := whP c_added_bijective_1 w_added_bijective_1 D k, ct := whP c_added_bijective_1 w_added_bijective_1 D k, bk := D.nx } [some (.v (.int b)), x1, x2, some (.v (.lst (xs.map .int))), some (.v (.lst (ys.map .int))), some (.b (fd.map .int)), some (.v (.int c)), some (.v (.int (at' : Int))), x8, x9] M := fun hW hstep hfuel => by
      have hd := bsd_ok hb.1 hW (by omega)
      have ih := ab_loop hN hb hx hy k ((c + X + Y - bsd b (c + X + Y)) / b) (at' + 1) (fd ++ [bsd b (c + X + Y)]) (some (.v (.int (c + X + Y)))) (some (.v (.int (bsd b (c + X + Y))))) hfuel ⟨hd.2.2.2.1, hd.2.2.2.2⟩ (by rw [List.length_append, List.length_singleton]; omega) fun x6 x7 x8 x9 => by
        have q := q x6 x7 x8 x9
        rw [hstep] at q
        rw [List.append_assoc]
        exact q
      rw [mapI] at ih
      have leaf : w_added_bijective_1_2 { D with nx := whP c_added_bijective_1 w_added_bijective_1 D k, ct := whP c_added_bijective_1 w_added_bijective_1 D k, bk := D.nx } [some (.v (.int b)), x1, x2, some (.v (.lst (xs.map .int))), some (.v (.lst (ys.map .int))), some (.b (fd.map .int)), some (.v (.int c)), some (.v (.int (at' : Int))), some (.v (.int (c + X + Y))), x9] M :=
        ⟨by omega, by rw [List.length_map]; omega, dv (by omega) (by omega), ih⟩
      have leaf2 : ∀ W : Int, W = c + X + Y → w_added_bijective_1_2 { D with nx := whP c_added_bijective_1 w_added_bijective_1 D k, ct := whP c_added_bijective_1 w_added_bijective_1 D k, bk := D.nx } [some (.v (.int b)), x1, x2, some (.v (.lst (xs.map .int))), some (.v (.lst (ys.map .int))), some (.b (fd.map .int)), some (.v (.int c)), some (.v (.int (at' : Int))), some (.v (.int W)), x9] M := fun W e => e ▸ leaf
      refine ⟨fun h => ⟨.int X, by rw [← hX]; exact ltLen h, fun h => ⟨.int Y, by rw [← hY]; exact ltLen h, leaf⟩, fun h => leaf2 (c + X + 0) (by rw [← hY, geLen h])⟩, fun h => ⟨fun h2 => ⟨.int Y, by rw [← hY]; exact ltLen h2, leaf2 (c + 0 + Y) (by rw [← hX, geLen h])⟩, fun h2 => leaf2 (c + 0 + 0) (by rw [← hX, geLen h, ← hY, geLen h2])⟩⟩
    by_cases h : at' < N
    · have hW : 1 ≤ c + X + Y := by
        by_cases h1 : at' < xs.length
        · have : X ∈ xs := by rw [← hX]; simp [h1]
          have := hx X this
          omega
        · have h2 : at' < ys.length := by omega
          have : Y ∈ ys := by rw [← hY]; simp [h2]
          have := hy Y this
          omega
      have hstep := bss_step (b := b) c xs ys at' (by omega)
      rw [hX, hY] at hstep
      rw [if_pos h] at hk
      have b1 := body hW hstep (by split <;> (try split) <;> omega)
      refine ⟨fun _ => ⟨fun _ => b1, fun h => ?_⟩, fun h2 => ?_⟩
      · cases h
      · have h2 : ¬ ((at' : Int) < N) := by rw [← em]; exact of_decide_eq_false h2
        omega
    · rw [if_neg h] at hk
      have dx : xs.drop at' = [] := List.drop_of_length_le (by omega)
      have dy : ys.drop at' = [] := List.drop_of_length_le (by omega)
      have dx1 : xs.drop (at' + 1) = [] := List.drop_of_length_le (by omega)
      have dy1 : ys.drop (at' + 1) = [] := List.drop_of_length_le (by omega)
      have x0 : X = 0 := by rw [← hX]; simp [show ¬ at' < xs.length by omega]
      have y0 : Y = 0 := by rw [← hY]; simp [show ¬ at' < ys.length by omega]
      refine ⟨fun h2 => ?_, fun _ => ⟨fun h2 => ?_, fun h2 => ?_⟩⟩
      · have h2 : (at' : Int) < N := by rw [← em]; exact of_decide_eq_true h2
        omega
      · have h2 := gtD h2
        rw [if_pos h2] at hk
        have he := bss_end c hb.1 ⟨by omega, hc.2⟩
        refine body (by omega) (by rw [dx, dy, dx1, dy1, x0, y0]; exact he.1) ?_
        rw [x0, y0, he.2, if_neg (by omega), if_neg (by omega)]
        omega
      · have h2 := gtN h2
        have c0 : c = 0 := by omega
        subst c0
        have q := q (some (.v (.int 0))) (some (.v (.int (at' : Int)))) x8 x9
        rw [dx, dy, bss, if_neg (by omega), List.append_nil] at q
        exact q
theorem l_added_bijective : ∀ args M Q, sp_added_bijective args M Q → args.length = 3 ∧ b_added_bijective (fE Q) (fr0 7 args) M := fun args M Q h => by
  match args, h with
  | [.int b, w1, w2], ⟨l1, l2, hw1, hw2, ⟨g1, g2, h1, h2, k1, k2⟩, hq⟩ =>
    have hz := line1
    have hx : okD1 1 b l1.reverse := fun d hd => k1 d (List.mem_reverse.mp hd)
    have hy : okD1 1 b l2.reverse := fun d hd => k2 d (List.mem_reverse.mp hd)
    have hb := bss_ok h1 0 l1.reverse l2.reverse ⟨by omega, by omega⟩ hx hy
    have key := ab_loop (D := { fE Q with nx := t_added_bijective_6 (fE Q) }) (M := M) (x1 := some (.v w1)) (x2 := some (.v w2)) rfl ⟨h1, h2⟩ hx hy (max l1.reverse.length l2.reverse.length + 2) 0 0 [] none none (by split <;> (try split) <;> omega) ⟨by omega, by omega⟩ (by rw [List.length_nil, List.length_reverse, List.length_reverse]; omega) fun x6 x7 x8 x9 => by
      rw [List.nil_append, List.drop_zero, List.drop_zero, lowo_of h1 hb.1, hb.2, ← valL_vl, ← valL_vl, Int.zero_add]
      show Q (.tup ((lowo b (valL b l1 + valL b l2)).map PV.int).reverse) M
      rw [← List.map_reverse]
      exact hq
    rw [List.map_reverse, List.map_reverse] at key
    refine ⟨rfl, ⟨h1, h2⟩, l1, hw1, by omega, trivial, fun h => ?_, fun _ => ⟨l2, hw2, by omega, trivial, fun h => ?_, fun _ => ?_⟩⟩
    · have h := nT h
      rw [areO_iff.mpr k1] at h
      cases h
    · have h := nT h
      rw [areO_iff.mpr k2] at h
      cases h
    · rcases hw1 with rfl | rfl <;> rcases hw2 with rfl | rfl <;> exact ⟨_, key⟩
end Fl

end

section
set_option exponentiation.threshold 2000
/-! k00: words in a base below zero. Plain maths. -/
namespace Fl
open PySem PySem.Spec PyProof.Rows L2
theorem neg_step {s n : Int} (hs : 2 ≤ s) (hn : n ≠ 0) : 2 * (-(n / s)).natAbs + (if -(n / s) < 0 then 1 else 0) < 2 * n.natAbs + (if n < 0 then 1 else 0) := by
  have e1 := Int.emod_nonneg n (by omega : s ≠ 0)
  have e2 := Int.emod_lt_of_pos n (by omega : 0 < s)
  have e3 := Int.emod_add_mul_ediv n s
  by_cases h : 0 < n
  · have h0 : 0 ≤ n / s := Int.ediv_nonneg (by omega) (by omega)
    have h1 : 2 * (n / s) ≤ s * (n / s) := Int.mul_le_mul_of_nonneg_right hs h0
    split <;> split <;> omega
  · have h0 : n / s < 0 := Int.ediv_neg_of_neg_of_pos (by omega) (by omega)
    have h1 : s * (n / s) ≤ 2 * (n / s) ∨ True := .inr trivial
    -- n = r + s q, q < 0, so - q <= (|n| + s - 1) / s
    have h2 : s * (-(n / s) - 1) < -n := by rw [Int.mul_sub, Int.mul_neg]; omega
    have h3 : 2 * (-(n / s) - 1) ≤ s * (-(n / s) - 1) := Int.mul_le_mul_of_nonneg_right hs (by omega)
    split <;> split <;> omega
def lowb (s n : Int) : List Int := if h : n ≠ 0 ∧ 2 ≤ s then n % s :: lowb s (-(n / s)) else []
termination_by 2 * n.natAbs + (if n < 0 then 1 else 0)
decreasing_by exact neg_step h.2 h.1
theorem lowb_ne {s n : Int} (h1 : n ≠ 0) (h2 : 2 ≤ s) : lowb s n = n % s :: lowb s (-(n / s)) := by
  rw [lowb, dif_pos ⟨h1, h2⟩]
theorem lowb_zero {s : Int} : lowb s 0 = [] := by
  rw [lowb, dif_neg (by omega)]
theorem lowb_ok {s : Int} (hs : 2 ≤ s) : ∀ (k : Nat) {n : Int}, 2 * n.natAbs + (if n < 0 then 1 else 0) ≤ k → okD1 0 s (lowb s n) ∧ topOk (lowb s n) ∧ vl (-s) (lowb s n) = n
  | k, n, hk => by
    by_cases h : n = 0
    · subst h
      rw [lowb_zero]
      exact ⟨fun d hd => (by simp at hd), trivial, rfl⟩
    · rw [lowb_ne h hs]
      have hst := neg_step hs h
      match k, hk with
      | 0, hk => omega
      | k + 1, hk =>
        obtain ⟨i1, i2, i3⟩ := lowb_ok hs k (n := -(n / s)) (by omega)
        have e1 := Int.emod_nonneg n (by omega : s ≠ 0)
        have e2 := Int.emod_lt_of_pos n (by omega : 0 < s)
        have e3 := Int.emod_add_mul_ediv n s
        refine ⟨fun d hd => ?_, ?_, ?_⟩
        · rcases List.mem_cons.mp hd with q | q
          · rw [q]; omega
          · exact i1 d q
        · cases hl : lowb s (-(n / s)) with
          | nil =>
            rw [hl] at i3
            have : -(n / s) = 0 := i3.symm
            have : n / s = 0 := by omega
            rw [this, Int.mul_zero] at e3
            show n % s ≠ 0
            omega
          | cons e r =>
            rw [hl] at i2
            exact i2
        · show n % s + -s * vl (-s) (lowb s (-(n / s))) = n
          rw [i3, Int.neg_mul_neg]
          exact e3
theorem lowb_dig {s n : Int} (hs : 2 ≤ s) : okD1 0 s (lowb s n) := (lowb_ok hs _ (Nat.le_refl _)).1
theorem lowb_top {s n : Int} (hs : 2 ≤ s) : topOk (lowb s n) := (lowb_ok hs _ (Nat.le_refl _)).2.1
theorem lowb_val {s n : Int} (hs : 2 ≤ s) : vl (-s) (lowb s n) = n := (lowb_ok hs _ (Nat.le_refl _)).2.2
theorem lowb_of {s : Int} {l : List Int} (hs : 2 ≤ s) (h : okD1 0 s l) (ht : topOk l) : l = lowb s (vl (-s) l) :=
  vl_inj (.inr rfl) hs h ht (lowb_dig hs) (lowb_top hs) (lowb_val hs).symm
theorem lowb_len {s : Int} (hs : 2 ≤ s) : ∀ (k : Nat) {n : Int}, n.natAbs ≤ 2 ^ k → (lowb s n).length ≤ k + 2
  | 0, n, h => by
    rw [Nat.pow_zero] at h
    by_cases h0 : n = 0
    · rw [h0, lowb_zero]; exact Nat.zero_le _
    · rw [lowb_ne h0 hs, List.length_cons]
      by_cases h1 : n = 1
      · subst h1
        rw [Int.ediv_eq_zero_of_lt (by omega) (by omega), show -(0 : Int) = 0 from rfl, lowb_zero]
        simp
      · have h2 : n = -1 := by omega
        subst h2
        have e : (-1 : Int) / s = -1 := by
          have e1 := Int.emod_nonneg (-1) (by omega : s ≠ 0)
          have e2 := Int.emod_lt_of_pos (-1) (by omega : 0 < s)
          have e3 := Int.emod_add_mul_ediv (-1) s
          have h0 : (-1 : Int) / s < 0 := Int.ediv_neg_of_neg_of_pos (by omega) (by omega)
          by_cases h5 : (-1 : Int) / s = -1
          · exact h5
          · have : s * ((-1 : Int) / s) ≤ s * (-2) := Int.mul_le_mul_of_nonneg_left (by omega) (by omega)
            omega
        rw [e, show -(-1 : Int) = 1 from rfl, lowb_ne (by omega) hs, List.length_cons, Int.ediv_eq_zero_of_lt (by omega) (by omega), show -(0 : Int) = 0 from rfl, lowb_zero]
        simp
  | k + 1, n, h => by
    by_cases h0 : n = 0
    · rw [h0, lowb_zero]; exact Nat.zero_le _
    · rw [lowb_ne h0 hs, List.length_cons]
      have e1 := Int.emod_nonneg n (by omega : s ≠ 0)
      have e2 := Int.emod_lt_of_pos n (by omega : 0 < s)
      have e3 := Int.emod_add_mul_ediv n s
      have hp : (2 : Nat) ^ (k + 1) = 2 ^ k + 2 ^ k := by rw [Nat.pow_succ]; omega
      have hp1 : 1 ≤ (2 : Nat) ^ k := Nat.one_le_two_pow
      have : (-(n / s)).natAbs ≤ 2 ^ k := by
        by_cases hn : 0 < n
        · have h0 : 0 ≤ n / s := Int.ediv_nonneg (by omega) (by omega)
          have h1 : 2 * (n / s) ≤ s * (n / s) := Int.mul_le_mul_of_nonneg_right hs h0
          omega
        · have h0 : n / s < 0 := Int.ediv_neg_of_neg_of_pos (by omega) (by omega)
          have h2 : s * (-(n / s) - 1) < -n := by rw [Int.mul_sub, Int.mul_neg]; omega
          have h3 : 2 * (-(n / s) - 1) ≤ s * (-(n / s) - 1) := Int.mul_le_mul_of_nonneg_right hs (by omega)
          omega
      have := lowb_len hs k this
      omega
def bel (s n : Int) : List Int := (lowb s n).reverse
theorem bel_ok {s n : Int} (hs : 2 ≤ s) : wOk s (bel s n) := by
  rw [wOk_iff, bel, List.reverse_reverse]
  exact ⟨lowb_dig hs, lowb_top hs⟩
theorem bel_val {s n : Int} (hs : 2 ≤ s) : valL (-s) (bel s n) = n := by
  rw [valL_vl, bel, List.reverse_reverse, lowb_val hs]
theorem bel_of {s : Int} {w : List Int} (hs : 2 ≤ s) (h : wOk s w) : w = bel s (valL (-s) w) := by
  rw [wOk_iff] at h
  rw [valL_vl, bel, ← lowb_of hs h.1 h.2, List.reverse_reverse]
/-- sums with carries -/
def ngc (s : Int) : Int → List Int → List Int → List Int
  | c, [], [] => if c = 0 then [] else if c = 1 then [0] else [1, 0]
  | c, x :: xs, [] => -((c + x + 0) / s) :: ngc s (-((c + x + 0) / s)) xs []
  | c, [], y :: ys => -((c + 0 + y) / s) :: ngc s (-((c + 0 + y) / s)) [] ys
  | c, x :: xs, y :: ys => -((c + x + y) / s) :: ngc s (-((c + x + y) / s)) xs ys
termination_by _ xs ys => xs.length + ys.length
decreasing_by all_goals (simp only [List.length_cons, List.length_nil]; omega)
def ngd (s : Int) : Int → List Int → List Int → List Int
  | c, [], [] => if c = 0 then [] else if c = 1 then [1] else [s - 1, 1]
  | c, x :: xs, [] => (c + x + 0) % s :: ngd s (-((c + x + 0) / s)) xs []
  | c, [], y :: ys => (c + 0 + y) % s :: ngd s (-((c + 0 + y) / s)) [] ys
  | c, x :: xs, y :: ys => (c + x + y) % s :: ngd s (-((c + x + y) / s)) xs ys
termination_by _ xs ys => xs.length + ys.length
decreasing_by all_goals (simp only [List.length_cons, List.length_nil]; omega)
theorem ng_car {s w : Int} (hs : 2 ≤ s) (h1 : -1 ≤ w) (h2 : w ≤ 2 * s - 1) : -1 ≤ -(w / s) ∧ -(w / s) ≤ 1 ∧ 0 ≤ w % s ∧ w % s < s ∧ w % s + -s * -(w / s) = w := by
  have e1 := Int.emod_nonneg w (by omega : s ≠ 0)
  have e2 := Int.emod_lt_of_pos w (by omega : 0 < s)
  have e3 := Int.emod_add_mul_ediv w s
  have e4 : w / s < 2 := by
    apply Int.ediv_lt_of_lt_mul (by omega)
    omega
  have e5 : -1 ≤ w / s := by
    apply Int.le_ediv_of_mul_le (by omega)
    omega
  rw [Int.neg_mul_neg]
  omega
theorem ng_step (s c : Int) (xs ys : List Int) (k : Nat) (h : k < xs.length ∨ k < ys.length) :
    ngc s c (xs.drop k) (ys.drop k) = -((c + xs.getD k 0 + ys.getD k 0) / s) :: ngc s (-((c + xs.getD k 0 + ys.getD k 0) / s)) (xs.drop (k + 1)) (ys.drop (k + 1)) ∧
    ngd s c (xs.drop k) (ys.drop k) = (c + xs.getD k 0 + ys.getD k 0) % s :: ngd s (-((c + xs.getD k 0 + ys.getD k 0) / s)) (xs.drop (k + 1)) (ys.drop (k + 1)) := by
  by_cases h1 : k < xs.length
  · by_cases h2 : k < ys.length
    · rw [drop_getD xs k h1, drop_getD ys k h2, ngc, ngd]
      exact ⟨rfl, rfl⟩
    · rw [drop_getD xs k h1, List.drop_of_length_le (show ys.length ≤ k by omega), List.drop_of_length_le (show ys.length ≤ k + 1 by omega), show ys.getD k 0 = 0 by simp [h2], ngc, ngd]
      exact ⟨rfl, rfl⟩
  · have h2 : k < ys.length := by omega
    rw [drop_getD ys k h2, List.drop_of_length_le (show xs.length ≤ k by omega), List.drop_of_length_le (show xs.length ≤ k + 1 by omega), show xs.getD k 0 = 0 by simp [h1], ngc, ngd]
    exact ⟨rfl, rfl⟩
theorem ng_end {s c : Int} (hs : 2 ≤ s) (h : c = 1 ∨ c = -1) : ngc s c [] [] = -((c + 0 + 0) / s) :: ngc s (-((c + 0 + 0) / s)) [] [] ∧ ngd s c [] [] = (c + 0 + 0) % s :: ngd s (-((c + 0 + 0) / s)) [] [] := by
  rcases h with h | h
  · subst h
    have e1 : (1 + 0 + 0 : Int) / s = 0 := Int.ediv_eq_zero_of_lt (by omega) (by omega)
    have e2 : (1 + 0 + 0 : Int) % s = 1 := Int.emod_eq_of_lt (by omega) (by omega)
    rw [e1, e2]
    constructor <;> simp [ngc, ngd]
  · subst h
    have g := ng_car hs (w := -1) (by omega) (by omega)
    have e1 : (-1 + 0 + 0 : Int) / s = -1 := by
      show (-1 : Int) / s = -1
      by_cases h5 : (-1 : Int) / s = 0
      · rw [h5] at g; omega
      · by_cases h6 : (-1 : Int) / s = 1
        · have : -s * -(1 : Int) = s := by rw [Int.neg_mul_neg, Int.mul_one]
          rw [h6] at g
          omega
        · omega
    have e2 : (-1 + 0 + 0 : Int) % s = s - 1 := by
      have e3 := Int.emod_add_mul_ediv (-1 + 0 + 0) s
      rw [e1] at e3
      omega
    rw [e1, e2]
    constructor <;> simp [ngc, ngd]
theorem ng_ok {s : Int} (hs : 2 ≤ s) : ∀ (c : Int) (xs ys : List Int), -1 ≤ c ∧ c ≤ 1 → okD1 0 s xs → okD1 0 s ys → okD1 0 s (ngd s c xs ys) ∧ vl (-s) (ngd s c xs ys) = c + vl (-s) xs + vl (-s) ys
  | c, [], [], hc, _, _ => by
    rw [ngd]
    split
    · exact ⟨fun d hd => (by simp at hd), by show (0 : Int) = c + 0 + 0; omega⟩
    · split
      · exact ⟨fun d hd => (by have := List.mem_singleton.mp hd; omega), by show 1 + -s * 0 = c + 0 + 0; rw [Int.mul_zero]; omega⟩
      · refine ⟨fun d hd => ?_, ?_⟩
        · rcases List.mem_cons.mp hd with q | q
          · omega
          · have := List.mem_singleton.mp q; omega
        · show s - 1 + -s * (1 + -s * 0) = c + 0 + 0
          rw [Int.mul_zero, Int.add_zero, Int.mul_one]
          omega
  | c, x :: xs, [], hc, hx, hy => by
    have h1 := hx x (by simp)
    have g := ng_car hs (w := c + x + 0) (by omega) (by omega)
    obtain ⟨i1, i2⟩ := ng_ok hs (-((c + x + 0) / s)) xs [] ⟨g.1, g.2.1⟩ (fun d q => hx d (by simp [q])) hy
    rw [ngd]
    refine ⟨fun d q => ?_, ?_⟩
    · rcases List.mem_cons.mp q with q | q
      · rw [q]; omega
      · exact i1 d q
    · show (c + x + 0) % s + -s * vl (-s) _ = c + (x + -s * vl (-s) xs) + 0
      rw [i2, Int.mul_add, Int.mul_add]
      show _ + (_ + _ + -s * 0) = _
      rw [Int.mul_zero]
      omega
  | c, [], y :: ys, hc, hx, hy => by
    have h1 := hy y (by simp)
    have g := ng_car hs (w := c + 0 + y) (by omega) (by omega)
    obtain ⟨i1, i2⟩ := ng_ok hs (-((c + 0 + y) / s)) [] ys ⟨g.1, g.2.1⟩ hx (fun d q => hy d (by simp [q]))
    rw [ngd]
    refine ⟨fun d q => ?_, ?_⟩
    · rcases List.mem_cons.mp q with q | q
      · rw [q]; omega
      · exact i1 d q
    · show (c + 0 + y) % s + -s * vl (-s) _ = c + 0 + (y + -s * vl (-s) ys)
      rw [i2, Int.mul_add, Int.mul_add]
      show _ + (_ + -s * 0 + _) = _
      rw [Int.mul_zero]
      omega
  | c, x :: xs, y :: ys, hc, hx, hy => by
    have h1 := hx x (by simp)
    have h2 := hy y (by simp)
    have g := ng_car hs (w := c + x + y) (by omega) (by omega)
    obtain ⟨i1, i2⟩ := ng_ok hs (-((c + x + y) / s)) xs ys ⟨g.1, g.2.1⟩ (fun d q => hx d (by simp [q])) (fun d q => hy d (by simp [q]))
    rw [ngd]
    refine ⟨fun d q => ?_, ?_⟩
    · rcases List.mem_cons.mp q with q | q
      · rw [q]; omega
      · exact i1 d q
    · show (c + x + y) % s + -s * vl (-s) _ = c + (x + -s * vl (-s) xs) + (y + -s * vl (-s) ys)
      rw [i2, Int.mul_add, Int.mul_add]
      omega
termination_by _ xs ys => xs.length + ys.length
decreasing_by all_goals (simp only [List.length_cons, List.length_nil]; omega)
theorem trim_bel {s : Int} (hs : 2 ≤ s) {l : List Int} (h : okD1 0 s l) : trim l = lowb s (vl (-s) l) := by
  rw [← trim_vl (-s) l]
  exact lowb_of hs (fun d hd => h d (trim_mem hd)) (trim_top l)
end Fl

end

/-! k00: what each def promises: signed words -/
namespace Fl
open PySem PySem.Spec PyProof.Rows L2
def sp_below_base : PSp := fun args M Q => match args with
  | [.int b] => (-1000 ≤ b ∧ b ≤ -2) ∧ Q (.int b) M
  | _ => False
def sp_are_below : PSp := fun args M Q => match args with
  | [.int b, w] => ∃ l, isW w l ∧ l.length ≤ sizeLine ∧ Q (.bl (areD (-b) l)) M
  | _ => False
def sp_below_added : PSp := fun args M Q => match args with
  | [.int b, w1, w2] => ∃ l1 l2, isW w1 l1 ∧ isW w2 l2 ∧ (l1.length ≤ 2000 ∧ l2.length ≤ 2000 ∧ -1000 ≤ b ∧ b ≤ -2 ∧ wOk (-b) l1 ∧ wOk (-b) l2) ∧
      Q (.tup [.str "sum", pInts l1, pInts l2, pInts (0 :: ngc (-b) 0 l1.reverse l2.reverse), pInts (bel (-b) (valL b l1 + valL b l2))]) M
  | _ => False
def sp_balanced_base : PSp := fun args M Q => match args with
  | [.int b] => (3 ≤ b ∧ b ≤ 999 ∧ b % 2 ≠ 0) ∧ Q (.int b) M
  | _ => False
def areB (b : Int) (l : List Int) : Bool := !(l.any fun d => decide (b / 2 < if d < 0 then -d else d)) && (l.isEmpty || !decide (l.headD 0 = 0))
def sp_are_balanced : PSp := fun args M Q => match args with
  | [.int b, w] => ∃ l, isW w l ∧ (l.length ≤ sizeLine ∧ 3 ≤ b ∧ b ≤ 999 ∧ b % 2 ≠ 0) ∧ Q (.bl (areB b l)) M
  | _ => False
def sp_turned : PSp := fun args M Q => match args with
  | [w] => ∃ l, isW w l ∧ l.length ≤ sizeLine ∧ Q (pInts (l.map fun d => -d)) M
  | _ => False
def sp_rounded : PSp := fun args M Q => match args with
  | [w, .int p] => ∃ l, isW w l ∧ (0 ≤ p ∧ p ≤ l.length) ∧ Q (pInts (l.take (l.length - p.toNat))) M
  | _ => False
def apart : List Int → Bool
  | a :: b :: r => !(!decide (a = 0) && !decide (b = 0)) && apart (b :: r)
  | _ => true
def sp_are_apart : PSp := fun args M Q => match args with
  | [w] => ∃ l, isW w l ∧ (l.length ≤ 2000 ∧ ∀ d ∈ l, -1 ≤ d ∧ d ≤ 1) ∧ Q (.bl ((l.isEmpty || !decide (l.headD 0 = 0)) && apart l)) M
  | _ => False
def sp_weight : PSp := fun args M Q => match args with
  | [w] => ∃ l, isW w l ∧ l.length ≤ sizeLine ∧ Q (.int (l.countP fun d => !decide (d = 0) : Nat)) M
  | _ => False
end Fl

namespace Fl
open PySem PySem.Spec PyProof.Rows L2
/-- below_added: slots 0 base, 1 one, 2 other, 3 first, 4 second, 5 carries, 6 found, 7 at, 8 whole, 9 digit -/
def w_below_added_1_5 : FS := (sSet 7 (e2 addP (eV 7) (eC (.int 1))))
def w_below_added_1_4 : FS := (sSeq (sApp 5 (e2 divN (e2 subA (eV 8) (eV 9)) (eV 0))) w_below_added_1_5)
def w_below_added_1_3 : FS := (sSeq (sApp 6 (eV 9)) w_below_added_1_4)
def w_below_added_1_2 : FS := (sSeq (sSet 9 (e2 modP (eV 8) (e1 negP (eV 0)))) w_below_added_1_3)
def w_below_added_1_1 : FS := (sSeq (sSet 8 (e2 addP (e2 addP (eV 8) (eIf (cB ltA (eV 7) (eN lenP (aCons (eV 3) aNil))) (e2 ixP (eV 3) (eV 7)) (eC (.int 0)))) (eIf (cB ltA (eV 7) (eN lenP (aCons (eV 4) aNil))) (e2 ixP (eV 4) (eV 7)) (eC (.int 0))))) w_below_added_1_2)
def c_below_added_1 : FT := (tOr2 (cB ltA (eV 7) (eN maxP (aCons (eN lenP (aCons (eV 3) aNil)) (aCons (eN lenP (aCons (eV 4) aNil)) aNil)))) (cB neA (e2 ixP (eV 5) (e1 negP (eC (.int 1)))) (eC (.int 0))))
def w_below_added_1 : FS := (sSeq (sSet 8 (e2 ixP (eV 5) (e1 negP (eC (.int 1))))) w_below_added_1_1)
def c_below_added_2 : FT := (tAnd2 (tTru (eV 6)) (cB eqA (e2 ixP (eV 6) (e1 negP (eC (.int 1)))) (eC (.int 0))))
def w_below_added_2 : FS := (sPop 6)
def t_below_added_9 : FS := (sRet (eTup (aCons (eC (.str "sum")) (aCons (eV 1) (aCons (eV 2) (aCons (eN tupP (aCons (eV 5) aNil)) (aCons (e1 tRevP (eV 6)) aNil)))))))
def t_below_added_8 : FS := (sSeq (sWhile c_below_added_2 w_below_added_2) t_below_added_9)
def t_below_added_7 : FS := (sSeq (sWhile c_below_added_1 w_below_added_1) t_below_added_8)
def t_below_added_6 : FS := (sSeq (sSet 7 (eC (.int 0))) t_below_added_7)
def t_below_added_5 : FS := (sSeq (sBld 6 (fLst aNil)) t_below_added_6)
def t_below_added_4 : FS := (sSeq (sBld 5 (fLst (aCons (eC (.int 0)) aNil))) t_below_added_5)
def t_below_added_3 : FS := (sSeq (sPar 3 4 (aCons (eF (fLstRev (eV 1))) (aCons (eF (fLstRev (eV 2))) aNil))) t_below_added_4)
def t_below_added_2 : FS := (sSeq (sIf (tOr2 (tNot1 (tTru (eCall sp_are_below (aCons (eV 0) (aCons (eV 1) aNil))))) (tNot1 (tTru (eCall sp_are_below (aCons (eV 0) (aCons (eV 2) aNil)))))) sNever sNil) t_below_added_3)
def t_below_added_1 : FS := (sSeq (sPar 1 2 (aCons (eN tupP (aCons (eV 1) aNil)) (aCons (eN tupP (aCons (eV 2) aNil)) aNil))) t_below_added_2)
def b_below_added : FS := (sSeq (sEx (eCall sp_below_base (aCons (eV 0) aNil))) t_below_added_1)
/-- are_balanced: slots 0 base, 1 word, 2 half, 3 digit -/
def t_are_balanced_1 : FS := (sRet (eAnd (eNot (eN anyP (aCons (eF (fLc (iSeq (eV 1)) (gN 3) tYs (e2 gtA (eN absP (aCons (eV 3) aNil)) (eV 2)) [3])) aNil))) (eOr (eNot (eV 1)) (e2 neA (e2 ixP (eV 1) (eC (.int 0))) (eC (.int 0))))))
def b_are_balanced : FS := (sSeq (sSet 2 (e2 divP (eCall sp_balanced_base (aCons (eV 0) aNil)) (eC (.int 2)))) t_are_balanced_1)

end Fl

section
set_option exponentiation.threshold 2000
namespace Fl
open PySem PySem.Spec PyProof.Rows L2
theorem l_below_base : ∀ args M Q, sp_below_base args M Q → args.length = 1 ∧ b_below_base (fE Q) (fr0 0 args) M := fun args M Q h => by
  match args, h with
  | [.int n], ⟨⟨h1, h2⟩, hq⟩ =>
    refine ⟨rfl, fun _ => ⟨fun h => ?_, fun _ => hq⟩, fun h => ?_⟩
    · have h : ¬ (n ≤ -2) := of_decide_eq_false (nT h)
      omega
    · have h : ¬ (-1000 ≤ n) := of_decide_eq_false h
      omega
/-- the two halves of `not any(..) and (not word or word[0] != 0)` -/
theorem any_map_id {l : List Int} {f : Int → Bool} : (l.map f).any id = l.any f := by
  rw [List.any_map]
  rfl
theorem l_are_below : ∀ args M Q, sp_are_below args M Q → args.length = 2 ∧ b_are_below (fE Q) (fr0 1 args) M := fun args M Q h => by
  match args, h with
  | [.int b, w], ⟨l, hw, hl, hq⟩ =>
    refine ⟨rfl, ?_⟩
    rcases hw with rfl | rfl
    all_goals
      refine ⟨by rw [List.length_map]; exact hl, lcP_all (fun d : Int => .bl (!(decide (0 ≤ d) && decide (d < -b)))) (fun d hd K1 K0 k => ?_) ?_⟩
      · refine ⟨fun _ => ⟨fun h => ⟨trivial, ?_⟩, fun h => ⟨trivial, ?_⟩⟩, fun h => nomatch h⟩
        · rw [show decide (0 ≤ d) = true from h] at k
          exact k
        · rw [show decide (0 ≤ d) = false from h] at k
          exact k
      · refine ⟨l.map fun d => !(decide (0 ≤ d) && decide (d < -b)), by rw [List.map_map]; rfl, trivial, trivial, fun h => ?_, fun h => ?_⟩
        · have e : (l.any fun d => !(decide (0 ≤ d) && decide (d < -b))) = false := by
            have h : ((l.map fun d => !(decide (0 ≤ d) && decide (d < -b))).any id) = false := nT h
            rw [any_map_id] at h
            exact h
          cases l with
          | nil => exact ⟨trivial, trivial, fun _ => hq, fun h => nomatch h⟩
          | cons d r =>
            refine ⟨trivial, trivial, fun h => (nomatch h), fun _ => ⟨.int d, atI_nat (j := 0) rfl, ?_⟩⟩
            unfold areD at hq
            rw [e] at hq
            exact hq
        · have e : (l.any fun d => !(decide (0 ≤ d) && decide (d < -b))) = true := by
            have h : ((l.map fun d => !(decide (0 ≤ d) && decide (d < -b))).any id) = true := nF h
            rw [any_map_id] at h
            exact h
          unfold areD at hq
          rw [e] at hq
          show Q (.bl (!((l.map fun d => !(decide (0 ≤ d) && decide (d < -b))).any id))) M
          rw [any_map_id, e]
          exact hq
theorem l_balanced_base : ∀ args M Q, sp_balanced_base args M Q → args.length = 1 ∧ b_balanced_base (fE Q) (fr0 0 args) M := fun args M Q h => by
  match args, h with
  | [.int n], ⟨⟨h1, h2, h3⟩, hq⟩ =>
    refine ⟨rfl, fun _ => ⟨fun h => ?_, fun _ => ⟨by omega, fun h => ?_, fun _ => hq⟩⟩, fun h => ?_⟩
    · have h : ¬ (n ≤ 999) := of_decide_eq_false (nT h)
      omega
    · exact absurd (eqD h) h3
    · have h : ¬ (3 ≤ n) := of_decide_eq_false h
      omega
theorem l_are_balanced : ∀ args M Q, sp_are_balanced args M Q → args.length = 2 ∧ b_are_balanced (fE Q) (fr0 2 args) M := fun args M Q h => by
  match args, h with
  | [.int b, w], ⟨l, hw, ⟨hl, g1, g2, g3⟩, hq⟩ =>
    refine ⟨rfl, ⟨g1, g2, g3⟩, dv (by omega) (by omega), ?_⟩
    rcases hw with rfl | rfl
    all_goals
      refine ⟨by rw [List.length_map]; exact hl, lcP_all (fun d : Int => .bl (decide (b / 2 < if d < 0 then -d else d))) (fun d hd K1 K0 k => ⟨fun _ => k, fun h => nomatch h⟩) ?_⟩
      refine ⟨l.map fun d => decide (b / 2 < if d < 0 then -d else d), by rw [List.map_map]; rfl, trivial, trivial, fun h => ?_, fun h => ?_⟩
      · have e : (l.any fun d => decide (b / 2 < if d < 0 then -d else d)) = false := by
          have h : ((l.map fun d => decide (b / 2 < if d < 0 then -d else d)).any id) = false := nT h
          rw [any_map_id] at h
          exact h
        cases l with
        | nil => exact ⟨trivial, trivial, fun _ => hq, fun h => nomatch h⟩
        | cons d r =>
          refine ⟨trivial, trivial, fun h => (nomatch h), fun _ => ⟨.int d, atI_nat (j := 0) rfl, ?_⟩⟩
          unfold areB at hq
          rw [e] at hq
          exact hq
      · have e : (l.any fun d => decide (b / 2 < if d < 0 then -d else d)) = true := by
          have h : ((l.map fun d => decide (b / 2 < if d < 0 then -d else d)).any id) = true := nF h
          rw [any_map_id] at h
          exact h
        unfold areB at hq
        rw [e] at hq
        show Q (.bl (!((l.map fun d => decide (b / 2 < if d < 0 then -d else d)).any id))) M
        rw [any_map_id, e]
        exact hq
theorem l_turned : ∀ args M Q, sp_turned args M Q → args.length = 1 ∧ b_turned (fE Q) (fr0 1 args) M := fun args M Q h => by
  match args, h with
  | [w], ⟨l, hw, hl, hq⟩ =>
    refine ⟨rfl, ?_⟩
    unfold pInts at hq
    rw [List.map_map] at hq
    rcases hw with rfl | rfl
    all_goals
      exact ⟨by rw [List.length_map]; exact hl, lcP_all (fun d : Int => .int (-d)) (fun d hd K1 K0 k => ⟨fun _ => k, fun h => nomatch h⟩) hq⟩
theorem cutTo (l : List Int) (k : Nat) (h : k ≤ l.length) : cut (l.map PV.int) none (some (k : Int)) = (l.take k).map PV.int := by
  unfold cut
  rw [HT.sIx_nat, HT.sIx_none, List.length_map, show min k l.length = k by omega, List.drop_zero, Nat.sub_zero, List.map_take]
theorem l_rounded : ∀ args M Q, sp_rounded args M Q → args.length = 2 ∧ b_rounded (fE Q) (fr0 0 args) M := fun args M Q h => by
  match args, h with
  | [w, .int p], ⟨l, hw, ⟨g1, g2⟩, hq⟩ =>
    have e : (((l.map PV.int).length : Nat) : Int) - p = ((l.length - p.toNat : Nat) : Int) := by rw [List.length_map]; omega
    unfold pInts at hq
    rw [← cutTo l _ (by omega), ← e] at hq
    refine ⟨rfl, ?_⟩
    rcases hw with rfl | rfl
    all_goals
      refine ⟨fun _ => ⟨fun h => ?_, fun _ => hq⟩, fun h => ?_⟩
      · have h : ¬ (p ≤ (((l.map PV.int).length : Nat) : Int)) := of_decide_eq_false (nT h)
        rw [List.length_map] at h
        omega
      · have h : ¬ (0 ≤ p) := of_decide_eq_false h
        omega
theorem cnt_fm : ∀ l : List Int, (l.filterMap fun d : Int => if (!decide (d = 0)) = true then some (PV.int d) else none).length = l.countP fun d => !decide (d = 0)
  | [] => rfl
  | d :: r => by
    rw [List.filterMap_cons, List.countP_cons, ← cnt_fm r]
    by_cases h : d = 0
    · simp [h]
    · simp [h]
theorem l_weight : ∀ args M Q, sp_weight args M Q → args.length = 1 ∧ b_weight (fE Q) (fr0 1 args) M := fun args M Q h => by
  match args, h with
  | [w], ⟨l, hw, hl, hq⟩ =>
    refine ⟨rfl, ?_⟩
    rcases hw with rfl | rfl
    all_goals
      refine ⟨by rw [List.length_map]; exact hl, lcP_run (fun d : Int => if (!decide (d = 0)) = true then some (.int d) else none) l [] (fun d hd K1 K0 k1 k0 => ⟨fun h => k1 _ (if_pos h), fun h => k0 (if_neg (by rw [h]; exact Bool.false_ne_true))⟩) ?_⟩
      rw [List.nil_append]
      rw [← cnt_fm] at hq
      exact hq
def prs : List Int → List (Int × Int)
  | a :: b :: r => (a, b) :: prs (b :: r)
  | _ => []
theorem zip_prs : ∀ l : List Int, zipV (l.map .int) (l.tail.map .int) = (prs l).map fun p => PV.tup [.int p.1, .int p.2]
  | [] => rfl
  | [a] => rfl
  | a :: b :: r => by
    show PV.tup [.int a, .int b] :: zipV ((b :: r).map .int) (r.map .int) = _
    rw [show zipV ((b :: r).map PV.int) (r.map .int) = _ from zip_prs (b :: r)]
    rfl
theorem apart_prs : ∀ l : List Int, apart l = !((prs l).any fun p => !decide (p.1 = 0) && !decide (p.2 = 0))
  | [] => rfl
  | [a] => rfl
  | a :: b :: r => by
    rw [apart, apart_prs (b :: r), prs, List.any_cons, Bool.not_or]
theorem cutTail (l : List Int) : cut (l.map PV.int) (some (1 : Int)) none = l.tail.map PV.int := by
  cases l with
  | nil => rfl
  | cons d r => exact cut1 r d
theorem l_are_apart : ∀ args M Q, sp_are_apart args M Q → args.length = 1 ∧ b_are_apart (fE Q) (fr0 3 args) M := fun args M Q h => by
  match args, h with
  | [w], ⟨l, hw, ⟨hl, hd⟩, hq⟩ =>
    have hz := line1
    have tail : ∀ w, (w = .tup (l.map .int) ∨ w = .lst (l.map .int)) → Q (.bl (apart l)) M → t_are_apart_1 (fE Q) [some (.v w), none, none, none] M := fun w hw hq => by
      have fin : ∀ (k : List PV → Sto → Prop), (∀ xs, xs = (prs l).map (fun p => PV.bl (!decide (p.1 = 0) && !decide (p.2 = 0))) → k xs M) →
          (zipV (l.map .int) (cut (l.map PV.int) (some (1 : Int)) none)).length ≤ sizeLine ∧ lcP (gS 2 (gsCons (gN 2) (gsCons (gN 3) gsNil))) tYs (eAnd (e2 neA (eV 2) (eC (.int 0))) (e2 neA (eV 3) (eC (.int 0)))) [some (.v w), none, none, none] (zipV (l.map .int) (cut (l.map PV.int) (some (1 : Int)) none)) [] M k := fun k hk => by
        rw [cutTail, zip_prs]
        have hp : (prs l).length ≤ l.length := by
          have := congrArg List.length (zip_prs l)
          rw [zipV_length, List.length_map, List.length_map, List.length_map] at this
          omega
        refine ⟨by rw [List.length_map]; omega, lcP_all (fun p : Int × Int => .bl (!decide (p.1 = 0) && !decide (p.2 = 0))) (fun p hp K1 K0 kk => ⟨rfl, fun _ => ⟨trivial, fun h => ?_, fun h => ?_⟩, fun h => nomatch h⟩) (hk _ rfl)⟩
        · have h : (!decide (p.1 = 0)) = true := h
          rw [h] at kk
          exact kk
        · have h : (!decide (p.1 = 0)) = false := h
          rw [h] at kk
          show K1 (.bl (!decide (p.1 = 0))) M
          rw [h]
          exact kk
      have last : ∀ xs, xs = (prs l).map (fun p => PV.bl (!decide (p.1 = 0) && !decide (p.2 = 0))) → ∃ bs : List Bool, xs = bs.map PV.bl ∧ Q (.bl (!(bs.any id))) M := fun xs e => by
        refine ⟨(prs l).map fun p => !decide (p.1 = 0) && !decide (p.2 = 0), by rw [e, List.map_map]; rfl, ?_⟩
        rw [apart_prs] at hq
        rw [List.any_map]
        exact hq
      rcases hw with rfl | rfl
      all_goals
        refine fin _ fun xs e => ?_
        obtain ⟨bs, e1, q⟩ := last xs e
        exact ⟨bs, e1, trivial, q⟩
    refine ⟨rfl, ?_⟩
    rcases hw with rfl | rfl
    all_goals
      refine ⟨by rw [List.length_map]; omega, lcP_all (fun _ : Int => .bl false) (fun d hdm K1 K0 kk => ⟨fun _ => ⟨⟨rfl, rfl⟩, ?_⟩, fun h => nomatch h⟩) ?_⟩
      · have := hd d hdm
        have h3 : d = -1 ∨ d = 0 ∨ d = 1 := by omega
        rcases h3 with e | e | e
        all_goals
          subst e
          exact kk
      · have ef : ∀ m : List Int, (m.map fun _ => false).any id = false := fun m => by
          induction m with
          | nil => rfl
          | cons a m ih => rw [List.map_cons, List.any_cons, ih]; rfl
        refine ⟨l.map fun _ => false, by rw [List.map_map]; rfl, trivial, fun h => ?_, fun _ => ⟨trivial, fun h => ?_, fun h => ⟨fun h => (nomatch h), fun _ => ?_⟩⟩⟩
        · have h : (l.map fun _ => false).any id = true := h
          rw [ef l] at h
          cases h
        · cases l with
          | nil => cases (show false = true from h)
          | cons d r =>
            refine ⟨.int d, atI_nat (j := 0) rfl, fun h => ?_, fun h => ?_⟩
            · have h := eqD h
              rw [show ((d :: r).isEmpty || !decide ((d :: r).headD 0 = 0)) = false by simp [h]] at hq
              exact hq
            · have h := eqN h
              rw [show ((d :: r).isEmpty || !decide ((d :: r).headD 0 = 0)) = true by simp [h]] at hq
              first | exact tail _ (.inl rfl) hq | exact tail _ (.inr rfl) hq
        · cases l with
          | nil => first | exact tail _ (.inl rfl) hq | exact tail _ (.inr rfl) hq
          | cons d r => cases (show true = false from h)
end Fl

end

section
set_option exponentiation.threshold 2000
namespace Fl
open PySem PySem.Spec PyProof.Rows L2
theorem fdiv_exact {b w : Int} (hb : b ≠ 0) : (w - w % -b).fdiv b = -(w / -b) := by
  have e3 := Int.emod_add_mul_ediv w (-b)
  have : w - w % -b = b * -(w / -b) := by
    rw [Int.mul_neg]
    rw [Int.neg_mul] at e3
    omega
  rw [this, Int.mul_fdiv_cancel_left _ hb]
theorem ba_loop {b : Int} {D : FEnds} {M : Sto} {x1 x2 : Option EV} {xs ys : List Int} {N : Nat} (hN : max xs.length ys.length = N) (hb : -1000 ≤ b ∧ b ≤ -2) (hx : okD1 0 (-b) xs) (hy : okD1 0 (-b) ys) : ∀ (k : Nat) (c : Int) (at' : Nat) (ca fd : List Int) (x8 x9 : Option EV), (N - at') + (if at' < N then 3 else if c = 0 then 1 else if c = 1 then 2 else 3) ≤ k → -1 ≤ c ∧ c ≤ 1 → fd.length + k ≤ sizeLine → ca.length + 1 + k ≤ sizeLine →
    (∀ x7 x8 x9, D.nx [some (.v (.int b)), x1, x2, some (.v (.lst (xs.map .int))), some (.v (.lst (ys.map .int))), some (.b ((ca ++ c :: ngc (-b) c (xs.drop at') (ys.drop at')).map .int)), some (.b ((fd ++ ngd (-b) c (xs.drop at') (ys.drop at')).map .int)), x7, x8, x9] M) →
    whP c_below_added_1 w_below_added_1 D k [some (.v (.int b)), x1, x2, some (.v (.lst (xs.map .int))), some (.v (.lst (ys.map .int))), some (.b ((ca ++ [c]).map .int)), some (.b (fd.map .int)), some (.v (.int (at' : Int))), x8, x9] M
  | 0, c, at', ca, fd, x8, x9, hk, hc, hl, hl2, q => by
    exfalso
    split at hk
    · omega
    · split at hk
      · omega
      · split at hk <;> omega
  | k + 1, c, at', ca, fd, x8, x9, hk, hc, hl, hl2, q => by
    have em : (if ((ys.map PV.int).length : Int) > ((xs.map PV.int).length : Int) then ((ys.map PV.int).length : Int) else ((xs.map PV.int).length : Int)) = (N : Int) := by rw [iteN, List.length_map, List.length_map, hN]
    have gx := getD_le (s := 0) (lo := 0) (hi := -b - 1) ⟨Int.le_refl _, by omega⟩ (fun d hd => ⟨by have := hx d hd; omega, by have := hx d hd; omega⟩) at'
    have gy := getD_le (s := 0) (lo := 0) (hi := -b - 1) ⟨Int.le_refl _, by omega⟩ (fun d hd => ⟨by have := hy d hd; omega, by have := hy d hd; omega⟩) at'
    generalize hX : xs.getD at' 0 = X at *
    generalize hY : ys.getD at' 0 = Y at *
    have g := ng_car (s := -b) (w := c + X + Y) (by omega) (by omega) (by omega)
    have body : ngc (-b) c (xs.drop at') (ys.drop at') = -((c + X + Y) / -b) :: ngc (-b) (-((c + X + Y) / -b)) (xs.drop (at' + 1)) (ys.drop (at' + 1)) ∧ ngd (-b) c (xs.drop at') (ys.drop at') = (c + X + Y) % -b :: ngd (-b) (-((c + X + Y) / -b)) (xs.drop (at' + 1)) (ys.drop (at' + 1)) →
        (N - (at' + 1)) + (if at' + 1 < N then 3 else if -((c + X + Y) / -b) = 0 then 1 else if -((c + X + Y) / -b) = 1 then 2 else 3) ≤ k →
        w_below_added_1 { D with nx := whP c_below_added_1 w_below_added_1 D k, ct := whP c_below_added_1 w_below_added_1 D k, bk := D.nx } [some (.v (.int b)), x1, x2, some (.v (.lst (xs.map .int))), some (.v (.lst (ys.map .int))), some (.b ((ca ++ [c]).map .int)), some (.b (fd.map .int)), some (.v (.int (at' : Int))), x8, x9] M := fun hstep hfuel => by
      have ih := ba_loop hN hb hx hy k (-((c + X + Y) / -b)) (at' + 1) (ca ++ [c]) (fd ++ [(c + X + Y) % -b]) (some (.v (.int (c + X + Y)))) (some (.v (.int ((c + X + Y) % -b)))) hfuel ⟨g.1, g.2.1⟩ (by rw [List.length_append, List.length_singleton]; omega) (by rw [List.length_append, List.length_singleton]; omega) fun x7 x8 x9 => by
        have q := q x7 x8 x9
        rw [hstep.1, hstep.2] at q
        rw [List.append_assoc, List.append_assoc]
        exact q
      rw [← fdiv_exact (by omega : b ≠ 0), mapI (ca ++ [c]), mapI fd] at ih
      have leaf : w_below_added_1_2 { D with nx := whP c_below_added_1 w_below_added_1 D k, ct := whP c_below_added_1 w_below_added_1 D k, bk := D.nx } [some (.v (.int b)), x1, x2, some (.v (.lst (xs.map .int))), some (.v (.lst (ys.map .int))), some (.b ((ca ++ [c]).map .int)), some (.b (fd.map .int)), some (.v (.int (at' : Int))), some (.v (.int (c + X + Y))), x9] M :=
        ⟨by omega, by rw [List.length_map]; omega, ⟨by omega, by omega⟩, by rw [List.length_map, List.length_append, List.length_singleton]; omega, ih⟩
      have leaf2 : ∀ W : Int, W = c + X + Y → w_below_added_1_2 { D with nx := whP c_below_added_1 w_below_added_1 D k, ct := whP c_below_added_1 w_below_added_1 D k, bk := D.nx } [some (.v (.int b)), x1, x2, some (.v (.lst (xs.map .int))), some (.v (.lst (ys.map .int))), some (.b ((ca ++ [c]).map .int)), some (.b (fd.map .int)), some (.v (.int (at' : Int))), some (.v (.int W)), x9] M := fun W e => e ▸ leaf
      refine ⟨.int c, atL ca c, fun h => ⟨.int X, by rw [← hX]; exact ltLen h, fun h => ⟨.int Y, by rw [← hY]; exact ltLen h, leaf⟩, fun h => leaf2 (c + X + 0) (by rw [← hY, geLen h])⟩, fun h => ⟨fun h2 => ⟨.int Y, by rw [← hY]; exact ltLen h2, leaf2 (c + 0 + Y) (by rw [← hX, geLen h])⟩, fun h2 => leaf2 (c + 0 + 0) (by rw [← hX, geLen h, ← hY, geLen h2])⟩⟩
    by_cases h : at' < N
    · have hstep := ng_step (-b) c xs ys at' (by omega)
      rw [hX, hY] at hstep
      rw [if_pos h] at hk
      have b1 := body hstep (by split <;> (try split) <;> (try split) <;> omega)
      refine ⟨fun _ => ⟨fun _ => b1, fun h => ?_⟩, fun h2 => ?_⟩
      · cases h
      · have h2 : ¬ ((at' : Int) < N) := by rw [← em]; exact of_decide_eq_false h2
        omega
    · rw [if_neg h] at hk
      have dx : xs.drop at' = [] := List.drop_of_length_le (by omega)
      have dy : ys.drop at' = [] := List.drop_of_length_le (by omega)
      have dx1 : xs.drop (at' + 1) = [] := List.drop_of_length_le (by omega)
      have dy1 : ys.drop (at' + 1) = [] := List.drop_of_length_le (by omega)
      have x0 : X = 0 := by rw [← hX]; simp [show ¬ at' < xs.length by omega]
      have y0 : Y = 0 := by rw [← hY]; simp [show ¬ at' < ys.length by omega]
      refine ⟨fun h2 => ?_, fun _ => ⟨.int c, atL ca c, fun h2 => ?_, fun h2 => ?_⟩⟩
      · have h2 : (at' : Int) < N := by rw [← em]; exact of_decide_eq_true h2
        omega
      · have h2 : c ≠ 0 := eqN (nT h2)
        rw [if_neg h2] at hk
        have he := ng_end (s := -b) (c := c) (by omega) (by omega)
        refine body (by rw [dx, dy, dx1, dy1, x0, y0]; exact he) ?_
        rw [x0, y0] at g ⊢
        rw [if_neg (by omega)]
        by_cases c1 : c = 1
        · have e0 : (c + 0 + 0) / -b = 0 := by rw [c1]; exact Int.ediv_eq_zero_of_lt (by omega) (by omega)
          rw [e0, if_pos (by omega)]
          rw [if_pos c1] at hk
          omega
        · have c2 : c = -1 := by omega
          rw [if_neg c1] at hk
          have e0 : (c + 0 + 0) / -b = -1 := by
            have g1 := g.2.2.2.2
            have g2 := g.2.2.1
            have g3 := g.2.2.2.1
            by_cases z0 : (c + 0 + 0) / -b = 0
            · rw [z0] at g1; omega
            · by_cases z1 : (c + 0 + 0) / -b = 1
              · rw [z1, Int.neg_neg, Int.mul_neg, Int.mul_one] at g1; omega
              · omega
          rw [e0, if_neg (by omega), if_pos (by omega)]
          omega
      · have c0 : c = 0 := eqD (nF h2)
        subst c0
        have q := q (some (.v (.int (at' : Int)))) x8 x9
        rw [dx, dy, ngc, ngd, if_pos rfl, if_pos rfl, List.append_nil] at q
        exact q
theorem ba_loop3 {D : FEnds} {M : Sto} {x0 x1 x2 x3 x4 x5 x7 x8 x9 : Option EV} : ∀ (k : Nat) (l : List Int), l.length ≤ k →
    D.nx [x0, x1, x2, x3, x4, x5, some (.b ((trim l).map .int)), x7, x8, x9] M →
    whP c_below_added_2 w_below_added_2 D (k + 1) [x0, x1, x2, x3, x4, x5, some (.b (l.map .int)), x7, x8, x9] M
  | k, l, hk, q => by
    rcases snoc_or l with e | ⟨i, d, e⟩
    · subst e
      refine ⟨trivial, fun h => ?_, fun _ => ⟨fun h => ?_, fun _ => q⟩⟩
      · cases (show false = true from h)
      · cases h
    · subst e
      refine ⟨trivial, fun _ => ⟨.int d, atL i d, fun h => ?_, fun h => ?_⟩, fun h => ?_⟩
      · have h := eqD h
        subst h
        rw [List.length_append, List.length_singleton] at hk
        match k, hk with
        | 0, hk => omega
        | k + 1, hk =>
          refine ⟨by rw [mapI]; simp, ?_⟩
          rw [mapI, List.dropLast_concat]
          rw [trim_snoc0] at q
          exact ba_loop3 k i (by omega) q
      · have h := eqN h
        rw [trim_snoc h] at q
        exact q
      · have h : (!((i ++ [d]).map PV.int).isEmpty) = false := h
        rw [mapI] at h
        simp at h
theorem l_below_added : ∀ args M Q, sp_below_added args M Q → args.length = 3 ∧ b_below_added (fE Q) (fr0 7 args) M := fun args M Q h => by
  match args, h with
  | [.int b, w1, w2], ⟨l1, l2, hw1, hw2, ⟨g1, g2, h1, h2, k1, k2⟩, hq⟩ =>
    have hz := line1
    have hx : okD1 0 (-b) l1.reverse := fun d hd => k1.1 d (List.mem_reverse.mp hd)
    have hy : okD1 0 (-b) l2.reverse := fun d hd => k2.1 d (List.mem_reverse.mp hd)
    have hb := ng_ok (s := -b) (by omega) 0 l1.reverse l2.reverse ⟨by omega, by omega⟩ hx hy
    have key := ba_loop (D := { fE Q with nx := t_below_added_8 (fE Q) }) (M := M) (x1 := some (.v (pInts l1))) (x2 := some (.v (pInts l2))) rfl ⟨h1, h2⟩ hx hy (max l1.reverse.length l2.reverse.length + 3) 0 0 [] [] none none (by split <;> (try split) <;> omega) ⟨by omega, by omega⟩ (by rw [List.length_nil, List.length_reverse, List.length_reverse]; omega) (by rw [List.length_nil, List.length_reverse, List.length_reverse]; omega) fun x7 x8 x9 => by
      rw [List.nil_append, List.nil_append, List.drop_zero, List.drop_zero]
      refine ⟨_, ba_loop3 _ _ (Nat.le_refl _) ?_⟩
      rw [trim_bel (by omega) hb.1, hb.2, Int.neg_neg, ← valL_vl, ← valL_vl, Int.zero_add]
      show Q (.tup [.str "sum", pInts l1, pInts l2, .tup ((0 :: ngc (-b) 0 l1.reverse l2.reverse).map .int), .tup ((lowb (-b) (valL b l1 + valL b l2)).map PV.int).reverse]) M
      rw [← List.map_reverse]
      exact hq
    rw [List.map_reverse, List.map_reverse] at key
    have mid : t_below_added_2 (fE Q) [some (.v (.int b)), some (.v (pInts l1)), some (.v (pInts l2)), none, none, none, none, none, none, none] M := by
      refine ⟨l1, .inl rfl, by omega, trivial, fun h => ?_, fun _ => ⟨l2, .inl rfl, by omega, trivial, fun h => ?_, fun _ => ⟨_, key⟩⟩⟩
      · have h := nT h
        rw [areD_iff.mpr k1] at h
        cases h
      · have h := nT h
        rw [areD_iff.mpr k2] at h
        cases h
    refine ⟨rfl, ⟨h1, h2⟩, ?_⟩
    rcases hw1 with rfl | rfl <;> rcases hw2 with rfl | rfl <;> exact mid
end Fl

end

/-! k00: what each def promises: the law's own -/
namespace Fl
open PySem PySem.Spec PyProof.Rows L2
def sp__law_pick : PSp := fun args M Q => match args with
  | [.cell a, .int m] => okS M a ∧ (0 < m ∧ m < 2 ^ 60) ∧ ∀ (r : Int) (M' : Sto), 0 ≤ r → r < m → okS M' a → Q (.int r) M'
  | _ => False
/-- what _law_same may be asked of: told and due one and the same -/
def sameOk : Nat → PV → Prop
  | 0, _ => False
  | n + 1, x => match x with
    | .non => True
    | .bl _ => True
    | .int _ => True
    | .str s => PyData.strOk s = true
    | .tup xs => xs.length ≤ 100000 ∧ ∀ x ∈ xs, sameOk n x
    | .lst xs => xs.length ≤ 100000 ∧ ∀ x ∈ xs, sameOk n x
    | _ => False
def spr__law_same (n : Nat) : PSp := fun args M Q => match args with
  | [x, y] => x = y ∧ sameOk n x ∧ Q (.bl true) M
  | _ => False
def sp__law_same : PSp := spr__law_same 6
def sp__law_all_same : PSp := fun args M Q => match args with
  | [.lst rows] => ∃ ps : List (PV × PV), rows = ps.map (fun p => .tup [p.1, p.2]) ∧ ps.length ≤ 100000 ∧ (∀ p ∈ ps, p.1 = p.2 ∧ sameOk 6 p.1) ∧ Q (.bl true) M
  | _ => False
def sp__law_great : PSp := fun args M Q => match args with
  | [.cell a] => okS M a ∧ ∀ (r : Int) (M' : Sto), 0 ≤ r → r < 2 ^ 200 → okS M' a → Q (.int r) M'
  | _ => False
def sp__law_power : PSp := fun args M Q => match args with
  | [.int b, .int e] => (0 ≤ b ∧ b ≤ 1000 ∧ 0 ≤ e ∧ e ≤ 5) ∧ Q (.int (b ^ e.toNat)) M
  | _ => False
def sp__law_digits : PSp := fun args M Q => match args with
  | [.int b, .int n] => (2 ≤ b ∧ b < 2 ^ 100 ∧ 0 ≤ n ∧ n < BB) ∧ Q (pInts (digs b n)) M
  | _ => False
def sp__law_sign : PSp := fun args M Q => match args with
  | [.int a, .int b] => Q (.int (sgn a b)) M
  | _ => False
def sp__law_scaled : PSp := fun args M Q => match args with
  | [.int b, w, .int f] => ∃ l, w = pInts l ∧ (2 ≤ b ∧ b ≤ 1000 ∧ l.length ≤ 2000 ∧ okD1 0 b l) ∧ Q (pInts (0 :: scr b f 0 l.reverse)) M
  | _ => False
def sp__law_carries : PSp := fun args M Q => match args with
  | [.int b, w1, w2] => ∃ l1 l2, w1 = pInts l1 ∧ w2 = pInts l2 ∧ (2 ≤ b ∧ b ≤ 1000 ∧ l1.length ≤ 2000 ∧ l2.length ≤ 2000 ∧ okD1 0 b l1 ∧ okD1 0 b l2) ∧ Q (pInts (carL b l1 l2)) M
  | _ => False
def sp__law_below : PSp := fun args M Q => match args with
  | [.int s, .int n] => (2 ≤ s ∧ s ≤ 1001 ∧ n.natAbs ≤ 2 ^ 1000) ∧ Q (pInts (bel s n)) M
  | _ => False
def sp__law_below_carries : PSp := fun args M Q => match args with
  | [.int s, w1, w2] => ∃ l1 l2, w1 = pInts l1 ∧ w2 = pInts l2 ∧ (2 ≤ s ∧ s ≤ 1001 ∧ l1.length ≤ 2000 ∧ l2.length ≤ 2000 ∧ okD1 0 s l1 ∧ okD1 0 s l2) ∧ Q (pInts (0 :: ngc s 0 l1.reverse l2.reverse)) M
  | _ => False
def sp__law_ones : PSp := fun args M Q => match args with
  | [.int b, .int n] => (2 ≤ b ∧ b ≤ 1000 ∧ 0 ≤ n ∧ n < BB) ∧ Q (pInts (ones b n)) M
  | _ => False
def sp__law_kept : PSp := fun args M Q => match args with
  | [.lst hands, .lst copies] => ∃ ls : List (List Int), hands = ls.map lInts ∧ copies = ls.map pInts ∧ ls.length ≤ 1000 ∧ (∀ l ∈ ls, l.length ≤ 100000) ∧ Q (.bl true) M
  | _ => False
def sp__law_plain_right : PSp := fun args M Q => match args with
  | [.cell a] => okS M a ∧ ∀ (M' : Sto), okS M' a → Q (.bl true) M'
  | _ => False
def sp__law_signed_right : PSp := sp__law_plain_right
def sp__law_ones_right : PSp := sp__law_plain_right
def sp__law_right : PSp := sp__law_plain_right
end Fl

namespace Fl
open PySem PySem.Spec PyProof.Rows L2
/-- _law_all_same: slots 0 rows, 1 k -/
def b__law_all_same : FS := (sRet (e2 eqA (eF (fLc (iR1 (aCons (eN lenP (aCons (eV 0) aNil)) aNil)) (gN 1) (tNot1 (tTru (eCall sp__law_same (aCons (e2 ixP (e2 ixP (eV 0) (eV 1)) (eC (.int 0))) (aCons (e2 ixP (e2 ixP (eV 0) (eV 1)) (eC (.int 1))) aNil))))) (eV 1) [1])) (eF (fLst aNil))))
/-- _law_great: slots 0 source, 1 way, 2 whole, 3 turn -/
def w__law_great_1 : FS := (sSet 2 (e2 addP (e2 mulA (eV 2) (eC (.int 100000007))) (eCall sp__law_pick (aCons (eV 0) (aCons (eC (.int 100000007)) aNil)))))
def t__law_great_5 : FS := (sRet (eV 2))
def t__law_great_4 : FS := (sSeq (sFor (iR1 (aCons (e2 addP (eC (.int 1)) (eCall sp__law_pick (aCons (eV 0) (aCons (eC (.int 6)) aNil)))) aNil)) (gN 3) w__law_great_1) t__law_great_5)
def t__law_great_3 : FS := (sSeq (sSet 2 (eC (.int 0))) t__law_great_4)
def t__law_great_2 : FS := (sSeq (sIf (cB eqA (eV 1) (eC (.int 1))) (sRet (eCall sp__law_pick (aCons (eV 0) (aCons (eC (.int 100000)) aNil)))) sNil) t__law_great_3)
def t__law_great_1 : FS := (sSeq (sIf (cB eqA (eV 1) (eC (.int 0))) (sRet (eCall sp__law_pick (aCons (eV 0) (aCons (eC (.int 30)) aNil)))) sNil) t__law_great_2)
def b__law_great : FS := (sSeq (sSet 1 (eCall sp__law_pick (aCons (eV 0) (aCons (eC (.int 4)) aNil)))) t__law_great_1)
/-- _law_kept: slots 0 hands, 1 copies, 2 k -/
def b__law_kept : FS := (sRet (e2 eqA (eF (fLc (iR1 (aCons (eN lenP (aCons (eV 0) aNil)) aNil)) (gN 2) (tNot1 (tTru (eCall sp__law_same (aCons (e2 ixP (eV 0) (eV 2)) (aCons (eF (fList (aCons (e2 ixP (eV 1) (eV 2)) aNil))) aNil))))) (eV 2) [2])) (eF (fLst aNil))))
/-- _law_plain_right: slots 0 source, 1 base, 2 second, 3 n, 4 m, 5 factor, 6 size, 7 own, 8 hands, 9 one, 10 other, 11 high, 12 low, 13 wide, 14 due, 15 rows, 16 word -/
def t__law_plain_right_11 : FS := (sRet (eAnd (eCall sp__law_all_same (aCons (eV 15) aNil)) (eCall sp__law_kept (aCons (eV 8) (aCons (eV 7) aNil)))))
def t__law_plain_right_10 : FS := (sSeq (sSet 15 (e2 addP (eV 15) (eF (fLst (aCons (eTup (aCons (e2 ixP (eCall sp_added_bases (aCons (eV 1) (aCons (eV 9) (aCons (eV 9) aNil)))) (eC (.int 4))) (aCons (eCall sp__law_digits (aCons (eV 1) (aCons (e2 mulA (eC (.int 2)) (eV 3)) aNil))) aNil))) (aCons (eTup (aCons (eCall sp_less (aCons (eV 1) (aCons (eV 9) (aCons (eV 9) aNil)))) (aCons (eTup aNil) aNil))) aNil)))))) t__law_plain_right_11)
def t__law_plain_right_9 : FS := (sSeq (sSet 15 (e2 addP (eV 15) (eF (fLst (aCons (eTup (aCons (eCall sp_in_other (aCons (eV 1) (aCons (eV 9) (aCons (eV 2) aNil)))) (aCons (eCall sp__law_digits (aCons (eV 2) (aCons (eV 3) aNil))) aNil))) (aCons (eTup (aCons (eCall sp_blocks (aCons (eV 1) (aCons (eV 9) (aCons (eV 6) aNil)))) (aCons (e2 ixP (eV 7) (eC (.int 4))) aNil))) (aCons (eTup (aCons (eCall sp_unblocked (aCons (eV 1) (aCons (eV 13) (aCons (eV 6) aNil)))) (aCons (e2 ixP (eV 7) (eC (.int 0))) aNil))) aNil))))))) t__law_plain_right_10)
def t__law_plain_right_8 : FS := (sSeq (sSet 15 (e2 addP (eV 15) (eF (fLst (aCons (eTup (aCons (eCall sp_scaled (aCons (eV 1) (aCons (eV 9) (aCons (eV 5) aNil)))) (aCons (eTup (aCons (eCall sp__law_scaled (aCons (eV 1) (aCons (e2 ixP (eV 7) (eC (.int 0))) (aCons (eV 5) aNil)))) (aCons (eCall sp__law_digits (aCons (eV 1) (aCons (e2 mulA (eV 3) (eV 5)) aNil))) aNil))) aNil))) aNil))))) t__law_plain_right_9)
def t__law_plain_right_7 : FS := (sSeq (sSet 15 (e2 addP (eV 15) (eF (fLst (aCons (eTup (aCons (eCall sp_added_bases (aCons (eV 1) (aCons (eV 9) (aCons (eV 10) aNil)))) (aCons (eV 14) aNil))) (aCons (eTup (aCons (eCall sp_less (aCons (eV 1) (aCons (eV 11) (aCons (eV 12) aNil)))) (aCons (eCall sp__law_digits (aCons (eV 1) (aCons (e2 subA (eN maxP (aCons (eV 3) (aCons (eV 4) aNil))) (eN minP (aCons (eV 3) (aCons (eV 4) aNil)))) aNil))) aNil))) (aCons (eTup (aCons (eCall sp_compared_bases (aCons (eV 9) (aCons (eV 10) aNil))) (aCons (eCall sp__law_sign (aCons (eV 3) (aCons (eV 4) aNil))) aNil))) aNil))))))) t__law_plain_right_8)
def t__law_plain_right_6 : FS := (sSeq (sSet 15 (eF (fLst (aCons (eTup (aCons (eCall sp_value_bases (aCons (eV 1) (aCons (eV 9) aNil))) (aCons (eV 3) aNil))) (aCons (eTup (aCons (eCall sp_are_digits_bases (aCons (eV 1) (aCons (eV 9) aNil))) (aCons (eC (.bl true)) aNil))) (aCons (eTup (aCons (eCall sp_are_digits_bases (aCons (eV 1) (aCons (e2 addP (eF (fLst (aCons (eC (.int 0)) aNil))) (eV 9)) aNil))) (aCons (eC (.bl false)) aNil))) (aCons (eTup (aCons (eCall sp_are_digits_bases (aCons (eV 1) (aCons (e2 addP (eF (fLst (aCons (eV 1) aNil))) (eV 9)) aNil))) (aCons (eC (.bl false)) aNil))) aNil))))))) t__law_plain_right_7)
def t__law_plain_right_5 : FS := (sSeq (sSet 14 (eTup (aCons (eC (.str "sum")) (aCons (e2 ixP (eV 7) (eC (.int 0))) (aCons (e2 ixP (eV 7) (eC (.int 1))) (aCons (eCall sp__law_carries (aCons (eV 1) (aCons (e2 ixP (eV 7) (eC (.int 0))) (aCons (e2 ixP (eV 7) (eC (.int 1))) aNil)))) (aCons (eCall sp__law_digits (aCons (eV 1) (aCons (e2 addP (eV 3) (eV 4)) aNil))) aNil))))))) t__law_plain_right_6)
def t__law_plain_right_4 : FS := (sSeq (sAsg (eV 8) (gS 5 (gsCons (gN 9) (gsCons (gN 10) (gsCons (gN 11) (gsCons (gN 12) (gsCons (gN 13) gsNil))))))) t__law_plain_right_5)
def t__law_plain_right_3 : FS := (sSeq (sSet 8 (eF (fLc (iSeq (eV 7)) (gN 16) tYs (eF (fList (aCons (eV 16) aNil))) [16]))) t__law_plain_right_4)
def t__law_plain_right_2 : FS := (sSeq (sSet 7 (eF (fLst (aCons (eCall sp__law_digits (aCons (eV 1) (aCons (eV 3) aNil))) (aCons (eCall sp__law_digits (aCons (eV 1) (aCons (eV 4) aNil))) (aCons (eCall sp__law_digits (aCons (eV 1) (aCons (eN maxP (aCons (eV 3) (aCons (eV 4) aNil))) aNil))) (aCons (eCall sp__law_digits (aCons (eV 1) (aCons (eN minP (aCons (eV 3) (aCons (eV 4) aNil))) aNil))) (aCons (eCall sp__law_digits (aCons (eCall sp__law_power (aCons (eV 1) (aCons (eV 6) aNil))) (aCons (eV 3) aNil))) aNil)))))))) t__law_plain_right_3)
def t__law_plain_right_1 : FS := (sSeq (sAsg (eTup (aCons (eCall sp__law_great (aCons (eV 0) aNil)) (aCons (eCall sp__law_great (aCons (eV 0) aNil)) (aCons (eCall sp__law_great (aCons (eV 0) aNil)) (aCons (e2 addP (eC (.int 1)) (eCall sp__law_pick (aCons (eV 0) (aCons (eC (.int 5)) aNil)))) aNil))))) (gS 4 (gsCons (gN 3) (gsCons (gN 4) (gsCons (gN 5) (gsCons (gN 6) gsNil)))))) t__law_plain_right_2)
def b__law_plain_right : FS := (sSeq (sPar 1 2 (aCons (e2 ixP (eF (fLst (aCons (eC (.int 2)) (aCons (eC (.int 10)) (aCons (e2 addP (eC (.int 2)) (eCall sp__law_pick (aCons (eV 0) (aCons (eC (.int 999)) aNil)))) aNil))))) (eCall sp__law_pick (aCons (eV 0) (aCons (eC (.int 3)) aNil)))) (aCons (e2 addP (eC (.int 2)) (eCall sp__law_pick (aCons (eV 0) (aCons (eC (.int 60)) aNil)))) aNil))) t__law_plain_right_1)
/-- _law_signed_right: slots 0 source, 1 size, 2 odd, 3 n, 4 m, 5 half, 6 word, 7 places, 8 light, 9 own, 10 hands, 11 one, 12 other, 13 middle, 14 bits, 15 due, 16 beside, 17 rows, 18 part, 19 k, 20 turn, 21 digit -/
def t__law_signed_right_15 : FS := (sRet (eAnd (eCall sp__law_all_same (aCons (eV 17) aNil)) (eCall sp__law_kept (aCons (eV 10) (aCons (eV 9) aNil)))))
def t__law_signed_right_14 : FS := (sSeq (sSet 17 (e2 addP (eV 17) (eF (fLst (aCons (eTup (aCons (eCall sp_weight (aCons (eV 13) aNil)) (aCons (e2 subA (eN lenP (aCons (eVr (eV 6)) aNil)) (e2c (eV 6) (eC (.int 0)))) aNil))) (aCons (eTup (aCons (eCall sp_are_apart (aCons (eV 14) aNil)) (aCons (eAnd (e2 eqA (eV 16) (eF (fLst aNil))) (eOr (e2 eqA (eV 8) (eTup aNil)) (e2 neA (e2 ixP (eV 8) (eC (.int 0))) (eC (.int 0))))) aNil))) aNil)))))) t__law_signed_right_15)
def t__law_signed_right_13 : FS := (sSeq (sSet 17 (e2 addP (eV 17) (eF (fLst (aCons (eTup (aCons (eCall sp_are_balanced (aCons (eV 2) (aCons (eV 13) aNil))) (aCons (eOr (e2 eqA (eVr (eV 6)) (eTup aNil)) (e2 neA (e2 ixP (eVr (eV 6)) (eC (.int 0))) (eC (.int 0)))) aNil))) (aCons (eTup (aCons (eCall sp_are_balanced (aCons (eV 2) (aCons (e2 addP (eF (fLst (aCons (e2 addP (eV 5) (eC (.int 1))) aNil))) (eV 13)) aNil))) (aCons (eC (.bl false)) aNil))) aNil)))))) t__law_signed_right_14)
def t__law_signed_right_12 : FS := (sSeq (sSet 17 (e2 addP (eV 17) (eF (fLst (aCons (eTup (aCons (eCall sp_turned (aCons (eV 13) aNil)) (aCons (eN tupP (aCons (eF (fLc (iSeq (eVr (eV 6))) (gN 21) tYs (e2 subA (eC (.int 0)) (eV 21)) [21])) aNil)) aNil))) (aCons (eTup (aCons (eCall sp_rounded (aCons (eV 13) (aCons (eV 7) aNil))) (aCons (eSl (eVr (eV 6)) oN (oS (e2 subA (eN lenP (aCons (eVr (eV 6)) aNil)) (eV 7)))) aNil))) aNil)))))) t__law_signed_right_13)
def t__law_signed_right_11 : FS := (sSeq (sSet 17 (eF (fLst (aCons (eTup (aCons (eCall sp_value_signed (aCons (e2 subA (eC (.int 0)) (eV 1)) (aCons (eV 11) aNil))) (aCons (eV 3) aNil))) (aCons (eTup (aCons (eCall sp_are_below (aCons (e2 subA (eC (.int 0)) (eV 1)) (aCons (eV 11) aNil))) (aCons (eC (.bl true)) aNil))) (aCons (eTup (aCons (eCall sp_are_below (aCons (e2 subA (eC (.int 0)) (eV 1)) (aCons (e2 addP (eF (fLst (aCons (eC (.int 0)) aNil))) (eV 11)) aNil))) (aCons (eC (.bl false)) aNil))) (aCons (eTup (aCons (eCall sp_below_added (aCons (e2 subA (eC (.int 0)) (eV 1)) (aCons (eV 11) (aCons (eV 12) aNil)))) (aCons (eV 15) aNil))) aNil))))))) t__law_signed_right_12)
def t__law_signed_right_10 : FS := (sSeq (sSet 16 (eF (fLc (iR2 (aCons (eC (.int 1)) (aCons (eN lenP (aCons (eV 8) aNil)) aNil))) (gN 19) (tAnd2 (cB neA (e2 ixP (eV 8) (eV 19)) (eC (.int 0))) (cB neA (e2 ixP (eV 8) (e2 subA (eV 19) (eC (.int 1)))) (eC (.int 0)))) (eV 19) [19]))) t__law_signed_right_11)
def t__law_signed_right_9 : FS := (sSeq (sSet 15 (eTup (aCons (eC (.str "sum")) (aCons (e2 ixP (eV 9) (eC (.int 0))) (aCons (e2 ixP (eV 9) (eC (.int 1))) (aCons (eCall sp__law_below_carries (aCons (eV 1) (aCons (e2 ixP (eV 9) (eC (.int 0))) (aCons (e2 ixP (eV 9) (eC (.int 1))) aNil)))) (aCons (eCall sp__law_below (aCons (eV 1) (aCons (e2 addP (eV 3) (eV 4)) aNil))) aNil))))))) t__law_signed_right_10)
def t__law_signed_right_8 : FS := (sSeq (sAsg (eV 10) (gS 4 (gsCons (gN 11) (gsCons (gN 12) (gsCons (gN 13) (gsCons (gN 14) gsNil)))))) t__law_signed_right_9)
def t__law_signed_right_7 : FS := (sSeq (sSet 10 (eF (fLc (iSeq (eV 9)) (gN 18) tYs (eF (fList (aCons (eV 18) aNil))) [18]))) t__law_signed_right_8)
def t__law_signed_right_6 : FS := (sSeq (sSet 9 (eF (fLst (aCons (eCall sp__law_below (aCons (eV 1) (aCons (eV 3) aNil))) (aCons (eCall sp__law_below (aCons (eV 1) (aCons (eV 4) aNil))) (aCons (eVr (eV 6)) (aCons (eV 8) aNil))))))) t__law_signed_right_7)
def t__law_signed_right_5 : FS := (sSeq (sSet 8 (eN tupP (aCons (eF (fLc (iR1 (aCons (eCall sp__law_pick (aCons (eV 0) (aCons (eC (.int 5)) aNil))) aNil)) (gN 20) tYs (e2 subA (eCall sp__law_pick (aCons (eV 0) (aCons (eC (.int 3)) aNil))) (eC (.int 1))) [20])) aNil))) t__law_signed_right_6)
def t__law_signed_right_4 : FS := (sSeq (sSet 7 (eCall sp__law_pick (aCons (eV 0) (aCons (e2 addP (eN lenP (aCons (eVr (eV 6)) aNil)) (eC (.int 1))) aNil)))) t__law_signed_right_5)
def t__law_signed_right_3 : FS := (sSeq (sSet 6 (eN tupX (aCons (eF (fLc (iR1 (aCons (eCall sp__law_pick (aCons (eV 0) (aCons (eC (.int 6)) aNil))) aNil)) (gN 20) tYs (e2 subA (eCall sp__law_pick (aCons (eV 0) (aCons (eV 2) aNil))) (eV 5)) [20])) aNil))) t__law_signed_right_4)
def t__law_signed_right_2 : FS := (sSeq (sSet 5 (e2 divP (eV 2) (eC (.int 2)))) t__law_signed_right_3)
def t__law_signed_right_1 : FS := (sSeq (sPar 3 4 (aCons (e2 mulA (eCall sp__law_great (aCons (eV 0) aNil)) (e2 subA (eC (.int 1)) (e2 mulA (eC (.int 2)) (eCall sp__law_pick (aCons (eV 0) (aCons (eC (.int 2)) aNil)))))) (aCons (e2 mulA (eCall sp__law_great (aCons (eV 0) aNil)) (e2 subA (eC (.int 1)) (e2 mulA (eC (.int 2)) (eCall sp__law_pick (aCons (eV 0) (aCons (eC (.int 2)) aNil)))))) aNil))) t__law_signed_right_2)
def b__law_signed_right : FS := (sSeq (sAsg (eTup (aCons (e2 addP (eC (.int 2)) (eCall sp__law_pick (aCons (eV 0) (aCons (eC (.int 999)) aNil)))) (aCons (e2 addP (eC (.int 3)) (e2 mulA (eC (.int 2)) (eCall sp__law_pick (aCons (eV 0) (aCons (eC (.int 499)) aNil))))) aNil))) (gS 2 (gsCons (gN 1) (gsCons (gN 2) gsNil)))) t__law_signed_right_1)
/-- _law_ones_right: slots 0 source, 1 base, 2 n, 3 m, 4 own, 5 hands, 6 one, 7 other, 8 rows, 9 great, 10 least, 11 part -/
def t__law_ones_right_10 : FS := (sRet (eAnd (eCall sp__law_all_same (aCons (eV 8) aNil)) (eCall sp__law_kept (aCons (e2 addP (eV 5) (eF (fLst (aCons (eV 9) (aCons (eV 10) aNil))))) (aCons (e2 addP (eV 4) (eF (fLst (aCons (e2 mulA (eTup (aCons (eV 1) aNil)) (eN lenP (aCons (eV 6) aNil))) (aCons (e2 mulA (eTup (aCons (eC (.int 1)) aNil)) (eN lenP (aCons (eV 6) aNil))) aNil))))) aNil)))))
def t__law_ones_right_9 : FS := (sSeq (sSet 8 (e2 addP (eV 8) (eF (fLst (aCons (eTup (aCons (eCall sp_following (aCons (eV 1) (aCons (eV 9) aNil))) (aCons (e2 mulA (eTup (aCons (eC (.int 1)) aNil)) (e2 addP (eN lenP (aCons (eV 6) aNil)) (eC (.int 1)))) aNil))) (aCons (eTup (aCons (eCall sp_ahead (aCons (eV 1) (aCons (eV 10) aNil))) (aCons (e2 mulA (eTup (aCons (eV 1) aNil)) (e2 subA (eN lenP (aCons (eV 6) aNil)) (eC (.int 1)))) aNil))) aNil)))))) t__law_ones_right_10)
def t__law_ones_right_8 : FS := (sSeq (sPar 9 10 (aCons (e2 mulA (eF (fLst (aCons (eV 1) aNil))) (eN lenP (aCons (eV 6) aNil))) (aCons (e2 mulA (eF (fLst (aCons (eC (.int 1)) aNil))) (eN lenP (aCons (eV 6) aNil))) aNil))) t__law_ones_right_9)
def t__law_ones_right_7 : FS := (sSeq (sSet 8 (e2 addP (eV 8) (eF (fLst (aCons (eTup (aCons (eCall sp_added_bijective (aCons (eV 1) (aCons (eV 6) (aCons (eV 7) aNil)))) (aCons (eCall sp__law_ones (aCons (eV 1) (aCons (e2 addP (eV 2) (eV 3)) aNil))) aNil))) (aCons (eTup (aCons (eCall sp_compared_bijective (aCons (eV 6) (aCons (eV 7) aNil))) (aCons (eCall sp__law_sign (aCons (eV 2) (aCons (eV 3) aNil))) aNil))) (aCons (eTup (aCons (eCall sp_compared_bijective (aCons (eV 6) (aCons (eV 6) aNil))) (aCons (eC (.int 0)) aNil))) aNil))))))) t__law_ones_right_8)
def t__law_ones_right_6 : FS := (sSeq (sSet 8 (e2 addP (eV 8) (eF (fLst (aCons (eTup (aCons (eCall sp_following (aCons (eV 1) (aCons (eV 6) aNil))) (aCons (eCall sp__law_ones (aCons (eV 1) (aCons (e2 addP (eV 2) (eC (.int 1))) aNil))) aNil))) (aCons (eTup (aCons (eCall sp_following (aCons (eV 1) (aCons (eV 7) aNil))) (aCons (eCall sp__law_ones (aCons (eV 1) (aCons (e2 addP (eV 3) (eC (.int 1))) aNil))) aNil))) (aCons (eTup (aCons (eCall sp_ahead (aCons (eV 1) (aCons (eV 6) aNil))) (aCons (eCall sp__law_ones (aCons (eV 1) (aCons (e2 subA (eV 2) (eC (.int 1))) aNil))) aNil))) aNil))))))) t__law_ones_right_7)
def t__law_ones_right_5 : FS := (sSeq (sSet 8 (eF (fLst (aCons (eTup (aCons (eCall sp_value_bijective (aCons (eV 1) (aCons (eV 6) aNil))) (aCons (eV 2) aNil))) (aCons (eTup (aCons (eCall sp_value_bijective (aCons (eV 1) (aCons (eV 7) aNil))) (aCons (eV 3) aNil))) (aCons (eTup (aCons (eCall sp_are_digits_bijective (aCons (eV 1) (aCons (eV 6) aNil))) (aCons (eC (.bl true)) aNil))) (aCons (eTup (aCons (eCall sp_are_digits_bijective (aCons (eV 1) (aCons (e2 addP (eV 6) (eF (fLst (aCons (eC (.int 0)) aNil)))) aNil))) (aCons (eC (.bl false)) aNil))) aNil))))))) t__law_ones_right_6)
def t__law_ones_right_4 : FS := (sSeq (sAsg (eV 5) (gS 2 (gsCons (gN 6) (gsCons (gN 7) gsNil)))) t__law_ones_right_5)
def t__law_ones_right_3 : FS := (sSeq (sSet 5 (eF (fLc (iSeq (eV 4)) (gN 11) tYs (eF (fList (aCons (eV 11) aNil))) [11]))) t__law_ones_right_4)
def t__law_ones_right_2 : FS := (sSeq (sSet 4 (eF (fLst (aCons (eCall sp__law_ones (aCons (eV 1) (aCons (eV 2) aNil))) (aCons (eCall sp__law_ones (aCons (eV 1) (aCons (eV 3) aNil))) aNil))))) t__law_ones_right_3)
def t__law_ones_right_1 : FS := (sSeq (sPar 2 3 (aCons (e2 addP (eC (.int 1)) (eCall sp__law_great (aCons (eV 0) aNil))) (aCons (eCall sp__law_great (aCons (eV 0) aNil)) aNil))) t__law_ones_right_2)
def b__law_ones_right : FS := (sSeq (sSet 1 (e2 ixP (eF (fLst (aCons (eC (.int 2)) (aCons (eC (.int 26)) (aCons (e2 addP (eC (.int 2)) (eCall sp__law_pick (aCons (eV 0) (aCons (eC (.int 999)) aNil)))) aNil))))) (eCall sp__law_pick (aCons (eV 0) (aCons (eC (.int 3)) aNil))))) t__law_ones_right_1)
/-- _law_right: slots 0 source -/
def b__law_right : FS := (sRet (eAnd (eCall sp__law_plain_right (aCons (eV 0) aNil)) (eAnd (eCall sp__law_signed_right (aCons (eV 0) aNil)) (eCall sp__law_ones_right (aCons (eV 0) aNil)))))

end Fl

section
set_option exponentiation.threshold 2000
namespace Fl
open PySem PySem.Spec PyProof.Rows L2
theorem l__law_pick : ∀ args M Q, sp__law_pick args M Q → args.length = 2 ∧ b__law_pick (fE Q) (fr0 2 args) M := fun args M Q h => by
  match args, h with
  | [.cell a, .int m], ⟨⟨s0, s1, hM, h0, h1⟩, ⟨m1, m2⟩, hq⟩ =>
    refine ⟨rfl, [.int s0, .int s1], hM, .int s0, rfl, fun h => ?_, fun _ => ?_⟩
    · refine ⟨[.int s0, .int s1], hM, .int s0, rfl, m1, [.int s0, .int s1], hM, .int s0, rfl, dv m1 (by omega), ?_⟩
      have e : (match (M a : Option (List PV)) with
        | some xs => ((0 : Int) ≤ 0 ∧ (0 : Int) < xs.length) ∧ Q (.int (s0 % m)) (upM M a (xs.set (0 : Int).toNat (.int (s0 / m))))
        | none => False) := by
        rw [hM]
        refine ⟨⟨Int.le_refl _, by simp⟩, hq _ _ (Int.emod_nonneg _ (by omega)) (Int.emod_lt_of_pos _ m1) ⟨s0 / m, s1, upM_same, h0, h1⟩⟩
      exact e
    · have hs1 : (0 : Int) ≤ (s1 * 48271 + 12345) % 2147483647 := Int.emod_nonneg _ (by omega)
      have hs2 : (s1 * 48271 + 12345) % 2147483647 < 2147483647 := Int.emod_lt_of_pos _ (by omega)
      generalize ht : (s1 * 48271 + 12345) % 2147483647 = t at *
      have rest : t__law_pick_2 (fE Q) [some (.v (.cell a)), some (.v (.int m)), none, none] (upM M a [.int s0, .int t]) := by
        refine ⟨_, upM_same, .int t, rfl, mul_r (by omega) (by omega), _, upM_same, .int t, rfl, dv (by omega) (by omega), by omega, dv (by omega) (by omega), m1, ?_⟩
        exact hq _ _ (Int.emod_nonneg _ (by omega)) (Int.emod_lt_of_pos _ m1) ⟨s0, t, upM_same, by omega, by omega⟩
      refine ⟨[.int s0, .int s1], hM, .int s1, rfl, mul_r (by omega) (by omega), by omega, ?_⟩
      have e : (match (M a : Option (List PV)) with
        | some xs => ((0 : Int) ≤ 1 ∧ (1 : Int) < xs.length) ∧ t__law_pick_2 (fE Q) [some (.v (.cell a)), some (.v (.int m)), none, none] (upM M a (xs.set (1 : Int).toNat (.int ((s1 * 48271 + 12345) % 2147483647))))
        | none => False) := by
        rw [hM, ht]
        exact ⟨⟨by omega, by simp⟩, rest⟩
      exact e
theorem l__law_sign : ∀ args M Q, sp__law_sign args M Q → args.length = 2 ∧ b__law_sign (fE Q) (fr0 0 args) M := fun args M Q h => by
  match args, h with
  | [.int a, .int b], hq =>
    refine ⟨rfl, ?_⟩
    have e : (if cGt a b then (1 : Int) else 0) - (if cLt a b then (1 : Int) else 0) = sgn a b := sgn_b a b
    have hq : Q (.int (sgn a b)) M := hq
    rw [← e] at hq
    exact hq
theorem powl_loop {b : Int} {D : FEnds} {M : Sto} {x1 : Option EV} (hb : 0 ≤ b ∧ b ≤ 1000) : ∀ (n : Nat) (lo : Int) (w : Int) (x3 : Option EV), (∀ x3, D.nx [some (.v (.int b)), x1, some (.v (.int (w * b ^ n))), x3] M) →
    foP (gN 3) w__law_power_1 D (rng lo n) [some (.v (.int b)), x1, some (.v (.int w)), x3] M
  | 0, lo, w, x3, q => by
    have q := q x3
    rw [Int.pow_zero, Int.mul_one] at q
    exact q
  | n + 1, lo, w, x3, q => by
    refine ⟨mul_r (by omega) (by omega), powl_loop hb n (lo + 1) (w * b) _ fun x3 => ?_⟩
    have q := q x3
    rw [Int.pow_succ, Int.mul_comm (b ^ n) b, ← Int.mul_assoc] at q
    exact q
theorem l__law_power : ∀ args M Q, sp__law_power args M Q → args.length = 2 ∧ b__law_power (fE Q) (fr0 2 args) M := fun args M Q h => by
  match args, h with
  | [.int b, .int e], ⟨⟨h1, h2, h3, h4⟩, hq⟩ =>
    refine ⟨rfl, ⟨by omega, by omega⟩, ?_⟩
    refine powl_loop (D := { fE Q with nx := t__law_power_2 (fE Q) }) ⟨h1, h2⟩ e.toNat 0 1 none fun x3 => ?_
    rw [Int.one_mul]
    exact hq
theorem digl_loop {b : Int} {D : FEnds} {M : Sto} {x1 : Option EV} (hb : 2 ≤ b ∧ b < 2 ^ 100) : ∀ (k : Nat) (n : Int) (acc : List Int), n.toNat ≤ k → 0 ≤ n → acc.length + (lowd b n).length ≤ sizeLine →
    D.nx [some (.v (.int b)), x1, some (.b ((acc ++ lowd b n).map .int)), some (.v (.int 0))] M →
    whP c__law_digits_1 w__law_digits_1 D (k + 1) [some (.v (.int b)), x1, some (.b (acc.map .int)), some (.v (.int n))] M
  | k, n, acc, hk, h0, hl, q => by
    refine ⟨fun h => ?_, fun h => ?_⟩
    · have h := gtD h
      match k, hk with
      | 0, hk => omega
      | k + 1, hk =>
        have hd := div_lt h hb.1
        rw [lowd_pos h hb.1] at hl q
        rw [List.length_cons] at hl
        refine ⟨by omega, by rw [List.length_map]; omega, dv (by omega) hb.2, ?_⟩
        rw [← mapI]
        refine digl_loop hb k (n / b) (acc ++ [n % b]) (by omega) hd.2 (by rw [List.length_append, List.length_singleton]; omega) ?_
        rw [List.append_assoc]
        exact q
    · have h := gtN h
      have e : n = 0 := by omega
      rw [e, lowd_zero (Int.le_refl _), List.append_nil] at q
      rw [e]
      exact q
theorem l__law_digits : ∀ args M Q, sp__law_digits args M Q → args.length = 2 ∧ b__law_digits (fE Q) (fr0 2 args) M := fun args M Q h => by
  match args, h with
  | [.int b, .int n], ⟨⟨h1, h2, h3, h4⟩, hq⟩ =>
    have hl := lowd_len h1 1000 h3 (BB_nat h4)
    have h5 := line1
    refine ⟨rfl, n.toNat + 1, digl_loop (acc := []) ⟨h1, h2⟩ n.toNat n (Nat.le_refl _) h3 (by rw [List.length_nil]; omega) ?_⟩
    rw [List.nil_append]
    show Q (.tup ((lowd b n).map PV.int).reverse) M
    rw [← List.map_reverse]
    exact hq
theorem onl_loop {b : Int} {D : FEnds} {M : Sto} {x1 : Option EV} (hb : 2 ≤ b ∧ b < 2 ^ 100) : ∀ (k : Nat) (n : Int) (acc : List Int) (x4 : Option EV), n.toNat ≤ k → 0 ≤ n → acc.length + (lowo b n).length ≤ sizeLine →
    (∀ x4, D.nx [some (.v (.int b)), x1, some (.b ((acc ++ lowo b n).map .int)), some (.v (.int 0)), x4] M) →
    whP c__law_ones_1 w__law_ones_1 D (k + 1) [some (.v (.int b)), x1, some (.b (acc.map .int)), some (.v (.int n)), x4] M
  | k, n, acc, x4, hk, h0, hl, q => by
    refine ⟨fun h => ?_, fun h => ?_⟩
    · have h := gtD h
      match k, hk with
      | 0, hk => omega
      | k + 1, hk =>
        have hd := od_ok hb.1 h
        rw [lowo_pos h hb.1] at hl q
        rw [List.length_cons] at hl
        have ih := fun x4 => onl_loop hb k ((n - od b n) / b) (acc ++ [od b n]) x4 (by omega) hd.2.2.2.2 (by rw [List.length_append, List.length_singleton]; omega) fun x4 => by
          have q := q x4
          rw [List.append_assoc]
          exact q
        rw [mapI] at ih
        refine ⟨by omega, fun h2 => ⟨by rw [List.length_map]; omega, dv (by omega) hb.2, ?_⟩, fun h2 => ⟨by rw [List.length_map]; omega, dv (by omega) hb.2, ?_⟩⟩
        · have e : od b n = b := if_pos (eqD h2)
          rw [e] at ih
          exact ih _
        · have e : od b n = n % b := if_neg (eqN h2)
          rw [e] at ih
          exact ih _
    · have h := gtN h
      have e : n = 0 := by omega
      have q := q x4
      rw [e, lowo_zero (Int.le_refl _), List.append_nil] at q
      rw [e]
      exact q
theorem l__law_ones : ∀ args M Q, sp__law_ones args M Q → args.length = 2 ∧ b__law_ones (fE Q) (fr0 3 args) M := fun args M Q h => by
  match args, h with
  | [.int b, .int n], ⟨⟨h1, h2, h3, h4⟩, hq⟩ =>
    have hl := lowo_len h1 1000 h3 (BB_nat h4)
    have h5 := line1
    refine ⟨rfl, n.toNat + 1, onl_loop (acc := []) ⟨h1, by omega⟩ n.toNat n none (Nat.le_refl _) h3 (by rw [List.length_nil]; omega) fun x4 => ?_⟩
    rw [List.nil_append]
    show Q (.tup ((lowo b n).map PV.int).reverse) M
    rw [← List.map_reverse]
    exact hq
theorem fdiv_pos {s w : Int} (hs : 0 < s) : (w - w % s).fdiv s = w / s := by
  have e3 := Int.emod_add_mul_ediv w s
  have : w - w % s = s * (w / s) := by omega
  rw [this, Int.mul_fdiv_cancel_left _ (by omega)]
theorem bel_loop {s : Int} {D : FEnds} {M : Sto} {x1 : Option EV} (hs : 2 ≤ s ∧ s ≤ 1001) : ∀ (k : Nat) (n : Int) (acc : List Int) (x4 : Option EV), 2 * n.natAbs + (if n < 0 then 1 else 0) ≤ k → acc.length + (lowb s n).length ≤ sizeLine →
    (∀ x4, D.nx [some (.v (.int s)), x1, some (.b ((acc ++ lowb s n).map .int)), some (.v (.int 0)), x4] M) →
    whP c__law_below_1 w__law_below_1 D (k + 1) [some (.v (.int s)), x1, some (.b (acc.map .int)), some (.v (.int n)), x4] M
  | k, n, acc, x4, hk, hl, q => by
    refine ⟨fun h => ?_, fun h => ?_⟩
    · have h : n ≠ 0 := eqN (nT h)
      have hst := neg_step hs.1 h
      match k, hk with
      | 0, hk => omega
      | k + 1, hk =>
        rw [lowb_ne h hs.1] at hl q
        rw [List.length_cons] at hl
        have ih := fun x4 => bel_loop hs k (-(n / s)) (acc ++ [n % s]) x4 (by omega) (by rw [List.length_append, List.length_singleton]; omega) fun x4 => by
          have q := q x4
          rw [List.append_assoc]
          exact q
        rw [mapI, ← fdiv_pos (by omega : 0 < s), ← Int.zero_sub] at ih
        exact ⟨by omega, by rw [List.length_map]; omega, ⟨by omega, by omega⟩, ih _⟩
    · have h : n = 0 := eqD (nF h)
      have q := q x4
      rw [h, lowb_zero, List.append_nil] at q
      rw [h]
      exact q
theorem l__law_below : ∀ args M Q, sp__law_below args M Q → args.length = 2 ∧ b__law_below (fE Q) (fr0 3 args) M := fun args M Q h => by
  match args, h with
  | [.int s, .int n], ⟨⟨h1, h2, h3⟩, hq⟩ =>
    have hl := lowb_len h1 1000 h3
    have h5 := line1
    refine ⟨rfl, _, bel_loop (acc := []) ⟨h1, h2⟩ _ n none (Nat.le_refl _) (by rw [List.length_nil]; omega) fun x4 => ?_⟩
    rw [List.nil_append]
    show Q (.tup ((lowb s n).map PV.int).reverse) M
    rw [← List.map_reverse]
    exact hq
end Fl

end

section
set_option exponentiation.threshold 2000
namespace Fl
open PySem PySem.Spec PyProof.Rows L2
theorem atEnd (l : List Int) (c : Int) : atI ((l ++ [c]).map PV.int) ((((l ++ [c]).map PV.int).length : Int) - 1) = some (.int c) := by
  rw [show ((((l ++ [c]).map PV.int).length : Int) - 1) = (l.length : Int) by rw [List.length_map, List.length_append, List.length_singleton]; omega]
  exact atMid l [] c
theorem scl_loop {b f : Int} {D : FEnds} {M : Sto} {x1 : Option EV} (hb : 2 ≤ b ∧ b ≤ 1000) : ∀ (xs : List Int) (ca : List Int) (c : Int) (x4 : Option EV), okD1 0 b xs → ca.length + xs.length + 1 < sizeLine →
    (∀ x4, D.nx [some (.v (.int b)), x1, some (.v (.int f)), some (.b ((ca ++ c :: scr b f c xs).map .int)), x4] M) →
    foP (gN 4) w__law_scaled_1 D (xs.map .int) [some (.v (.int b)), x1, some (.v (.int f)), some (.b ((ca ++ [c]).map .int)), x4] M
  | [], ca, c, x4, _, _, q => by
    have q := q x4
    rw [scr] at q
    exact q
  | x :: xs, ca, c, x4, hx, h1, q => by
    rw [List.length_cons] at h1
    have hd := hx x (by simp)
    refine ⟨mul_l (by omega) (by omega), .int c, atEnd ca c, dv (by omega) (by omega), by rw [List.length_map, List.length_append, List.length_singleton]; omega, ?_⟩
    rw [← mapI]
    refine scl_loop hb xs (ca ++ [c]) ((x * f + c) / b) _ (fun d hd => hx d (by simp [hd])) (by rw [List.length_append, List.length_singleton]; omega) fun x4 => ?_
    have q := q x4
    rw [scr] at q
    rw [List.append_assoc]
    exact q
theorem l__law_scaled : ∀ args M Q, sp__law_scaled args M Q → args.length = 3 ∧ b__law_scaled (fE Q) (fr0 2 args) M := fun args M Q h => by
  match args, h with
  | [.int b, w, .int f], ⟨l, hw, ⟨h1, h2, h3, h4⟩, hq⟩ =>
    subst hw
    have hz := line1
    refine ⟨rfl, ?_⟩
    refine foP_eq (ys := l.reverse.map .int) (by rw [List.map_reverse]) ?_
    refine scl_loop (ca := []) (c := 0) ⟨h1, h2⟩ l.reverse none (fun d hd => h4 d (List.mem_reverse.mp hd)) (by rw [List.length_nil, List.length_reverse]; omega) fun x4 => ?_
    rw [List.nil_append]
    exact hq
/-- carries of a sum by >= -/
theorem car_eq {b x y c : Int} (hb : 2 ≤ b) (hx : 0 ≤ x ∧ x < b) (hy : 0 ≤ y ∧ y < b) (hc : 0 ≤ c ∧ c ≤ 1) : (if cGe (x + y + c) b then (1 : Int) else 0) = (x + y + c) / b := by
  have h := car01 hb hx hy hc
  have e3 := Int.emod_add_mul_ediv (x + y + c) b
  have e1 := Int.emod_nonneg (x + y + c) (by omega : b ≠ 0)
  have e2 := Int.emod_lt_of_pos (x + y + c) (by omega : 0 < b)
  by_cases z : (x + y + c) / b = 0
  · rw [z, Int.mul_zero] at e3
    rw [z, show cGe (x + y + c) b = false from decide_eq_false (by omega)]
    rfl
  · have z1 : (x + y + c) / b = 1 := by omega
    rw [z1, Int.mul_one] at e3
    rw [z1, show cGe (x + y + c) b = true from decide_eq_true (by omega)]
    rfl
theorem atD {l : List Int} {k : Nat} (h : k < l.length) : atI (l.map PV.int) (k : Int) = some (.int (l.getD k 0)) := atM (by simp [h])
theorem getD_app {l : List Int} {k n : Nat} : (l ++ List.replicate n 0).getD k 0 = l.getD k 0 := by
  by_cases h : k < l.length
  · simp [List.getElem?_append_left h]
  · simp [List.getElem?_append_right (Nat.le_of_not_lt h), List.getElem?_replicate, h]
    split <;> simp_all
theorem lc_loop {b : Int} {D : FEnds} {M : Sto} {x1 x2 x3 : Option EV} {X Y xs ys : List Int} (hb : 2 ≤ b ∧ b ≤ 1000) (hl : xs.length = ys.length) (hx : okD1 0 b xs) (hy : okD1 0 b ys) (hX : ∀ k, X.getD k 0 = xs.getD k 0) (hY : ∀ k, Y.getD k 0 = ys.getD k 0) (lX : xs.length ≤ X.length) (lY : ys.length ≤ Y.length) :
    ∀ (n k : Nat) (ca : List Int) (c : Int) (x7 : Option EV), k + n = xs.length → ca.length = k → 0 ≤ c ∧ c ≤ 1 → xs.length + 2 ≤ sizeLine →
    (∀ x7, D.nx [some (.v (.int b)), x1, x2, x3, some (.v (pInts X)), some (.v (pInts Y)), some (.b ((ca ++ c :: crs b c (xs.drop k) (ys.drop k)).map .int)), x7] M) →
    foP (gN 7) w__law_carries_1 D (rng (k : Int) n) [some (.v (.int b)), x1, x2, x3, some (.v (pInts X)), some (.v (pInts Y)), some (.b ((ca ++ [c]).map .int)), x7] M
  | 0, k, ca, c, x7, hk, hca, hc, hz, q => by
    have q := q x7
    rw [List.drop_of_length_le (by omega), List.drop_of_length_le (by omega)] at q
    exact q
  | n + 1, k, ca, c, x7, hk, hca, hc, hz, q => by
    have h1 : k < xs.length := by omega
    have h2 : k < ys.length := by omega
    have mx : xs.getD k 0 ∈ xs := by simp [h1]
    have my : ys.getD k 0 ∈ ys := by simp [h2]
    have dx := hx _ mx
    have dy := hy _ my
    have hcr := car01 hb.1 ⟨dx.1, by omega⟩ ⟨dy.1, by omega⟩ hc
    have he := car_eq hb.1 ⟨dx.1, by omega⟩ ⟨dy.1, by omega⟩ hc
    have a3 : atI ((ca ++ [c]).map PV.int) (k : Int) = some (.int c) := by rw [← hca]; exact atMid ca [] c
    have ih := lc_loop (D := D) (M := M) (x1 := x1) (x2 := x2) (x3 := x3) hb hl hx hy hX hY lX lY n (k + 1) (ca ++ [c]) ((xs.getD k 0 + ys.getD k 0 + c) / b) (some (.v (.int (k : Int)))) (by omega) (by rw [List.length_append, List.length_singleton, hca]) hcr hz fun x7 => by
      have q := q x7
      rw [drop_getD xs k h1, drop_getD ys k h2, crs] at q
      rw [List.append_assoc]
      exact q
    rw [mapI, ← he, ← hX, ← hY, show ((k + 1 : Nat) : Int) = (k : Int) + 1 by omega] at ih
    exact ⟨.int (X.getD k 0), atD (by omega), .int (Y.getD k 0), atD (by omega), .int c, a3, by rw [List.length_map, List.length_append, List.length_singleton]; omega, ih⟩
theorem pad0 (N : Nat) (l : List Int) (h : l.length ≤ N) : (List.replicate N (0 : Int) ++ l).reverse = (pad N l).reverse ++ List.replicate l.length 0 := by
  rw [pad_rev, List.reverse_append, List.reverse_replicate, List.append_assoc, List.replicate_append_replicate]
  congr 2
  omega
theorem lc_mid {b : Int} {Q : PV → Sto → Prop} {M : Sto} {x1 x2 : Option EV} {l1 l2 : List Int} {N : Nat} (hN : N = max l1.length l2.length) (h1 : 2 ≤ b) (h2 : b ≤ 1000) (g1 : l1.length ≤ 2000) (g2 : l2.length ≤ 2000) (k1 : okD1 0 b l1) (k2 : okD1 0 b l2) (hq : Q (pInts (carL b l1 l2)) M) :
    t__law_carries_1 (fE Q) [some (.v (.int b)), some (.v (pInts l1)), some (.v (pInts l2)), some (.v (.int (N : Int))), none, none, none, none] M := by
  have hz := line1
  have p1 : ∀ l : List Int, ((List.replicate (N : Int).toNat [PV.int 0]).flatten ++ l.map PV.int).reverse = (List.replicate N (0 : Int) ++ l).reverse.map PV.int := fun l => by
    rw [flatR, ← List.map_append, ← List.map_reverse, Int.toNat_natCast]
  have c1 : ∀ l : List Int, l.length ≤ 2000 → ((-(2 ^ 62) ≤ (N : Int) ∧ (N : Int) < 2 ^ 62) ∧ [PV.int 0].length * (N : Int).toNat ≤ sizeLine) ∧ (List.replicate (N : Int).toNat [PV.int 0]).flatten.length + (l.map PV.int).length ≤ sizeLine := fun l hl => by
    rw [flatR, List.length_map, List.length_map, List.length_replicate, List.length_singleton, Int.toNat_natCast]
    omega
  have q1 : (pad N l1).reverse.length = N := by rw [List.length_reverse, pad_length (by omega)]
  have q2 : (pad N l2).reverse.length = N := by rw [List.length_reverse, pad_length (by omega)]
  have key := lc_loop (D := { fE Q with nx := t__law_carries_4 (fE Q) }) (M := M) (x1 := some (.v (pInts l1))) (x2 := some (.v (pInts l2))) (x3 := some (.v (.int (N : Int)))) (X := (List.replicate N (0 : Int) ++ l1).reverse) (Y := (List.replicate N (0 : Int) ++ l2).reverse) (xs := (pad N l1).reverse) (ys := (pad N l2).reverse) ⟨h1, h2⟩ (by omega) (pad_ok (by omega) k1) (pad_ok (by omega) k2)
    (fun k => by rw [pad0 N l1 (by omega), getD_app]) (fun k => by rw [pad0 N l2 (by omega), getD_app]) (by rw [q1, List.length_reverse, List.length_append, List.length_replicate]; omega) (by rw [q2, List.length_reverse, List.length_append, List.length_replicate]; omega) N 0 [] 0 none (by omega) rfl ⟨Int.le_refl _, by omega⟩ (by omega) fun x7 => by
      rw [List.nil_append, List.drop_zero, List.drop_zero]
      unfold carL at hq
      rw [← hN] at hq
      exact hq
  unfold pInts at key
  rw [← p1 l1, ← p1 l2] at key
  have e1 := c1 l1 g1
  have e2 := c1 l2 g2
  refine ⟨e1.1, e1.2, e2.1, e2.2, ⟨by omega, by omega⟩, ?_⟩
  exact key
theorem l__law_carries : ∀ args M Q, sp__law_carries args M Q → args.length = 3 ∧ b__law_carries (fE Q) (fr0 5 args) M := fun args M Q h => by
  match args, h with
  | [.int b, w1, w2], ⟨l1, l2, hw1, hw2, ⟨h1, h2, g1, g2, k1, k2⟩, hq⟩ =>
    subst hw1 hw2
    have e1 : ((max l1.length l2.length : Nat) : Int) = (if ((l2.map PV.int).length : Int) > ((l1.map PV.int).length : Int) then ((l2.map PV.int).length : Int) else ((l1.map PV.int).length : Int)) := by rw [iteN, List.length_map, List.length_map]
    have key := lc_mid (Q := Q) (M := M) (x1 := none) (x2 := none) rfl h1 h2 g1 g2 k1 k2 hq
    rw [e1] at key
    exact ⟨rfl, key⟩
end Fl

end

section
set_option exponentiation.threshold 2000
namespace Fl
open PySem PySem.Spec PyProof.Rows L2
theorem lbc_loop {s : Int} {D : FEnds} {M : Sto} {x1 x2 : Option EV} {X Y xs ys : List Int} {N : Nat} (hs : 2 ≤ s ∧ s ≤ 1001) (hN : max xs.length ys.length = N) (hx : okD1 0 s xs) (hy : okD1 0 s ys) (hX : ∀ k, X.getD k 0 = xs.getD k 0) (hY : ∀ k, Y.getD k 0 = ys.getD k 0) (lX : N ≤ X.length) (lY : N ≤ Y.length) :
    ∀ (k : Nat) (c : Int) (at' : Nat) (ca : List Int) (x8 : Option EV), (N - at') + (if at' < N then 3 else if c = 0 then 1 else if c = 1 then 2 else 3) ≤ k → ca.length = at' → -1 ≤ c ∧ c ≤ 1 → at' + 1 + k ≤ sizeLine →
    (∀ x7 x8, D.nx [some (.v (.int s)), x1, x2, some (.v (.int (N : Int))), some (.v (pInts X)), some (.v (pInts Y)), some (.b ((ca ++ c :: ngc s c (xs.drop at') (ys.drop at')).map .int)), x7, x8] M) →
    whP c__law_below_carries_1 w__law_below_carries_1 D k [some (.v (.int s)), x1, x2, some (.v (.int (N : Int))), some (.v (pInts X)), some (.v (pInts Y)), some (.b ((ca ++ [c]).map .int)), some (.v (.int (at' : Int))), x8] M
  | 0, c, at', ca, x8, hk, hca, hc, hl, q => by
    exfalso
    split at hk
    · omega
    · split at hk
      · omega
      · split at hk <;> omega
  | k + 1, c, at', ca, x8, hk, hca, hc, hl, q => by
    have gx := getD_le (s := 0) (lo := 0) (hi := s - 1) ⟨Int.le_refl _, by omega⟩ (fun d hd => ⟨by have := hx d hd; omega, by have := hx d hd; omega⟩) at'
    have gy := getD_le (s := 0) (lo := 0) (hi := s - 1) ⟨Int.le_refl _, by omega⟩ (fun d hd => ⟨by have := hy d hd; omega, by have := hy d hd; omega⟩) at'
    have a3 : atI ((ca ++ [c]).map PV.int) (at' : Int) = some (.int c) := by rw [← hca]; exact atMid ca [] c
    have bnd : ((ca ++ [c]).map PV.int).length < sizeLine := by rw [List.length_map, List.length_append, List.length_singleton]; omega
    by_cases h : at' < N
    · have hstep := (ng_step s c xs ys at' (by omega)).1
      have g := ng_car (s := s) (w := c + xs.getD at' 0 + ys.getD at' 0) (by omega) (by omega) (by omega)
      rw [if_pos h] at hk
      have ih := lbc_loop (D := D) (M := M) (x1 := x1) (x2 := x2) hs hN hx hy hX hY lX lY k (-((c + xs.getD at' 0 + ys.getD at' 0) / s)) (at' + 1) (ca ++ [c]) (some (.v (.int (c + xs.getD at' 0 + ys.getD at' 0)))) (by split <;> (try split) <;> (try split) <;> omega) (by rw [List.length_append, List.length_singleton, hca]) ⟨g.1, g.2.1⟩ (by omega) fun x7 x8 => by
        have q := q x7 x8
        rw [hstep] at q
        rw [List.append_assoc]
        exact q
      rw [mapI (ca ++ [c]), ← fdiv_pos (by omega : 0 < s), ← Int.zero_sub, ← hX, ← hY] at ih
      refine ⟨fun _ => ⟨fun _ => ⟨.int c, a3, fun _ => ⟨.int (X.getD at' 0), atD (by omega), .int (Y.getD at' 0), atD (by omega), ?_⟩, fun h2 => ?_⟩, fun h => ?_⟩, fun h2 => ?_⟩
      · exact ⟨by omega, ⟨by omega, by omega⟩, bnd, ih⟩
      · have := of_decide_eq_false h2
        omega
      · cases h
      · have := of_decide_eq_false h2
        omega
    · rw [if_neg h] at hk
      have dx : xs.drop at' = [] := List.drop_of_length_le (by omega)
      have dy : ys.drop at' = [] := List.drop_of_length_le (by omega)
      have dx1 : xs.drop (at' + 1) = [] := List.drop_of_length_le (by omega)
      have dy1 : ys.drop (at' + 1) = [] := List.drop_of_length_le (by omega)
      refine ⟨fun h2 => ?_, fun _ => ⟨.int c, a3, fun h2 => ⟨.int c, a3, fun h3 => ?_, fun _ => ?_⟩, fun h2 => ?_⟩⟩
      · have := of_decide_eq_true h2
        omega
      · have := of_decide_eq_true h3
        omega
      · have h2 : c ≠ 0 := eqN (nT h2)
        rw [if_neg h2] at hk
        have he := (ng_end (s := s) (c := c) (by omega) (by omega)).1
        rw [Int.add_zero, Int.add_zero] at he
        have g := ng_car (s := s) (w := c) (by omega) (by omega) (by omega)
        have ih := lbc_loop (D := D) (M := M) (x1 := x1) (x2 := x2) hs hN hx hy hX hY lX lY k (-(c / s)) (at' + 1) (ca ++ [c]) (some (.v (.int c))) (by
          rw [if_neg (by omega)]
          by_cases c1 : c = 1
          · have e0 : c / s = 0 := by rw [c1]; exact Int.ediv_eq_zero_of_lt (by omega) (by omega)
            rw [e0, if_pos (by omega)]
            rw [if_pos c1] at hk
            omega
          · have c2 : c = -1 := by omega
            rw [if_neg c1] at hk
            have e0 : c / s = -1 := by
              have g1 := g.2.2.2.2
              have g2 := g.2.2.1
              have g3 := g.2.2.2.1
              by_cases z0 : c / s = 0
              · rw [z0] at g1; omega
              · by_cases z1 : c / s = 1
                · rw [z1, Int.neg_mul_neg, Int.mul_one] at g1; omega
                · omega
            rw [e0, if_neg (by omega), if_pos (by omega)]
            omega) (by rw [List.length_append, List.length_singleton, hca]) ⟨g.1, g.2.1⟩ (by omega) fun x7 x8 => by
          have q := q x7 x8
          rw [dx, dy, he] at q
          rw [List.append_assoc, dx1, dy1]
          exact q
        rw [mapI (ca ++ [c]), ← fdiv_pos (by omega : 0 < s), ← Int.zero_sub] at ih
        exact ⟨by omega, ⟨by omega, by omega⟩, bnd, ih⟩
      · have c0 : c = 0 := eqD (nF h2)
        subst c0
        have q := q (some (.v (.int (at' : Int)))) x8
        rw [dx, dy, ngc, if_pos rfl] at q
        exact q
theorem lbc_mid {s : Int} {Q : PV → Sto → Prop} {M : Sto} {l1 l2 : List Int} {N : Nat} (hN : max l1.length l2.length = N) (h1 : 2 ≤ s) (h2 : s ≤ 1001) (g1 : l1.length ≤ 2000) (g2 : l2.length ≤ 2000) (k1 : okD1 0 s l1) (k2 : okD1 0 s l2) (hq : Q (pInts (0 :: ngc s 0 l1.reverse l2.reverse)) M) :
    t__law_below_carries_1 (fE Q) [some (.v (.int s)), some (.v (pInts l1)), some (.v (pInts l2)), some (.v (.int (N : Int))), none, none, none, none, none] M := by
  have hz := line1
  have p1 : ∀ l : List Int, ((List.replicate (N : Int).toNat [PV.int 0]).flatten ++ l.map PV.int).reverse = (List.replicate N (0 : Int) ++ l).reverse.map PV.int := fun l => by
    rw [flatR, ← List.map_append, ← List.map_reverse, Int.toNat_natCast]
  have c1 : ∀ l : List Int, l.length ≤ 2000 → ((-(2 ^ 62) ≤ (N : Int) ∧ (N : Int) < 2 ^ 62) ∧ [PV.int 0].length * (N : Int).toNat ≤ sizeLine) ∧ (List.replicate (N : Int).toNat [PV.int 0]).flatten.length + (l.map PV.int).length ≤ sizeLine := fun l hl => by
    rw [flatR, List.length_map, List.length_map, List.length_replicate, List.length_singleton, Int.toNat_natCast]
    omega
  have hG : ∀ (l : List Int) (k : Nat), (List.replicate N (0 : Int) ++ l).reverse.getD k 0 = l.reverse.getD k 0 := fun l k => by
    rw [List.reverse_append, List.reverse_replicate, getD_app]
  have hL : ∀ l : List Int, N ≤ (List.replicate N (0 : Int) ++ l).reverse.length := fun l => by
    rw [List.length_reverse, List.length_append, List.length_replicate]; omega
  have key := lbc_loop (D := { fE Q with nx := t__law_below_carries_5 (fE Q) }) (M := M) (x1 := some (.v (pInts l1))) (x2 := some (.v (pInts l2))) (X := (List.replicate N (0 : Int) ++ l1).reverse) (Y := (List.replicate N (0 : Int) ++ l2).reverse) (xs := l1.reverse) (ys := l2.reverse) (N := N) ⟨h1, h2⟩ (by rw [List.length_reverse, List.length_reverse]; exact hN) (fun d hd => k1 d (List.mem_reverse.mp hd)) (fun d hd => k2 d (List.mem_reverse.mp hd)) (hG l1) (hG l2) (hL l1) (hL l2) (N + 3) 0 0 [] none (by split <;> (try split) <;> omega) rfl ⟨by omega, by omega⟩ (by omega) fun x7 x8 => by
      rw [List.nil_append, List.drop_zero, List.drop_zero]
      exact hq
  unfold pInts at key
  rw [← p1 l1, ← p1 l2] at key
  have e1 := c1 l1 g1
  have e2 := c1 l2 g2
  exact ⟨e1.1, e1.2, e2.1, e2.2, _, key⟩
theorem l__law_below_carries : ∀ args M Q, sp__law_below_carries args M Q → args.length = 3 ∧ b__law_below_carries (fE Q) (fr0 6 args) M := fun args M Q h => by
  match args, h with
  | [.int s, w1, w2], ⟨l1, l2, hw1, hw2, ⟨h1, h2, g1, g2, k1, k2⟩, hq⟩ =>
    subst hw1 hw2
    have e1 : ((max l1.length l2.length : Nat) : Int) = (if ((l2.map PV.int).length : Int) > ((l1.map PV.int).length : Int) then ((l2.map PV.int).length : Int) else ((l1.map PV.int).length : Int)) := by rw [iteN, List.length_map, List.length_map]
    have key := lbc_mid (Q := Q) (M := M) rfl h1 h2 g1 g2 k1 k2 hq
    rw [e1] at key
    exact ⟨rfl, key⟩
end Fl

end

section
set_option exponentiation.threshold 2000
namespace Fl
open PySem PySem.Spec PyProof.Rows L2
theorem great_loop {a : Addr} {D : FEnds} {x1 : Option EV} : ∀ (n : Nat) (lo : Int) (w : Int) (j : Nat) (x3 : Option EV) (M : Sto), okS M a → 0 ≤ w ∧ w < 100000007 ^ j → j + n ≤ 6 →
    (∀ (w : Int) x3 M, 0 ≤ w → w < 100000007 ^ 6 → okS M a → D.nx [some (.v (.cell a)), x1, some (.v (.int w)), x3] M) →
    foP (gN 3) w__law_great_1 D (rng lo n) [some (.v (.cell a)), x1, some (.v (.int w)), x3] M
  | 0, lo, w, j, x3, M, hM, hw, hj, q => by
    have : (100000007 : Int) ^ j ≤ 100000007 ^ 6 := ipow_right (by omega) (by omega)
    exact q w x3 M hw.1 (by omega) hM
  | n + 1, lo, w, j, x3, M, hM, hw, hj, q => by
    refine ⟨mul_r (by omega) (by omega), hM, ⟨by omega, by omega⟩, fun r M' h0 h1 hM' => ?_⟩
    refine great_loop n (lo + 1) (w * 100000007 + r) (j + 1) _ M' hM' ⟨by omega, ?_⟩ (by omega) q
    rw [Int.pow_succ]
    have : (w + 1) * 100000007 ≤ 100000007 ^ j * 100000007 := Int.mul_le_mul_of_nonneg_right (by omega) (by omega)
    omega
theorem l__law_great : ∀ args M Q, sp__law_great args M Q → args.length = 1 ∧ b__law_great (fE Q) (fr0 3 args) M := fun args M Q h => by
  match args, h with
  | [.cell a], ⟨hM, hq⟩ =>
    refine ⟨rfl, hM, ⟨by omega, by omega⟩, fun r M1 h0 h1 hM1 => ⟨fun _ => ⟨hM1, ⟨by omega, by omega⟩, fun r2 M2 g0 g1 hM2 => hq r2 M2 g0 (by omega) hM2⟩, fun _ => ⟨fun _ => ⟨hM1, ⟨by omega, by omega⟩, fun r2 M2 g0 g1 hM2 => hq r2 M2 g0 (by omega) hM2⟩, fun _ => ⟨hM1, ⟨by omega, by omega⟩, fun r2 M2 g0 g1 hM2 => ⟨⟨by omega, by omega⟩, ?_⟩⟩⟩⟩⟩
    exact great_loop (D := { fE Q with nx := fun f M => sRet (eV 2) (fE Q) f M }) (1 + r2).toNat 0 0 0 none M2 hM2 ⟨Int.le_refl _, by rw [Int.pow_zero]; omega⟩ (by omega) fun w x3 M k0 k1 hM3 => hq w M k0 (by omega) hM3
theorem rng_range : ∀ (n : Nat) (lo : Nat), rng (lo : Int) n = (List.range n).map fun i => PV.int (((lo + i : Nat) : Int))
  | 0, _ => rfl
  | n + 1, lo => by
    rw [rng, List.range_succ_eq_map, List.map_cons, List.map_map, show (lo : Int) + 1 = ((lo + 1 : Nat) : Int) by omega, rng_range n (lo + 1)]
    congr 1
    refine List.map_congr_left fun i _ => ?_
    show PV.int (((lo + 1 + i : Nat) : Int)) = PV.int (((lo + (i + 1) : Nat) : Int))
    rw [show lo + 1 + i = lo + (i + 1) by omega]
theorem rng0 (n : Nat) : rng 0 n = (List.range n).map fun (i : Nat) => PV.int (i : Int) := by
  have := rng_range n 0
  simpa using this
theorem eqEmpty (k : PV → Prop) (M : Sto) (h : k (.bl true)) : eqA M (.v (.lst [])) (.v (.lst [])) k := ⟨⟨rfl, rfl⟩, h⟩
/-- none of the numbers below n is kept -/
theorem lcP_none {g : FG} {mt : FT} {me : FE} {fw : Fm} {M : Sto} {Q : List PV → Sto → Prop} {n : Nat}
    (h : ∀ i : Nat, i < n → ∀ (K1 : PV → Sto → Prop) (K0 : Sto → Prop), K0 M → g (.int (i : Int)) fw fun f2 => mt f2 M fun b M2 => (b = true → me f2 M2 fun y M3 => match y with
      | .v p => K1 p M3
      | .b _ => False) ∧ (b = false → K0 M2))
    (q : Q [] M) : lcP g mt me fw (rng 0 n) [] M Q := by
  rw [rng0]
  refine lcP_run (fun _ => none) (List.range n) [] (fun d hd K1 K0 _ h0 => h d (List.mem_range.mp hd) K1 K0 (h0 rfl)) ?_
  rw [show (List.range n).filterMap (fun _ => (none : Option PV)) = [] by induction List.range n with
    | nil => rfl
    | cons a l ih => rw [List.filterMap_cons]; exact ih]
  exact q
theorem atP {xs : List PV} {k : Nat} (h : k < xs.length) : atI xs (k : Int) = some xs[k] := atI_nat (List.getElem?_eq_getElem h)
theorem okD_str (s : Str) (h : PyData.strOk s = true) : okE (.v (.str s)) := by
  show okD (.str s)
  unfold okD SeqAt.shaped
  rw [toD, PyData.canLay0, PyData.depth, h]
  rfl
theorem l__law_same (n : Nat) : ∀ args M Q, spr__law_same (n + 1) args M Q → args.length = 2 ∧ b__law_same (spr__law_same n) (fE Q) (fr0 1 args) M := fun args M Q h => by
  match args, h with
  | [x, y], ⟨e, hs, hq⟩ =>
    subst e
    have hz := line1
    refine ⟨rfl, ?_⟩
    cases x with
    | non => 
      refine ⟨trivial, trivial, fun h => ?_, fun _ => ⟨trivial, trivial, fun h => ?_, fun _ => ⟨fun _ => hq, fun h => ?_⟩⟩⟩
      · cases h
      · cases h
      · cases h
    | bl b =>
      refine ⟨trivial, trivial, fun h => ?_, fun _ => ⟨trivial, trivial, fun h => ?_, fun _ => ⟨fun h => ?_, fun _ => ⟨trivial, trivial, fun _ => ⟨trivial, trivial, fun _ => ⟨⟨rfl, rfl⟩, ?_⟩, fun h => ?_⟩, fun h => ?_⟩⟩⟩⟩
      · cases h
      · cases h
      · cases h
      · show Q (.bl (eqv (.bl b) (.bl b))) M
        cases b <;> exact hq
      · cases h
      · cases h
    | int i =>
      refine ⟨trivial, trivial, fun h => ?_, fun _ => ⟨trivial, trivial, fun h => ?_, fun _ => ⟨fun h => ?_, fun _ => ⟨trivial, trivial, fun h => ?_, fun _ => ⟨trivial, trivial, fun _ => ⟨trivial, trivial, fun _ => ⟨trivial, trivial, trivial, fun _ => ?_, fun h => ?_⟩, fun h => ?_⟩, fun h => ?_⟩⟩⟩⟩⟩
      · cases h
      · cases h
      · cases h
      · cases h
      · show Q (.bl (decide (i = i))) M
        rw [decide_eq_true rfl]
        exact hq
      · cases h
      · cases h
      · cases h
    | str s =>
      refine ⟨trivial, trivial, fun h => ?_, fun _ => ⟨trivial, trivial, fun h => ?_, fun _ => ⟨fun h => ?_, fun _ => ⟨trivial, trivial, fun h => ?_, fun _ => ⟨trivial, trivial, fun h => ?_, fun _ => ⟨trivial, trivial, fun _ => ⟨⟨okD_str s hs, okD_str s hs⟩, ?_⟩, fun h => ?_⟩⟩⟩⟩⟩⟩
      · cases h
      · cases h
      · cases h
      · cases h
      · cases h
      · show Q (.bl (eqv (.str s) (.str s))) M
        rw [show eqv (.str s) (.str s) = true by rw [eqv]; exact beq_self_eq_true s]
        exact hq
      · cases h
    | tup xs =>
      obtain ⟨hl, hx⟩ := hs
      have hlen : -(2 ^ 62) ≤ (xs.length : Int) ∧ (xs.length : Int) < 2 ^ 62 := by omega
      refine ⟨trivial, trivial, fun _ => ⟨trivial, trivial, fun h => ?_, fun _ => ⟨fun h => ?_, fun _ => ⟨hlen, by rw [rng_length]; omega, lcP_none (fun i hi K1 K0 k0 => ?_) ⟨⟨rfl, rfl⟩, hq⟩⟩⟩⟩, fun h => ?_⟩
      · cases h
      · have h := eqN (nT h)
        exact absurd rfl h
      · have hi : i < xs.length := by omega
        exact ⟨xs[i], atP hi, xs[i], atP hi, rfl, hx _ (List.getElem_mem hi), trivial, fun h => (nomatch h), fun _ => k0⟩
      · cases h
    | lst xs =>
      obtain ⟨hl, hx⟩ := hs
      have hlen : -(2 ^ 62) ≤ (xs.length : Int) ∧ (xs.length : Int) < 2 ^ 62 := by omega
      refine ⟨trivial, trivial, fun h => ?_, fun _ => ⟨trivial, trivial, fun _ => ⟨trivial, trivial, fun h => ?_, fun _ => ⟨fun h => ?_, fun _ => ⟨hlen, by rw [rng_length]; omega, lcP_none (fun i hi K1 K0 k0 => ?_) ⟨⟨rfl, rfl⟩, hq⟩⟩⟩⟩, fun h => ?_⟩⟩
      · cases h
      · cases h
      · have h := eqN (nT h)
        exact absurd rfl h
      · have hi : i < xs.length := by omega
        exact ⟨xs[i], atP hi, xs[i], atP hi, rfl, hx _ (List.getElem_mem hi), trivial, fun h => (nomatch h), fun _ => k0⟩
      · cases h
    | fro xs => exact hs.elim
    | cell b => exact hs.elim
    | xtp xs => exact hs.elim
theorem l__law_all_same : ∀ args M Q, sp__law_all_same args M Q → args.length = 1 ∧ b__law_all_same (fE Q) (fr0 1 args) M := fun args M Q h => by
  match args, h with
  | [.lst rows], ⟨ps, hr, hl, hp, hq⟩ =>
    subst hr
    have hz := line1
    refine ⟨rfl, ⟨by rw [List.length_map]; omega, by rw [List.length_map]; omega⟩, by rw [rng_length, List.length_map]; omega, lcP_none (fun i hi K1 K0 k0 => ?_) ⟨⟨rfl, rfl⟩, hq⟩⟩
    rw [List.length_map] at hi
    have hi : i < ps.length := by omega
    have e := hp ps[i] (List.getElem_mem hi)
    have a1 : atI (ps.map fun p => PV.tup [p.1, p.2]) (i : Int) = some (.tup [ps[i].1, ps[i].2]) := atI_nat (by simp [hi])
    exact ⟨_, a1, _, rfl, _, a1, _, rfl, e.1, e.2, trivial, fun h => (nomatch h), fun _ => k0⟩
theorem same_ints (l : List Int) (h : l.length ≤ 100000) : sameOk 6 (lInts l) ∧ sameOk 6 (pInts l) := by
  have : ∀ x ∈ l.map PV.int, sameOk 5 x := fun x hx => by
    obtain ⟨d, _, e⟩ := List.mem_map.mp hx
    rw [← e]
    exact trivial
  exact ⟨⟨by rw [List.length_map]; exact h, this⟩, ⟨by rw [List.length_map]; exact h, this⟩⟩
theorem l__law_kept : ∀ args M Q, sp__law_kept args M Q → args.length = 2 ∧ b__law_kept (fE Q) (fr0 1 args) M := fun args M Q h => by
  match args, h with
  | [.lst hands, .lst copies], ⟨ls, h1, h2, hl, hp, hq⟩ =>
    subst h1 h2
    have hz := line1
    refine ⟨rfl, ⟨by rw [List.length_map]; omega, by rw [List.length_map]; omega⟩, by rw [rng_length, List.length_map]; omega, lcP_none (fun i hi K1 K0 k0 => ?_) ⟨⟨rfl, rfl⟩, hq⟩⟩
    rw [List.length_map] at hi
    have hi : i < ls.length := by omega
    have e := same_ints ls[i] (hp _ (List.getElem_mem hi))
    have a1 : atI (ls.map lInts) (i : Int) = some (lInts ls[i]) := atI_nat (by simp [hi])
    have a2 : atI (ls.map pInts) (i : Int) = some (pInts ls[i]) := atI_nat (by simp [hi])
    exact ⟨_, a1, _, a2, rfl, e.1, trivial, fun h => (nomatch h), fun _ => k0⟩
end Fl

end

section
set_option exponentiation.threshold 2000
namespace Fl
open PySem PySem.Spec PyProof.Rows L2
/-- rows whose two sides are one and the same -/
def Good (R : List PV) : Prop := ∃ ps : List (PV × PV), R = ps.map (fun p => .tup [p.1, p.2]) ∧ ∀ p ∈ ps, p.1 = p.2 ∧ sameOk 6 p.1
theorem Good.nil : Good [] := ⟨[], rfl, fun p h => (nomatch h)⟩
theorem Good.app {R S : List PV} (h : Good R) (h' : Good S) : Good (R ++ S) := by
  obtain ⟨ps, e, q⟩ := h
  obtain ⟨ps', e', q'⟩ := h'
  refine ⟨ps ++ ps', by rw [e, e', List.map_append], fun p hp => ?_⟩
  rcases List.mem_append.mp hp with z | z
  · exact q p z
  · exact q' p z
theorem Good.row {x y : PV} {S : List PV} (e : x = y) (ok : sameOk 6 x) (h : Good S) : Good (.tup [x, y] :: S) := by
  obtain ⟨ps, e', q⟩ := h
  refine ⟨(x, y) :: ps, by rw [e']; rfl, fun p hp => ?_⟩
  rcases List.mem_cons.mp hp with z | z
  · rw [z]; exact ⟨e, ok⟩
  · exact q p z
theorem Good.call {R : List PV} {Q : PV → Sto → Prop} {M : Sto} (h : Good R) (hl : R.length ≤ 1000) (hq : Q (.bl true) M) : sp__law_all_same [.lst R] M Q := by
  obtain ⟨ps, e, q⟩ := h
  refine ⟨ps, e, ?_, q, hq⟩
  rw [e, List.length_map] at hl
  omega
theorem ok_pInts {l : List Int} (h : l.length ≤ 100000) : sameOk 5 (pInts l) := ⟨by rw [List.length_map]; exact h, fun x hx => by
  obtain ⟨d, _, e⟩ := List.mem_map.mp hx
  rw [← e]
  exact trivial⟩
theorem ok_pInts6 {l : List Int} (h : l.length ≤ 100000) : sameOk 6 (pInts l) := (same_ints l h).2
theorem BB_200 {x : Int} (h : x ≤ 2 ^ 800) : x < BB := by
  have : (2 : Int) ^ 800 < 2 ^ 1000 := by decide
  unfold BB
  omega
theorem BB_401 {x : Int} (h : x < 2 ^ 401) : x < BB := BB_200 (by
  have : (2 : Int) ^ 401 ≤ 2 ^ 800 := by decide
  omega)
theorem mulG {x y : Int} (hx : 0 ≤ x ∧ x < 2 ^ 200) (hy : 0 ≤ y ∧ y < 2 ^ 200) : IntMulOk x y ∧ 0 ≤ x * y ∧ x * y < 2 ^ 400 := by
  refine ⟨mul_b (K := 200) (by omega) (by omega) (by omega), Int.mul_nonneg hx.1 hy.1, ?_⟩
  have h1 : x * y ≤ 2 ^ 200 * y := Int.mul_le_mul_of_nonneg_right (by omega) hy.1
  have h2 : (2 : Int) ^ 200 * y < 2 ^ 200 * 2 ^ 200 := Int.mul_lt_mul_of_pos_left hy.2 (by decide)
  have h3 : (2 : Int) ^ 200 * 2 ^ 200 = 2 ^ 400 := by rw [← Int.pow_add]
  omega
section
variable {a : Addr} {b c n m f : Int} {s : Nat} {M : Sto} {Q : PV → Sto → Prop} {x16 : Option EV}
/-- max(n, m), min(n, m) as they come -/
abbrev mxI (n m : Int) : Int := if m > n then m else n
abbrev mnI (n m : Int) : Int := if m < n then m else n
/-- the frame of _law_plain_right behind its first lines -/
abbrev own0 (b n m : Int) (s : Nat) : List (List Int) := [digs b n, digs b m, digs b (mxI n m), digs b (mnI n m), digs (b ^ s) n]
abbrev fpl (a : Addr) (b c n m f : Int) (s : Nat) (x14 x15 x16 : Option EV) : Fm :=
  [some (.v (.cell a)), some (.v (.int b)), some (.v (.int c)), some (.v (.int n)), some (.v (.int m)), some (.v (.int f)), some (.v (.int (s : Int))), some (.v (.lst ((own0 b n m s).map pInts))), some (.v (.lst ((own0 b n m s).map lInts))),
    some (.v (lInts (digs b n))), some (.v (lInts (digs b m))), some (.v (lInts (digs b (mxI n m)))), some (.v (lInts (digs b (mnI n m)))), some (.v (lInts (digs (b ^ s) n))), x14, x15, x16]
abbrev dueP (b n m : Int) : PV := .tup [.str "sum", pInts (digs b n), pInts (digs b m), pInts (carL b (digs b n) (digs b m)), pInts (digs b (n + m))]
structure PR (b c n m f : Int) (s : Nat) : Prop where
  b1 : 2 ≤ b
  b2 : b ≤ 1000
  c1 : 2 ≤ c
  c2 : c ≤ 1000
  n1 : 0 ≤ n
  n2 : n < 2 ^ 200
  m1 : 0 ≤ m
  m2 : m < 2 ^ 200
  f1 : 0 ≤ f
  f2 : f < 2 ^ 200
  s1 : 1 ≤ s
  s2 : s ≤ 5
theorem PR.B (h : PR b c n m f s) : 2 ≤ b ^ s ∧ b ^ s < 2 ^ 100 := by
  have h1 := ipow_right (show 1 ≤ b by have := h.b1; omega) h.s1
  rw [Int.pow_succ, Int.pow_zero, Int.one_mul] at h1
  have h2 : b ^ s ≤ 1000 ^ s := ipow_left (by have := h.b1; omega) h.b2 s
  have h3 : (1000 : Int) ^ s ≤ 1000 ^ 5 := ipow_right (by omega) h.s2
  have := h.b1
  constructor
  · omega
  · have : (1000 : Int) ^ 5 < 2 ^ 100 := by decide
    omega
theorem mm_ok (h : PR b c n m f s) : 0 ≤ mxI n m ∧ mxI n m < 2 ^ 200 ∧ 0 ≤ mnI n m ∧ mnI n m < 2 ^ 200 ∧ mnI n m ≤ mxI n m := by
  obtain ⟨b1, b2, c1, c2, n1, n2, m1, m2, f1, f2, s1, s2⟩ := h
  unfold mxI mnI
  split <;> split <;> omega
theorem digs200 {b n : Int} (hb : 2 ≤ b) (h1 : 0 ≤ n) (h2 : n < 2 ^ 200) : (digs b n).length ≤ 200 := digs_len hb h1 h2
theorem pl11 (h : PR b c n m f s) {R : List PV} (hg : Good R) (hl : R.length ≤ 100) {x14 : Option EV} (hq : Q (.bl true) M) : t__law_plain_right_11 (fE Q) (fpl a b c n m f s x14 (some (.v (.lst R))) x16) M := by
  have hb := h.B
  obtain ⟨ps, e, q⟩ := hg
  refine ⟨ps, e, by rw [e, List.length_map] at hl; omega, q, trivial, fun _ => ⟨own0 b n m s, rfl, rfl, by show 5 ≤ 1000; omega, fun l hl => ?_, hq⟩, fun h => ?_⟩
  · have mm := mm_ok h
    have k1 := digs200 h.b1 h.n1 h.n2
    have k2 := digs200 h.b1 h.m1 h.m2
    have k3 := digs200 (n := mxI n m) h.b1 mm.1 mm.2.1
    have k4 := digs200 (n := mnI n m) h.b1 mm.2.2.1 mm.2.2.2.1
    have k5 := digs200 (b := b ^ s) hb.1 h.n1 h.n2
    have : l = digs b n ∨ l = digs b m ∨ l = digs b (mxI n m) ∨ l = digs b (mnI n m) ∨ l = digs (b ^ s) n := by simpa using hl
    rcases this with e | e | e | e | e <;> rw [e] <;> omega
  · cases h
theorem digs_zero {b : Int} : digs b 0 = [] := by
  unfold digs
  rw [lowd_zero (Int.le_refl _)]
  rfl
theorem pl10 (h : PR b c n m f s) {R : List PV} (hg : Good R) (hl : R.length ≤ 50) {x14 : Option EV} (hq : Q (.bl true) M) : t__law_plain_right_10 (fE Q) (fpl a b c n m f s x14 (some (.v (.lst R))) x16) M := by
  have hz := line1
  have hb := h.B
  obtain ⟨b1, b2, c1, c2, n1, n2, m1, m2, f1, f2, s1, s2⟩ := h
  have k1 := digs200 b1 n1 n2
  have w1 := digs_ok (b := b) b1 n1
  have v1 := digs_val (b := b) b1 n1
  have B1 : n < BB := BB_401 (by omega)
  have B2 : 2 * n < BB := BB_401 (by omega)
  have e1 : pInts (digs b (valL b (digs b n) + valL b (digs b n))) = pInts (digs b (2 * n)) := by rw [v1, show n + n = 2 * n by omega]
  have e2 : pInts (digs b (valL b (digs b n) - valL b (digs b n))) = .tup [] := by rw [Int.sub_self, digs_zero]; rfl
  have k2 : (digs b (2 * n)).length ≤ 1000 := digs_len b1 (by omega) (BB_nat B2)
  refine ⟨digs b n, digs b n, .inr rfl, .inr rfl, ⟨by omega, by omega, b1, b2, w1, w1⟩, _, rfl, mul_l (by omega) (by omega), ⟨b1, by omega, by omega, B2⟩, digs b n, digs b n, .inr rfl, .inr rfl, ⟨by omega, by omega, b1, b2, w1, w1, Int.le_refl _, by rw [v1]; exact B1⟩, ?_⟩
  refine ⟨by show R.length + 2 ≤ sizeLine; omega, pl11 ⟨b1, b2, c1, c2, n1, n2, m1, m2, f1, f2, s1, s2⟩ (hg.app (.row e1 (by rw [e1]; exact ok_pInts6 (by omega)) (.row e2 (by rw [e2]; exact ok_pInts6 (l := []) (by show 0 ≤ 100000; omega)) .nil))) (by rw [List.length_append]; show R.length + 2 ≤ 100; omega) hq⟩
theorem pl9 (h : PR b c n m f s) {R : List PV} (hg : Good R) (hl : R.length ≤ 40) {x14 : Option EV} (hq : Q (.bl true) M) : t__law_plain_right_9 (fE Q) (fpl a b c n m f s x14 (some (.v (.lst R))) x16) M := by
  have hz := line1
  have hb := h.B
  have h' := h
  obtain ⟨b1, b2, c1, c2, n1, n2, m1, m2, f1, f2, s1, s2⟩ := h
  have k1 := digs200 b1 n1 n2
  have k2 := digs200 c1 n1 n2
  have k3 := digs200 hb.1 n1 n2
  have w1 := digs_ok (b := b) b1 n1
  have w3 := digs_ok (b := b ^ s) hb.1 n1
  have v1 := digs_val (b := b) b1 n1
  have v3 := digs_val (b := b ^ s) hb.1 n1
  have B1 : n < BB := BB_401 (by omega)
  have e1 : pInts (digs c (valL b (digs b n))) = pInts (digs c n) := by rw [v1]
  have e2 : pInts (digs (b ^ (s : Int).toNat) (valL b (digs b n))) = pInts (digs (b ^ s) n) := by rw [v1, Int.toNat_natCast]
  have e3 : pInts (digs b (valL (b ^ (s : Int).toNat) (digs (b ^ s) n))) = pInts (digs b n) := by rw [Int.toNat_natCast, v3]
  refine ⟨digs b n, .inr rfl, ⟨by omega, b1, b2, c1, c2, w1, by rw [v1]; exact B1⟩, ⟨c1, by omega, n1, B1⟩, digs b n, .inr rfl, ⟨by omega, b1, b2, by omega, by omega, w1⟩, _, rfl, digs (b ^ s) n, .inr rfl, ⟨by omega, b1, b2, by omega, by omega, by rw [Int.toNat_natCast]; exact w3⟩, _, rfl, ?_⟩
  refine ⟨by show R.length + 3 ≤ sizeLine; omega, pl10 h' (hg.app (.row e1 (by rw [e1]; exact ok_pInts6 (by omega)) (.row e2 (by rw [e2]; exact ok_pInts6 (by omega)) (.row e3 (by rw [e3]; exact ok_pInts6 (by omega)) .nil)))) (by rw [List.length_append]; show R.length + 3 ≤ 50; omega) hq⟩
theorem scr_length (b f : Int) : ∀ (c : Int) (xs : List Int), (scr b f c xs).length = xs.length
  | c, [] => rfl
  | c, x :: xs => by rw [scr, List.length_cons, List.length_cons, scr_length b f _ xs]
theorem pl8 (h : PR b c n m f s) {R : List PV} (hg : Good R) (hl : R.length ≤ 30) {x14 : Option EV} (hq : Q (.bl true) M) : t__law_plain_right_8 (fE Q) (fpl a b c n m f s x14 (some (.v (.lst R))) x16) M := by
  have hz := line1
  have h' := h
  obtain ⟨b1, b2, c1, c2, n1, n2, m1, m2, f1, f2, s1, s2⟩ := h
  have k1 := digs200 b1 n1 n2
  have w1 := digs_ok (b := b) b1 n1
  have v1 := digs_val (b := b) b1 n1
  have g := mulG ⟨n1, n2⟩ ⟨f1, f2⟩
  have B1 : f < BB := BB_401 (by omega)
  have B2 : n * f < BB := BB_401 (by omega)
  have k2 : (digs b (n * f)).length ≤ 1000 := digs_len b1 g.2.1 (BB_nat B2)
  have e1 : PV.tup [pInts (0 :: scr b f 0 (digs b n).reverse), pInts (digs b (valL b (digs b n) * f))] = .tup [pInts (0 :: scr b f 0 (digs b n).reverse), pInts (digs b (n * f))] := by rw [v1]
  have ok : sameOk 6 (.tup [pInts (0 :: scr b f 0 (digs b n).reverse), pInts (digs b (n * f))]) := ⟨by show 2 ≤ 100000; omega, fun x hx => by
    have : x = pInts (0 :: scr b f 0 (digs b n).reverse) ∨ x = pInts (digs b (n * f)) := by simpa using hx
    rcases this with e | e <;> rw [e]
    · exact ok_pInts (by rw [List.length_cons, scr_length, List.length_reverse]; omega)
    · exact ok_pInts (by omega)⟩
  refine ⟨digs b n, .inr rfl, ⟨by omega, b1, b2, w1, f1, B1⟩, _, rfl, digs b n, rfl, ⟨b1, b2, by omega, w1.1⟩, g.1, ⟨b1, by omega, g.2.1, B2⟩, ?_⟩
  exact ⟨by show R.length + 1 ≤ sizeLine; omega, pl9 h' (hg.app (.row e1 (by rw [e1]; exact ok) .nil)) (by rw [List.length_append]; show R.length + 1 ≤ 40; omega) hq⟩
theorem carL_length (b : Int) (l1 l2 : List Int) : (carL b l1 l2).length = max l1.length l2.length + 1 := by
  unfold carL
  rw [List.length_cons, crs_length, List.length_reverse, pad_length (by omega)]
  rw [List.length_reverse, List.length_reverse, pad_length (by omega), pad_length (by omega)]
theorem str_ok : PyData.strOk "sum" = true := by decide +kernel
theorem pl7 (h : PR b c n m f s) {R : List PV} (hg : Good R) (hl : R.length ≤ 20) (hq : Q (.bl true) M) : t__law_plain_right_7 (fE Q) (fpl a b c n m f s (some (.v (dueP b n m))) (some (.v (.lst R))) x16) M := by
  have hz := line1
  have mm := mm_ok h
  have h' := h
  obtain ⟨b1, b2, c1, c2, n1, n2, m1, m2, f1, f2, s1, s2⟩ := h
  have k1 := digs200 b1 n1 n2
  have k2 := digs200 b1 m1 m2
  have k3 := digs200 b1 mm.1 mm.2.1
  have k4 := digs200 b1 mm.2.2.1 mm.2.2.2.1
  have w1 := digs_ok (b := b) b1 n1
  have w2 := digs_ok (b := b) b1 m1
  have w3 := digs_ok (b := b) b1 mm.1
  have w4 := digs_ok (b := b) b1 mm.2.2.1
  have v1 := digs_val (b := b) b1 n1
  have v2 := digs_val (b := b) b1 m1
  have v3 := digs_val (b := b) b1 mm.1
  have v4 := digs_val (b := b) b1 mm.2.2.1
  have B1 : ∀ x : Int, x < 2 ^ 201 → x < BB := fun x hx => BB_401 (by omega)
  have k5 : (digs b (n + m)).length ≤ 1000 := digs_len b1 (by omega) (BB_nat (B1 _ (by omega)))
  have k6 : (digs b (mxI n m - mnI n m)).length ≤ 1000 := digs_len b1 (by omega) (BB_nat (B1 _ (by omega)))
  have e1 : PV.tup [.str "sum", pInts (digs b n), pInts (digs b m), pInts (carL b (digs b n) (digs b m)), pInts (digs b (valL b (digs b n) + valL b (digs b m)))] = dueP b n m := by rw [v1, v2]
  have ok : sameOk 6 (dueP b n m) := ⟨by show 5 ≤ 100000; omega, fun x hx => by
    have : x = .str "sum" ∨ x = pInts (digs b n) ∨ x = pInts (digs b m) ∨ x = pInts (carL b (digs b n) (digs b m)) ∨ x = pInts (digs b (n + m)) := by simpa using hx
    rcases this with e | e | e | e | e <;> rw [e]
    · exact str_ok
    · exact ok_pInts (by omega)
    · exact ok_pInts (by omega)
    · exact ok_pInts (by rw [carL_length]; omega)
    · exact ok_pInts (by omega)⟩
  have dd0 : 0 ≤ mxI n m - mnI n m := by omega
  have dd1 : mxI n m - mnI n m < BB := B1 _ (by omega)
  have e2 : pInts (digs b (valL b (digs b (mxI n m)) - valL b (digs b (mnI n m)))) = pInts (digs b (mxI n m - mnI n m)) := by rw [v3, v4]
  have e3 : PV.int (sgn (valL b (digs b n)) (valL b (digs b m))) = .int (sgn n m) := by rw [v1, v2]
  refine ⟨digs b n, digs b m, .inr rfl, .inr rfl, ⟨by omega, by omega, b1, b2, w1, w2⟩, digs b (mxI n m), digs b (mnI n m), .inr rfl, .inr rfl, ⟨by omega, by omega, b1, b2, w3, w4, by rw [v3, v4]; exact mm.2.2.2.2, by rw [v3]; exact B1 _ (by omega)⟩, ⟨b1, by omega, dd0, dd1⟩, digs b n, digs b m, b, .inr rfl, .inr rfl, ⟨by omega, by omega, b1, w1, w2⟩, ?_⟩
  exact ⟨by show R.length + 3 ≤ sizeLine; omega, pl8 h' (hg.app (.row e1 (by rw [e1]; exact ok) (.row e2 (by rw [e2]; exact ok_pInts6 (by omega)) (.row e3 trivial .nil)))) (by rw [List.length_append]; show R.length + 3 ≤ 30; omega) hq⟩
theorem areD_no {b d : Int} {l : List Int} (h : d = 0 ∨ b ≤ d) : areD b (d :: l) = false := by
  cases e : areD b (d :: l) with
  | false => rfl
  | true =>
    have w := areD_iff.mp e
    have h1 := w.1 d (by simp)
    have h2 := w.2 d l rfl
    omega
theorem pl6 (h : PR b c n m f s) (hq : Q (.bl true) M) : t__law_plain_right_6 (fE Q) (fpl a b c n m f s (some (.v (dueP b n m))) none x16) M := by
  have hz := line1
  have h' := h
  obtain ⟨b1, b2, c1, c2, n1, n2, m1, m2, f1, f2, s1, s2⟩ := h
  have k1 := digs200 b1 n1 n2
  have w1 := digs_ok (b := b) b1 n1
  have v1 := digs_val (b := b) b1 n1
  have e1 : PV.int (valL b (digs b n)) = .int n := by rw [v1]
  have e2 : PV.bl (areD b (digs b n)) = .bl true := by rw [areD_iff.mpr w1]
  have e3 : PV.bl (areD b (0 :: digs b n)) = .bl false := by rw [areD_no (.inl rfl)]
  have e4 : PV.bl (areD b (b :: digs b n)) = .bl false := by rw [areD_no (.inr (Int.le_refl _))]
  have hl2 : [PV.int 0].length + ((digs b n).map PV.int).length ≤ sizeLine := by rw [List.length_map, List.length_singleton]; omega
  have hl3 : [PV.int b].length + ((digs b n).map PV.int).length ≤ sizeLine := by rw [List.length_map, List.length_singleton]; omega
  refine ⟨digs b n, .inr rfl, ⟨by omega, by omega⟩, digs b n, .inr rfl, by omega, hl2, 0 :: digs b n, .inr rfl, by rw [List.length_cons]; omega, hl3, b :: digs b n, .inr rfl, by rw [List.length_cons]; omega, ?_⟩
  exact pl7 h' (.row e1 trivial (.row e2 trivial (.row e3 trivial (.row e4 trivial .nil)))) (by show 4 ≤ 20; omega) hq
theorem pl5 (h : PR b c n m f s) (hq : Q (.bl true) M) : t__law_plain_right_5 (fE Q) (fpl a b c n m f s none none x16) M := by
  have hz := line1
  have h' := h
  obtain ⟨b1, b2, c1, c2, n1, n2, m1, m2, f1, f2, s1, s2⟩ := h
  have k1 := digs200 b1 n1 n2
  have k2 := digs200 b1 m1 m2
  have B1 : n + m < BB := BB_401 (by omega)
  exact ⟨_, rfl, _, rfl, _, rfl, _, rfl, digs b n, digs b m, rfl, rfl, ⟨b1, b2, by omega, by omega, (digs_ok b1 n1).1, (digs_ok b1 m1).1⟩, ⟨b1, by omega, by omega, B1⟩, pl6 h' hq⟩
theorem pl2 (h : PR b c n m f s) (hq : Q (.bl true) M) : t__law_plain_right_2 (fE Q) [some (.v (.cell a)), some (.v (.int b)), some (.v (.int c)), some (.v (.int n)), some (.v (.int m)), some (.v (.int f)), some (.v (.int (s : Int))), none, none, none, none, none, none, none, none, none, none] M := by
  have hz := line1
  have mm := mm_ok h
  have hb := h.B
  have h' := h
  obtain ⟨b1, b2, c1, c2, n1, n2, m1, m2, f1, f2, s1, s2⟩ := h
  have B1 : ∀ x : Int, x < 2 ^ 201 → x < BB := fun x hx => BB_401 (by omega)
  have mx1 : mxI n m < BB := B1 _ (by omega)
  have mx2 : mnI n m < BB := B1 _ (by omega)
  have t3 : t__law_plain_right_3 (fE Q) [some (.v (.cell a)), some (.v (.int b)), some (.v (.int c)), some (.v (.int n)), some (.v (.int m)), some (.v (.int f)), some (.v (.int (s : Int))), some (.v (.lst ((own0 b n m s).map pInts))), none, none, none, none, none, none, none, none, none] M := by
    refine ⟨by show 5 ≤ sizeLine; omega, lcP_all (ι := pInts) (l := own0 b n m s) lInts (fun l hl K1 K0 k => ⟨fun _ => k, fun h => ?_⟩) ?_⟩
    · cases h
    · exact ⟨rfl, pl5 h' hq⟩
  refine ⟨⟨b1, by omega, n1, B1 _ (by omega)⟩, ⟨b1, by omega, m1, B1 _ (by omega)⟩, ⟨b1, by omega, mm.1, mx1⟩, ⟨b1, by omega, mm.2.2.1, mx2⟩, ⟨by omega, b2, by omega, by omega⟩, ⟨hb.1, hb.2, n1, B1 _ (by omega)⟩, ?_⟩
  exact t3
end
theorem l__law_plain_right : ∀ args M Q, sp__law_plain_right args M Q → args.length = 1 ∧ b__law_plain_right (fE Q) (fr0 16 args) M := fun args M Q h => by
  match args, h with
  | [.cell a], ⟨hM, hq⟩ =>
    refine ⟨rfl, hM, ⟨by omega, by omega⟩, fun r M1 h0 h1 hM1 => ⟨hM1, ⟨by omega, by omega⟩, fun i M2 i0 i1 hM2 => ?_⟩⟩
    have pick : ∃ b : Int, 2 ≤ b ∧ b ≤ 1000 ∧ atI [PV.int 2, PV.int 10, PV.int (2 + r)] i = some (.int b) := by
      have : i = 0 ∨ i = 1 ∨ i = 2 := by omega
      rcases this with e | e | e <;> subst e
      · exact ⟨2, by omega, by omega, rfl⟩
      · exact ⟨10, by omega, by omega, rfl⟩
      · exact ⟨2 + r, by omega, by omega, rfl⟩
    obtain ⟨b, b1, b2, hb⟩ := pick
    refine ⟨.int b, hb, hM2, ⟨by omega, by omega⟩, fun c M3 c0 c1 hM3 => ?_⟩
    refine ⟨hM3, fun n M4 n0 n1 hM4 => ⟨hM4, fun m M5 m0 m1 hM5 => ⟨hM5, fun f M6 f0 f1 hM6 => ⟨hM6, ⟨by omega, by omega⟩, fun s M7 s0 s1 hM7 => ⟨rfl, ?_⟩⟩⟩⟩⟩
    have key := pl2 (a := a) (M := M7) (Q := Q) (s := (1 + s).toNat) ⟨b1, b2, (by omega : 2 ≤ 2 + c), by omega, n0, n1, m0, m1, f0, f1, by omega, by omega⟩ (hq M7 hM7)
    rw [show (((1 + s).toNat : Nat) : Int) = 1 + s by omega] at key
    exact key
end Fl

end

section
set_option exponentiation.threshold 2000
namespace Fl
open PySem PySem.Spec PyProof.Rows L2
section
variable {a : Addr} {b n m : Int} {M : Sto} {Q : PV → Sto → Prop} {x11 : Option EV}
structure OR1 (b n m : Int) : Prop where
  b1 : 2 ≤ b
  b2 : b ≤ 1000
  n1 : 1 ≤ n
  n2 : n < 2 ^ 201
  m1 : 0 ≤ m
  m2 : m < 2 ^ 201
abbrev fon (a : Addr) (b n m : Int) (x8 x9 x10 x11 : Option EV) : Fm :=
  [some (.v (.cell a)), some (.v (.int b)), some (.v (.int n)), some (.v (.int m)), some (.v (.lst [pInts (ones b n), pInts (ones b m)])), some (.v (.lst [lInts (ones b n), lInts (ones b m)])), some (.v (lInts (ones b n))), some (.v (lInts (ones b m))), x8, x9, x10, x11]
theorem ones201 (hb : 2 ≤ b) (h1 : 0 ≤ n) (h2 : n < 2 ^ 401) : (ones b n).length ≤ 401 := ones_len hb h1 h2
theorem repT (k : Nat) (d : Int) : PV.tup (List.replicate (((k : Nat) : Int)).toNat [PV.int d]).flatten = pInts (List.replicate k d) := by
  rw [flatR, Int.toNat_natCast]
  rfl
theorem mulOk (k : Nat) (h : k ≤ 100000) : (-(2 ^ 62) ≤ (k : Int) ∧ (k : Int) < 2 ^ 62) ∧ 1 * (k : Int).toNat ≤ sizeLine := by
  have := line1
  rw [Int.toNat_natCast]
  omega
theorem or10 (h : OR1 b n m) {R : List PV} (hg : Good R) (hl : R.length ≤ 100) (hq : Q (.bl true) M) :
    t__law_ones_right_10 (fE Q) (fon a b n m (some (.v (.lst R))) (some (.v (lInts (List.replicate (ones b n).length b)))) (some (.v (lInts (List.replicate (ones b n).length 1)))) x11) M := by
  have hz := line1
  obtain ⟨b1, b2, n1, n2, m1, m2⟩ := h
  have k1 := ones201 b1 (show 0 ≤ n by omega) (by omega)
  have k2 := ones201 b1 m1 (by omega)
  obtain ⟨ps, e, q⟩ := hg
  have ml := mulOk (((ones b n).map PV.int).length) (by rw [List.length_map]; omega)
  have r1 := repT (((ones b n).map PV.int).length) b
  have r2 := repT (((ones b n).map PV.int).length) 1
  rw [List.length_map] at r1 r2
  refine ⟨ps, e, by rw [e, List.length_map] at hl; omega, q, trivial, fun _ => ⟨by show 4 ≤ sizeLine; omega, ml, ml, by show 4 ≤ sizeLine; omega, [ones b n, ones b m, List.replicate (ones b n).length b, List.replicate (ones b n).length 1], rfl, ?_, by show 4 ≤ 1000; omega, fun l hl => ?_, hq⟩, fun h => ?_⟩
  · show [pInts (ones b n), pInts (ones b m), PV.tup (List.replicate ((((ones b n).map PV.int).length : Nat) : Int).toNat [PV.int b]).flatten, PV.tup (List.replicate ((((ones b n).map PV.int).length : Nat) : Int).toNat [PV.int 1]).flatten] = [pInts (ones b n), pInts (ones b m), pInts (List.replicate (ones b n).length b), pInts (List.replicate (ones b n).length 1)]
    rw [List.length_map, r1, r2]
  · have : l = ones b n ∨ l = ones b m ∨ l = List.replicate (ones b n).length b ∨ l = List.replicate (ones b n).length 1 := by simpa using hl
    rcases this with e | e | e | e <;> rw [e]
    · omega
    · omega
    · rw [List.length_replicate]; omega
    · rw [List.length_replicate]; omega
  · cases h
theorem rep_dig {b d : Int} (h : 1 ≤ d ∧ d ≤ b) (k : Nat) : okD1 1 b (List.replicate k d) := fun x hx => by
  have := List.eq_of_mem_replicate hx
  omega
theorem or9 (h : OR1 b n m) {R : List PV} (hg : Good R) (hl : R.length ≤ 50) (hq : Q (.bl true) M) :
    t__law_ones_right_9 (fE Q) (fon a b n m (some (.v (.lst R))) (some (.v (lInts (List.replicate (ones b n).length b)))) (some (.v (lInts (List.replicate (ones b n).length 1)))) x11) M := by
  have hz := line1
  have h' := h
  obtain ⟨b1, b2, n1, n2, m1, m2⟩ := h
  have k1 := ones201 b1 (show 0 ≤ n by omega) (by omega)
  have kp : 1 ≤ (ones b n).length := by
    cases e : ones b n with
    | nil =>
      have v := ones_val b1 (show 0 ≤ n by omega)
      rw [e] at v
      have v : (0 : Int) = n := v
      omega
    | cons d r => rw [List.length_cons]; omega
  generalize hk : (ones b n).length = k at *
  have hk2 : ((ones b n).map PV.int).length = k := by rw [List.length_map, hk]
  have d1 : okD1 1 b (List.replicate k b) := rep_dig ⟨by omega, Int.le_refl _⟩ k
  have d2 : okD1 1 b (List.replicate k 1) := rep_dig ⟨by omega, by omega⟩ k
  have e1 : pInts (ones b (valL b (List.replicate k b) + 1)) = PV.tup (List.replicate ((((ones b n).map PV.int).length : Nat) + 1 : Int).toNat [PV.int 1]).flatten := by
    rw [fol_all, hk2, show ((k : Nat) : Int) + 1 = ((k + 1 : Nat) : Int) by omega, repT, repS, ← ones_of b1 (rep_dig ⟨by omega, by omega⟩ (k + 1))]
  have e2 : pInts (ones b (valL b (List.replicate k 1) - 1)) = PV.tup (List.replicate ((((ones b n).map PV.int).length : Nat) - 1 : Int).toNat [PV.int b]).flatten := by
    have : valL b (List.replicate k 1) - 1 = valL b (List.replicate (k - 1) b) := by
      have := fol_all b (k - 1)
      rw [repS, show k - 1 + 1 = k by omega] at this
      omega
    rw [this, hk2, show ((k : Nat) : Int) - 1 = ((k - 1 : Nat) : Int) by omega, repT, ← ones_of b1 (rep_dig ⟨by omega, Int.le_refl _⟩ (k - 1))]
  have c1 : ((-(2 ^ 62) ≤ ((((ones b n).map PV.int).length : Nat) + 1 : Int) ∧ ((((ones b n).map PV.int).length : Nat) + 1 : Int) < 2 ^ 62) ∧ 1 * ((((ones b n).map PV.int).length : Nat) + 1 : Int).toNat ≤ sizeLine) := by
    rw [hk2, show ((k : Nat) : Int) + 1 = ((k + 1 : Nat) : Int) by omega]
    exact mulOk _ (by omega)
  have c2 : ((-(2 ^ 62) ≤ ((((ones b n).map PV.int).length : Nat) - 1 : Int) ∧ ((((ones b n).map PV.int).length : Nat) - 1 : Int) < 2 ^ 62) ∧ 1 * ((((ones b n).map PV.int).length : Nat) - 1 : Int).toNat ≤ sizeLine) := by
    rw [hk2, show ((k : Nat) : Int) - 1 = ((k - 1 : Nat) : Int) by omega]
    exact mulOk _ (by omega)
  have o1 : sameOk 6 (pInts (ones b (valL b (List.replicate k b) + 1))) := by
    rw [fol_all, repS, ← ones_of b1 (rep_dig ⟨by omega, by omega⟩ (k + 1))]
    exact ok_pInts6 (by rw [List.length_replicate]; omega)
  have o2 : sameOk 6 (pInts (ones b (valL b (List.replicate k 1) - 1))) := by
    have : valL b (List.replicate k 1) - 1 = valL b (List.replicate (k - 1) b) := by
      have := fol_all b (k - 1)
      rw [repS, show k - 1 + 1 = k by omega] at this
      omega
    rw [this, ← ones_of b1 (rep_dig ⟨by omega, Int.le_refl _⟩ (k - 1))]
    exact ok_pInts6 (by rw [List.length_replicate]; omega)
  have key := or10 (a := a) (x11 := x11) h' (hg.app (.row e1 o1 (.row e2 o2 .nil))) (by rw [List.length_append]; show R.length + 2 ≤ 100; omega) hq
  rw [hk] at key
  refine ⟨List.replicate k b, .inr rfl, ⟨b1, b2, by rw [List.length_replicate]; omega, d1⟩, c1, List.replicate k 1, .inr rfl, ⟨b1, b2, by rw [List.length_replicate]; omega, d2, fun z => ?_⟩, c2, by show R.length + 2 ≤ sizeLine; omega, key⟩
  have := congrArg List.length z
  rw [List.length_replicate] at this
  simp at this
  omega
theorem or8 (h : OR1 b n m) {R : List PV} (hg : Good R) (hl : R.length ≤ 50) (hq : Q (.bl true) M) : t__law_ones_right_8 (fE Q) (fon a b n m (some (.v (.lst R))) none none x11) M := by
  have hz := line1
  have h' := h
  obtain ⟨b1, b2, n1, n2, m1, m2⟩ := h
  have k1 := ones201 b1 (show 0 ≤ n by omega) (by omega)
  have ml := mulOk (((ones b n).map PV.int).length) (by rw [List.length_map]; omega)
  have r : ∀ d : Int, lInts (List.replicate (ones b n).length d) = PV.lst (List.replicate ((((ones b n).map PV.int).length : Nat) : Int).toNat [PV.int d]).flatten := fun d => by
    rw [flatR, Int.toNat_natCast, List.length_map]
    rfl
  have key := or9 (a := a) (x11 := x11) h' hg hl hq
  rw [r, r] at key
  exact ⟨ml, ml, key⟩
theorem or7 (h : OR1 b n m) {R : List PV} (hg : Good R) (hl : R.length ≤ 40) (hq : Q (.bl true) M) : t__law_ones_right_7 (fE Q) (fon a b n m (some (.v (.lst R))) none none x11) M := by
  have hz := line1
  have h' := h
  obtain ⟨b1, b2, n1, n2, m1, m2⟩ := h
  have k1 := ones201 b1 (show 0 ≤ n by omega) (by omega)
  have k2 := ones201 b1 m1 (by omega)
  have k3 := ones201 (n := n + m) b1 (by omega) (by omega)
  have w1 := ones_dig b1 (show 0 ≤ n by omega)
  have w2 := ones_dig b1 m1
  have v1 := ones_val b1 (show 0 ≤ n by omega)
  have v2 := ones_val b1 m1
  have e1 : pInts (ones b (valL b (ones b n) + valL b (ones b m))) = pInts (ones b (n + m)) := by rw [v1, v2]
  have e2 : PV.int (sgn (valL b (ones b n)) (valL b (ones b m))) = .int (sgn n m) := by rw [v1, v2]
  have e3 : PV.int (sgn (valL b (ones b n)) (valL b (ones b n))) = .int 0 := by
    unfold sgn
    rw [if_neg (by omega), if_neg (by omega)]
  refine ⟨ones b n, ones b m, .inr rfl, .inr rfl, ⟨by omega, by omega, b1, b2, w1, w2⟩, ⟨b1, b2, by omega, BB_401 (by omega)⟩, ones b n, ones b m, b, .inr rfl, .inr rfl, ⟨by omega, by omega, b1, w1, w2⟩, ones b n, ones b n, b, .inr rfl, .inr rfl, ⟨by omega, by omega, b1, w1, w1⟩, ?_⟩
  exact ⟨by show R.length + 3 ≤ sizeLine; omega, or8 h' (hg.app (.row e1 (by rw [e1]; exact ok_pInts6 (by omega)) (.row e2 trivial (.row e3 trivial .nil)))) (by rw [List.length_append]; show R.length + 3 ≤ 50; omega) hq⟩
theorem or6 (h : OR1 b n m) {R : List PV} (hg : Good R) (hl : R.length ≤ 30) (hq : Q (.bl true) M) : t__law_ones_right_6 (fE Q) (fon a b n m (some (.v (.lst R))) none none x11) M := by
  have hz := line1
  have h' := h
  obtain ⟨b1, b2, n1, n2, m1, m2⟩ := h
  have k1 := ones201 b1 (show 0 ≤ n by omega) (by omega)
  have k2 := ones201 b1 m1 (by omega)
  have k3 := ones201 (n := n + 1) b1 (by omega) (by omega)
  have k4 := ones201 (n := m + 1) b1 (by omega) (by omega)
  have k5 := ones201 (n := n - 1) b1 (by omega) (by omega)
  have w1 := ones_dig b1 (show 0 ≤ n by omega)
  have w2 := ones_dig b1 m1
  have v1 := ones_val b1 (show 0 ≤ n by omega)
  have v2 := ones_val b1 m1
  have e1 : pInts (ones b (valL b (ones b n) + 1)) = pInts (ones b (n + 1)) := by rw [v1]
  have e2 : pInts (ones b (valL b (ones b m) + 1)) = pInts (ones b (m + 1)) := by rw [v2]
  have e3 : pInts (ones b (valL b (ones b n) - 1)) = pInts (ones b (n - 1)) := by rw [v1]
  have hne : ones b n ≠ [] := fun e => by
    rw [e] at v1
    have v1 : (0 : Int) = n := v1
    omega
  refine ⟨ones b n, .inr rfl, ⟨b1, b2, by omega, w1⟩, ⟨b1, b2, by omega, BB_401 (by omega)⟩, ones b m, .inr rfl, ⟨b1, b2, by omega, w2⟩, ⟨b1, b2, by omega, BB_401 (by omega)⟩, ones b n, .inr rfl, ⟨b1, b2, by omega, w1, hne⟩, ⟨b1, b2, by omega, BB_401 (by omega)⟩, ?_⟩
  exact ⟨by show R.length + 3 ≤ sizeLine; omega, or7 h' (hg.app (.row e1 (by rw [e1]; exact ok_pInts6 (by omega)) (.row e2 (by rw [e2]; exact ok_pInts6 (by omega)) (.row e3 (by rw [e3]; exact ok_pInts6 (by omega)) .nil)))) (by rw [List.length_append]; show R.length + 3 ≤ 40; omega) hq⟩
theorem or5 (h : OR1 b n m) (hq : Q (.bl true) M) : t__law_ones_right_5 (fE Q) (fon a b n m none none none x11) M := by
  have hz := line1
  have h' := h
  obtain ⟨b1, b2, n1, n2, m1, m2⟩ := h
  have k1 := ones201 b1 (show 0 ≤ n by omega) (by omega)
  have k2 := ones201 b1 m1 (by omega)
  have w1 := ones_dig b1 (show 0 ≤ n by omega)
  have w2 := ones_dig b1 m1
  have v1 := ones_val b1 (show 0 ≤ n by omega)
  have v2 := ones_val b1 m1
  have e1 : PV.int (valL b (ones b n)) = .int n := by rw [v1]
  have e2 : PV.int (valL b (ones b m)) = .int m := by rw [v2]
  have e3 : PV.bl (areO b (ones b n)) = .bl true := by rw [areO_iff.mpr w1]
  have e4 : PV.bl (areO b (ones b n ++ [0])) = .bl false := by
    cases e : areO b (ones b n ++ [0]) with
    | false => rfl
    | true =>
      have := areO_iff.mp e 0 (by simp)
      omega
  have hl2 : ((ones b n).map PV.int).length + [PV.int 0].length ≤ sizeLine := by rw [List.length_map, List.length_singleton]; omega
  have hw : isW (.lst ((ones b n).map PV.int ++ [PV.int 0])) (ones b n ++ [0]) := .inr (by rw [mapI])
  refine ⟨ones b n, .inr rfl, ⟨b1, b2, by omega, w1⟩, ones b m, .inr rfl, ⟨b1, b2, by omega, w2⟩, ones b n, .inr rfl, by omega, hl2, ones b n ++ [0], hw, by rw [List.length_append, List.length_singleton]; omega, ?_⟩
  exact or6 h' (.row e1 trivial (.row e2 trivial (.row e3 trivial (.row e4 trivial .nil)))) (by show 4 ≤ 30; omega) hq
theorem or2 (h : OR1 b n m) (hq : Q (.bl true) M) : t__law_ones_right_2 (fE Q) [some (.v (.cell a)), some (.v (.int b)), some (.v (.int n)), some (.v (.int m)), none, none, none, none, none, none, none, none] M := by
  have hz := line1
  have h' := h
  obtain ⟨b1, b2, n1, n2, m1, m2⟩ := h
  have t3 : t__law_ones_right_3 (fE Q) [some (.v (.cell a)), some (.v (.int b)), some (.v (.int n)), some (.v (.int m)), some (.v (.lst ([ones b n, ones b m].map pInts))), none, none, none, none, none, none, none] M := by
    refine ⟨by show 2 ≤ sizeLine; omega, lcP_all (ι := pInts) (l := [ones b n, ones b m]) lInts (fun l hl K1 K0 k => ⟨fun _ => k, fun h => ?_⟩) ?_⟩
    · cases h
    · exact ⟨rfl, or5 h' hq⟩
  exact ⟨⟨b1, b2, by omega, BB_401 (by omega)⟩, ⟨b1, b2, by omega, BB_401 (by omega)⟩, t3⟩
end
theorem l__law_ones_right : ∀ args M Q, sp__law_ones_right args M Q → args.length = 1 ∧ b__law_ones_right (fE Q) (fr0 11 args) M := fun args M Q h => by
  match args, h with
  | [.cell a], ⟨hM, hq⟩ =>
    refine ⟨rfl, hM, ⟨by omega, by omega⟩, fun r M1 h0 h1 hM1 => ⟨hM1, ⟨by omega, by omega⟩, fun i M2 i0 i1 hM2 => ?_⟩⟩
    have pick : ∃ b : Int, 2 ≤ b ∧ b ≤ 1000 ∧ atI [PV.int 2, PV.int 26, PV.int (2 + r)] i = some (.int b) := by
      have : i = 0 ∨ i = 1 ∨ i = 2 := by omega
      rcases this with e | e | e <;> subst e
      · exact ⟨2, by omega, by omega, rfl⟩
      · exact ⟨26, by omega, by omega, rfl⟩
      · exact ⟨2 + r, by omega, by omega, rfl⟩
    obtain ⟨b, b1, b2, hb⟩ := pick
    refine ⟨.int b, hb, hM2, fun n M4 n0 n1 hM4 => ⟨hM4, fun m M5 m0 m1 hM5 => ?_⟩⟩
    exact or2 (a := a) (M := M5) (Q := Q) ⟨b1, b2, (by omega : 1 ≤ 1 + n), by omega, m0, by omega⟩ (hq M5 hM5)
end Fl

end

section
set_option exponentiation.threshold 2000
namespace Fl
open PySem PySem.Spec PyProof.Rows L2
/-- a comprehension whose turns draw from the source -/
theorem lcP_dem {a : Addr} {g : FG} {mt : FT} {me : FE} {fw : Fm} {P : Int → Prop} (h : ∀ (i : Int) (M : Sto), okS M a → ∀ (K1 : PV → Sto → Prop) (K0 : Sto → Prop), (∀ (d : Int) (M' : Sto), P d → okS M' a → K1 (.int d) M') → g (.int i) fw fun f2 => mt f2 M fun b M2 => (b = true → me f2 M2 fun y M3 => match y with
      | .v p => K1 p M3
      | .b _ => False) ∧ (b = false → K0 M2)) : ∀ (n : Nat) (lo : Int) (acc : List PV) (M : Sto) (Q : List PV → Sto → Prop), okS M a → (∀ (l : List Int) (M' : Sto), l.length = n → (∀ d ∈ l, P d) → okS M' a → Q (acc ++ l.map .int) M') → lcP g mt me fw (rng lo n) acc M Q
  | 0, lo, acc, M, Q, hM, q => by
    have := q [] M rfl (fun d hd => (nomatch hd)) hM
    rw [List.map_nil, List.append_nil] at this
    exact this
  | n + 1, lo, acc, M, Q, hM, q => by
    refine h lo M hM (fun p M3 => lcP g mt me fw (rng (lo + 1) n) (acc ++ [p]) M3 Q) (fun M2 => lcP g mt me fw (rng (lo + 1) n) acc M2 Q) fun d M' hd hM' => ?_
    refine lcP_dem h n (lo + 1) (acc ++ [.int d]) M' Q hM' fun l M2 hl hp hM2 => ?_
    have := q (d :: l) M2 (by rw [List.length_cons, hl]) (fun x hx => by
      rcases List.mem_cons.mp hx with z | z
      · rw [z]; exact hd
      · exact hp x z) hM2
    rw [List.append_assoc]
    exact this
/-- the places behind a digit not 0 that hold one not 0 -/
def bsd1 (g : List Int) : List Int := (List.range (g.length - 1)).filterMap fun i => if (!decide (g.getD (i + 1) 0 = 0) && !decide (g.getD i 0 = 0)) = true then some (((1 + i : Nat) : Int)) else none
theorem apart_range : ∀ g : List Int, apart g = (List.range (g.length - 1)).all fun i => !(!decide (g.getD i 0 = 0) && !decide (g.getD (i + 1) 0 = 0))
  | [] => rfl
  | [x] => rfl
  | x :: y :: r => by
    rw [apart, apart_range (y :: r)]
    show _ = (List.range (r.length + 1)).all _
    rw [List.range_succ_eq_map, List.all_cons, List.all_map]
    rfl
theorem bsd_empty (g : List Int) : (bsd1 g).isEmpty = apart g := by
  rw [apart_range]
  unfold bsd1
  generalize List.range (g.length - 1) = l
  induction l with
  | nil => rfl
  | cons i l ih =>
    rw [List.filterMap_cons, List.all_cons]
    by_cases h : (!decide (g.getD (i + 1) 0 = 0) && !decide (g.getD i 0 = 0)) = true
    · rw [if_pos h]
      have h2 : (!decide (g.getD i 0 = 0) && !decide (g.getD (i + 1) 0 = 0)) = true := by
        rw [Bool.and_comm]
        exact h
      rw [h2]
      rfl
    · rw [if_neg h]
      have h2 : (!decide (g.getD i 0 = 0) && !decide (g.getD (i + 1) 0 = 0)) = false := by
        rw [Bool.and_comm]
        exact Bool.eq_false_iff.mpr h
      rw [h2]
      exact ih
theorem okD_lints (l : List Int) : okD (.lst (l.map .int)) := by
  unfold okD SeqAt.shaped
  rw [toD, PyData.canLay0, PyData.depth, (lay_ints l).1, (lay_ints l).2]
  rfl
theorem eqv_emptyL (l : List Int) : eqv (.lst (l.map .int)) (.lst []) = l.isEmpty := by
  rw [eqv]
  cases l <;> rfl
theorem eqv_emptyT (l : List Int) : eqv (.tup (l.map .int)) (.tup []) = l.isEmpty := by
  rw [eqv]
  cases l <;> rfl
theorem okD_nilL : okD (.lst []) := okD_lints []
theorem okD_nilT : okD (.tup []) := okD_ints []
section
variable {a : Addr} {s o n m hf p : Int} {w g : List Int} {M : Sto} {Q : PV → Sto → Prop} {x18 x19 x20 x21 : Option EV}
structure SR (s o n m hf p : Int) (w g : List Int) : Prop where
  s1 : 2 ≤ s
  s2 : s ≤ 1000
  o1 : 3 ≤ o
  o2 : o ≤ 999
  o3 : o % 2 ≠ 0
  n1 : -(2 ^ 200) < n
  n2 : n < 2 ^ 200
  m1 : -(2 ^ 200) < m
  m2 : m < 2 ^ 200
  hf1 : hf = o / 2
  p1 : 0 ≤ p
  p2 : p ≤ w.length
  w1 : w.length ≤ 5
  w2 : ∀ d ∈ w, -hf ≤ d ∧ d ≤ hf
  g1 : g.length ≤ 4
  g2 : ∀ d ∈ g, -1 ≤ d ∧ d ≤ 1
abbrev fsg (a : Addr) (s o n m hf p : Int) (w g : List Int) (x15 x16 x17 x18 x19 x20 x21 : Option EV) : Fm :=
  [some (.v (.cell a)), some (.v (.int s)), some (.v (.int o)), some (.v (.int n)), some (.v (.int m)), some (.v (.int hf)), some (.v (.xtp (w.map .int))), some (.v (.int p)), some (.v (pInts g)),
    some (.v (.lst [pInts (bel s n), pInts (bel s m), pInts w, pInts g])), some (.v (.lst [lInts (bel s n), lInts (bel s m), lInts w, lInts g])), some (.v (lInts (bel s n))), some (.v (lInts (bel s m))), some (.v (lInts w)), some (.v (lInts g)), x15, x16, x17, x18, x19, x20, x21]
theorem bel_len (hs : 2 ≤ s) (h1 : -(2 ^ 201) < n) (h2 : n < 2 ^ 201) : (bel s n).length ≤ 203 := by
  unfold bel
  rw [List.length_reverse]
  exact lowb_len hs 201 (by omega)
theorem sr15 (h : SR s o n m hf p w g) {R : List PV} (hg : Good R) (hl : R.length ≤ 100) {x15 x16 : Option EV} (hq : Q (.bl true) M) : t__law_signed_right_15 (fE Q) (fsg a s o n m hf p w g x15 x16 (some (.v (.lst R))) x18 x19 x20 x21) M := by
  obtain ⟨ps, e, q⟩ := hg
  have k1 := bel_len h.s1 (show -(2 ^ 201) < n by have := h.n1; omega) (by have := h.n2; omega)
  have k2 := bel_len h.s1 (show -(2 ^ 201) < m by have := h.m1; omega) (by have := h.m2; omega)
  have k3 := h.w1
  have k4 := h.g1
  refine ⟨ps, e, by rw [e, List.length_map] at hl; omega, q, trivial, fun _ => ⟨[bel s n, bel s m, w, g], rfl, rfl, by show 4 ≤ 1000; omega, fun l hl => ?_, hq⟩, fun h => ?_⟩
  · have : l = bel s n ∨ l = bel s m ∨ l = w ∨ l = g := by simpa using hl
    rcases this with e | e | e | e <;> rw [e] <;> omega
  · cases h
theorem cnt_len : ∀ l : List Int, (l.countP fun d => !decide (d = 0)) + ((l.map PV.int).countP fun y => eqv y (.int 0)) = l.length
  | [] => rfl
  | d :: r => by
    rw [List.map_cons, List.countP_cons, List.countP_cons, List.length_cons, eqv_int]
    have := cnt_len r
    by_cases h : d = 0
    · simp only [h, decide_true, Bool.not_true, Bool.false_eq_true, if_false, if_true]
      omega
    · simp only [h, decide_false, Bool.not_false, Bool.false_eq_true, if_false, if_true]
      omega
theorem sr14 (h : SR s o n m hf p w g) {R : List PV} (hg : Good R) (hl : R.length ≤ 50) {x15 : Option EV} (hq : Q (.bl true) M) : t__law_signed_right_14 (fE Q) (fsg a s o n m hf p w g x15 (some (.v (lInts (bsd1 g)))) (some (.v (.lst R))) x18 x19 x20 x21) M := by
  have hz := line1
  have h' := h
  obtain ⟨s1, s2, o1, o2, o3, n1, n2, m1, m2, hf1, p1, p2, w1, w2, g1, g2⟩ := h
  have e1 : PV.int ((w.countP fun d => !decide (d = 0) : Nat) : Int) = .int ((((w.map PV.int).length : Nat) : Int) - ((w.map PV.int).countP fun y => eqv y (.int 0) : Nat)) := by
    have := cnt_len w
    rw [List.length_map]
    congr 1
    omega
  have fin : ∀ v : Bool, v = ((g.isEmpty || !decide (g.headD 0 = 0)) && apart g) → R.length + 2 ≤ sizeLine ∧ t__law_signed_right_15 (fE Q) (fsg a s o n m hf p w g x15 (some (.v (lInts (bsd1 g)))) (some (.v (.lst (R ++ [.tup [.int ((w.countP fun d => !decide (d = 0) : Nat) : Int), .int ((((w.map PV.int).length : Nat) : Int) - ((w.map PV.int).countP fun y => eqv y (.int 0) : Nat))], .tup [.bl ((g.isEmpty || !decide (g.headD 0 = 0)) && apart g), .bl v]])))) x18 x19 x20 x21) M := fun v e =>
    have e2 : PV.bl ((g.isEmpty || !decide (g.headD 0 = 0)) && apart g) = .bl v := by rw [e]
    ⟨by omega, sr15 h' (hg.app (.row e1 trivial (.row e2 trivial .nil))) (by rw [List.length_append]; show R.length + 2 ≤ 100; omega) hq⟩
  have be := bsd_empty g
  refine ⟨w, .inr rfl, by omega, ⟨okD_ints w, okD_int 0⟩, g, .inr rfl, ⟨by omega, g2⟩, ⟨okD_lints _, okD_nilL⟩, trivial, fun hb => ⟨⟨okD_ints g, okD_nilT⟩, trivial, fun hc => ?_, fun hc => ?_⟩, fun hb => ?_⟩
  · have hb : eqv (.lst ((bsd1 g).map .int)) (.lst []) = true := hb
    have hc' : eqv (.tup (g.map .int)) (.tup []) = true := hc
    rw [eqv_emptyL, be] at hb
    rw [eqv_emptyT] at hc'
    exact fin (eqv (.tup (g.map .int)) (.tup [])) (by rw [hb, hc', eqv_emptyT, hc']; rfl)
  · have hb : eqv (.lst ((bsd1 g).map .int)) (.lst []) = true := hb
    have hc' : eqv (.tup (g.map .int)) (.tup []) = false := hc
    rw [eqv_emptyL, be] at hb
    rw [eqv_emptyT] at hc'
    cases g with
    | nil => cases hc'
    | cons d r =>
      refine ⟨.int d, atI_nat (j := 0) rfl, fin (!decide (d = 0)) ?_⟩
      rw [hb, Bool.and_true]
      rfl
  · have hb' : eqv (.lst ((bsd1 g).map .int)) (.lst []) = false := hb
    rw [eqv_emptyL, be] at hb'
    exact fin (eqv (.lst ((bsd1 g).map .int)) (.lst [])) (by rw [eqv_emptyL, be, hb', Bool.and_false])
end
end Fl

end

section
set_option exponentiation.threshold 2000
namespace Fl
open PySem PySem.Spec PyProof.Rows L2
section
variable {a : Addr} {s o n m hf p : Int} {w g : List Int} {M : Sto} {Q : PV → Sto → Prop} {x18 x19 x20 x21 : Option EV}
theorem areB_ok {b : Int} {l : List Int} (h : ∀ d ∈ l, -(b / 2) ≤ d ∧ d ≤ b / 2) : areB b l = (l.isEmpty || !decide (l.headD 0 = 0)) := by
  unfold areB
  have : (l.any fun d => decide (b / 2 < if d < 0 then -d else d)) = false := by
    rw [List.any_eq_false]
    intro d hd
    have := h d hd
    simp only [decide_eq_true_eq]
    split <;> omega
  rw [this]
  rfl
theorem areB_no {b d : Int} {l : List Int} (h : b / 2 < d) (h0 : 0 ≤ d) : areB b (d :: l) = false := by
  unfold areB
  rw [List.any_cons, show decide (b / 2 < if d < 0 then -d else d) = true from decide_eq_true (by rw [if_neg (by omega)]; exact h)]
  rfl
theorem sr13 (h : SR s o n m hf p w g) {R : List PV} (hg : Good R) (hl : R.length ≤ 40) {x15 : Option EV} (hq : Q (.bl true) M) : t__law_signed_right_13 (fE Q) (fsg a s o n m hf p w g x15 (some (.v (lInts (bsd1 g)))) (some (.v (.lst R))) x18 x19 x20 x21) M := by
  have hz := line1
  have h' := h
  obtain ⟨s1, s2, o1, o2, o3, n1, n2, m1, m2, hf1, p1, p2, w1, w2, g1, g2⟩ := h
  subst hf1
  have e1 := areB_ok w2
  have e2 : PV.bl (areB o ((o / 2 + 1) :: w)) = .bl false := by rw [areB_no (by omega) (by omega)]
  have hl2 : [PV.int (o / 2 + 1)].length + (w.map PV.int).length ≤ sizeLine := by rw [List.length_map, List.length_singleton]; omega
  have fin : ∀ v : Bool, v = (w.isEmpty || !decide (w.headD 0 = 0)) → sp_are_balanced [.int o, .lst ([PV.int (o / 2 + 1)] ++ w.map .int)] M (fun x M1 => R.length + 2 ≤ sizeLine ∧ t__law_signed_right_14 (fE Q) (fsg a s o n m (o / 2) p w g x15 (some (.v (lInts (bsd1 g)))) (some (.v (.lst (R ++ [.tup [.bl (areB o w), .bl v], .tup [x, .bl false]])))) x18 x19 x20 x21) M1) := fun v e => by
    have e3 : PV.bl (areB o w) = .bl v := by rw [e1, e]
    exact ⟨(o / 2 + 1) :: w, .inr rfl, ⟨by rw [List.length_cons]; omega, o1, o2, o3⟩, by omega, sr14 h' (hg.app (.row e3 trivial (.row e2 trivial .nil))) (by rw [List.length_append]; show R.length + 2 ≤ 50; omega) hq⟩
  refine ⟨w, .inr rfl, ⟨by omega, o1, o2, o3⟩, ⟨okD_ints w, okD_nilT⟩, trivial, fun hc => ⟨hl2, ?_⟩, fun hc => ?_⟩
  · have hc' : eqv (.tup (w.map .int)) (.tup []) = true := hc
    rw [eqv_emptyT] at hc'
    exact fin (eqv (.tup (w.map .int)) (.tup [])) (by rw [eqv_emptyT, hc']; rfl)
  · have hc' : eqv (.tup (w.map .int)) (.tup []) = false := hc
    rw [eqv_emptyT] at hc'
    cases w with
    | nil => cases hc'
    | cons d r => exact ⟨.int d, atI_nat (j := 0) rfl, hl2, fin (!decide (d = 0)) rfl⟩
theorem sr12 (h : SR s o n m hf p w g) {R : List PV} (hg : Good R) (hl : R.length ≤ 30) {x15 : Option EV} (hq : Q (.bl true) M) : t__law_signed_right_12 (fE Q) (fsg a s o n m hf p w g x15 (some (.v (lInts (bsd1 g)))) (some (.v (.lst R))) x18 x19 x20 x21) M := by
  have hz := line1
  have h' := h
  obtain ⟨s1, s2, o1, o2, o3, n1, n2, m1, m2, hf1, p1, p2, w1, w2, g1, g2⟩ := h
  have e1 : pInts (w.map fun d => -d) = .tup (w.map fun d => PV.int (0 - d)) := by
    unfold pInts
    rw [List.map_map]
    congr 1
    refine List.map_congr_left fun d _ => ?_
    show PV.int (-d) = _
    rw [Int.zero_sub]
  have e2 : pInts (w.take (w.length - p.toNat)) = .tup (cut (w.map PV.int) none (some ((((w.map PV.int).length : Nat) : Int) - p))) := by
    rw [show (((w.map PV.int).length : Nat) : Int) - p = ((w.length - p.toNat : Nat) : Int) by rw [List.length_map]; omega, cutTo _ _ (by omega)]
    rfl
  refine ⟨w, .inr rfl, by omega, by rw [List.length_map]; omega, lcP_all (fun d : Int => .int (0 - d)) (fun d hd K1 K0 k => ⟨fun _ => k, fun h => ?_⟩) ⟨w, .inr rfl, ⟨p1, p2⟩, ?_⟩⟩
  · cases h
  · exact ⟨by show R.length + 2 ≤ sizeLine; omega, sr13 h' (hg.app (.row e1 (ok_pInts6 (by rw [List.length_map]; omega)) (.row e2 (ok_pInts6 (by rw [List.length_take]; omega)) .nil))) (by rw [List.length_append]; show R.length + 2 ≤ 40; omega) hq⟩
abbrev dueB (s n m : Int) : PV := .tup [.str "sum", pInts (bel s n), pInts (bel s m), pInts (0 :: ngc s 0 (bel s n).reverse (bel s m).reverse), pInts (bel s (n + m))]
theorem ngc_len (s : Int) : ∀ (c : Int) (xs ys : List Int), (ngc s c xs ys).length ≤ xs.length + ys.length + 2
  | c, [], [] => by
    rw [ngc]
    split
    · simp
    · split <;> simp
  | c, x :: xs, [] => by
    rw [ngc, List.length_cons, List.length_cons]
    have := ngc_len s (-((c + x + 0) / s)) xs []
    omega
  | c, [], y :: ys => by
    rw [ngc, List.length_cons, List.length_cons]
    have := ngc_len s (-((c + 0 + y) / s)) [] ys
    omega
  | c, x :: xs, y :: ys => by
    rw [ngc, List.length_cons, List.length_cons, List.length_cons]
    have := ngc_len s (-((c + x + y) / s)) xs ys
    omega
termination_by _ xs ys => xs.length + ys.length
decreasing_by all_goals (simp only [List.length_cons, List.length_nil]; omega)
theorem sr11 (h : SR s o n m hf p w g) (hq : Q (.bl true) M) : t__law_signed_right_11 (fE Q) (fsg a s o n m hf p w g (some (.v (dueB s n m))) (some (.v (lInts (bsd1 g)))) none x18 x19 x20 x21) M := by
  have hz := line1
  have h' := h
  obtain ⟨s1, s2, o1, o2, o3, n1, n2, m1, m2, hf1, p1, p2, w1, w2, g1, g2⟩ := h
  have z : -(0 - s) = s := by omega
  have z2 : 0 - s = -s := by omega
  have k1 := bel_len (n := n) s1 (by omega) (by omega)
  have k2 := bel_len (n := m) s1 (by omega) (by omega)
  have k3 := bel_len (n := n + m) s1 (by omega) (by omega)
  have wo1 := bel_ok (n := n) s1
  have wo2 := bel_ok (n := m) s1
  have e1 : PV.int (valL (0 - s) (bel s n)) = .int n := by rw [z2, bel_val s1]
  have e2 : PV.bl (areD (-(0 - s)) (bel s n)) = .bl true := by rw [z, areD_iff.mpr wo1]
  have e3 : PV.bl (areD (-(0 - s)) (0 :: bel s n)) = .bl false := by rw [areD_no (.inl rfl)]
  have e4 : PV.tup [.str "sum", pInts (bel s n), pInts (bel s m), pInts (0 :: ngc (-(0 - s)) 0 (bel s n).reverse (bel s m).reverse), pInts (bel (-(0 - s)) (valL (0 - s) (bel s n) + valL (0 - s) (bel s m)))] = dueB s n m := by
    rw [z, z2, bel_val s1, bel_val s1]
  have ok : sameOk 6 (dueB s n m) := ⟨by show 5 ≤ 100000; omega, fun x hx => by
    have : x = .str "sum" ∨ x = pInts (bel s n) ∨ x = pInts (bel s m) ∨ x = pInts (0 :: ngc s 0 (bel s n).reverse (bel s m).reverse) ∨ x = pInts (bel s (n + m)) := by simpa using hx
    rcases this with e | e | e | e | e <;> rw [e]
    · exact str_ok
    · exact ok_pInts (by omega)
    · exact ok_pInts (by omega)
    · have := ngc_len s 0 (bel s n).reverse (bel s m).reverse
      rw [List.length_reverse, List.length_reverse] at this
      exact ok_pInts (by rw [List.length_cons]; omega)
    · exact ok_pInts (by omega)⟩
  have hl2 : [PV.int 0].length + ((bel s n).map PV.int).length ≤ sizeLine := by rw [List.length_map, List.length_singleton]; omega
  refine ⟨bel s n, .inr rfl, ⟨by omega, by omega⟩, bel s n, .inr rfl, by omega, hl2, 0 :: bel s n, .inr rfl, by rw [List.length_cons]; omega, bel s n, bel s m, .inr rfl, .inr rfl, ⟨by omega, by omega, by omega, by omega, by rw [z]; exact wo1, by rw [z]; exact wo2⟩, ?_⟩
  exact sr12 h' (.row e1 trivial (.row e2 trivial (.row e3 trivial (.row e4 (by rw [e4]; exact ok) .nil)))) (by show 4 ≤ 30; omega) hq
theorem rng1 (n : Nat) : rng 1 n = (List.range n).map fun (i : Nat) => PV.int ((1 + i : Nat) : Int) := rng_range n 1
theorem sr10 (h : SR s o n m hf p w g) (hq : Q (.bl true) M) : t__law_signed_right_10 (fE Q) (fsg a s o n m hf p w g (some (.v (dueB s n m))) none none x18 x19 x20 x21) M := by
  have hz := line1
  have h' := h
  obtain ⟨s1, s2, o1, o2, o3, n1, n2, m1, m2, hf1, p1, p2, w1, w2, g1, g2⟩ := h
  have eN : ((((g.map PV.int).length : Nat) : Int) - 1).toNat = g.length - 1 := by rw [List.length_map]; omega
  have hr : (rng 1 ((((g.map PV.int).length : Nat) : Int) - 1).toNat) = (List.range (g.length - 1)).map fun (i : Nat) => PV.int ((1 + i : Nat) : Int) := by rw [eN, rng1]
  have body : ∀ (K : List PV → Sto → Prop), K ((bsd1 g).map .int) M → (rng 1 ((((g.map PV.int).length : Nat) : Int) - 1).toNat).length ≤ sizeLine ∧ lcP (gN 19) (tAnd2 (cB neA (e2 ixP (eV 8) (eV 19)) (eC (.int 0))) (cB neA (e2 ixP (eV 8) (e2 subA (eV 19) (eC (.int 1)))) (eC (.int 0)))) (eV 19) (wpF (fsg a s o n m hf p w g (some (.v (dueB s n m))) none none x18 x19 x20 x21) [19]) (rng 1 ((((g.map PV.int).length : Nat) : Int) - 1).toNat) [] M K := fun K hK => by
    rw [hr]
    refine ⟨by rw [List.length_map, List.length_range]; omega, lcP_run (fun i : Nat => if (!decide (g.getD (i + 1) 0 = 0) && !decide (g.getD i 0 = 0)) = true then some (PV.int ((1 + i : Nat) : Int)) else none) (List.range (g.length - 1)) [] (fun i hi K1 K0 k1 k0 => ?_) ?_⟩
    · have hi := List.mem_range.mp hi
      have a1 : atI (g.map PV.int) ((1 + i : Nat) : Int) = some (.int (g.getD (i + 1) 0)) := by rw [Nat.add_comm]; exact atD (by omega)
      have a2 : atI (g.map PV.int) (((1 + i : Nat) : Int) - 1) = some (.int (g.getD i 0)) := by rw [show ((1 + i : Nat) : Int) - 1 = (i : Int) by omega]; exact atD (by omega)
      refine ⟨.int (g.getD (i + 1) 0), a1, fun c1 => ⟨.int (g.getD i 0), a2, fun c2 => k1 _ ?_, fun c2 => k0 ?_⟩, fun c1 => ⟨fun h => ?_, fun _ => k0 ?_⟩⟩
      · have c1 : (!decide (g.getD (i + 1) 0 = 0)) = true := c1
        have c2 : (!decide (g.getD i 0 = 0)) = true := c2
        rw [c1, c2]
        rfl
      · have c2 : (!decide (g.getD i 0 = 0)) = false := c2
        rw [c2, Bool.and_false]
        rfl
      · cases h
      · have c1 : (!decide (g.getD (i + 1) 0 = 0)) = false := c1
        rw [c1, Bool.false_and]
        rfl
    · have e : (List.range (g.length - 1)).filterMap (fun i : Nat => if (!decide (g.getD (i + 1) 0 = 0) && !decide (g.getD i 0 = 0)) = true then some (PV.int ((1 + i : Nat) : Int)) else none) = (bsd1 g).map .int := by
        unfold bsd1
        rw [List.map_filterMap]
        congr 1
        funext i
        split <;> rfl
      rw [List.nil_append, e]
      exact hK
  refine ⟨⟨by omega, by omega, by rw [List.length_map]; omega, by rw [List.length_map]; omega⟩, ?_⟩
  exact body _ (sr11 h' hq)
theorem sr9 (h : SR s o n m hf p w g) (hq : Q (.bl true) M) : t__law_signed_right_9 (fE Q) (fsg a s o n m hf p w g none none none x18 x19 x20 x21) M := by
  have hz := line1
  have h' := h
  obtain ⟨s1, s2, o1, o2, o3, n1, n2, m1, m2, hf1, p1, p2, w1, w2, g1, g2⟩ := h
  have k1 := bel_len (n := n) s1 (by omega) (by omega)
  have k2 := bel_len (n := m) s1 (by omega) (by omega)
  have nb : (n + m).natAbs ≤ 2 ^ 1000 := by
    have : (2 : Nat) ^ 201 ≤ 2 ^ 1000 := Nat.pow_le_pow_right (by omega) (by omega)
    omega
  exact ⟨_, rfl, _, rfl, _, rfl, _, rfl, bel s n, bel s m, rfl, rfl, ⟨s1, by omega, by omega, by omega, (bel_ok s1).1, (bel_ok s1).1⟩, ⟨s1, by omega, nb⟩, sr10 h' hq⟩
theorem sr6 (h : SR s o n m hf p w g) (hq : Q (.bl true) M) : t__law_signed_right_6 (fE Q) [some (.v (.cell a)), some (.v (.int s)), some (.v (.int o)), some (.v (.int n)), some (.v (.int m)), some (.v (.int hf)), some (.v (.xtp (w.map .int))), some (.v (.int p)), some (.v (pInts g)), none, none, none, none, none, none, none, none, none, none, none, none, none] M := by
  have hz := line1
  have h' := h
  obtain ⟨s1, s2, o1, o2, o3, n1, n2, m1, m2, hf1, p1, p2, w1, w2, g1, g2⟩ := h
  have nb : ∀ x : Int, -(2 ^ 200) < x → x < 2 ^ 200 → x.natAbs ≤ 2 ^ 1000 := fun x h1 h2 => by
    have : (2 : Nat) ^ 200 ≤ 2 ^ 1000 := Nat.pow_le_pow_right (by omega) (by omega)
    omega
  have t7 : t__law_signed_right_7 (fE Q) [some (.v (.cell a)), some (.v (.int s)), some (.v (.int o)), some (.v (.int n)), some (.v (.int m)), some (.v (.int hf)), some (.v (.xtp (w.map .int))), some (.v (.int p)), some (.v (pInts g)), some (.v (.lst ([bel s n, bel s m, w, g].map pInts))), none, none, none, none, none, none, none, none, none, none, none, none] M := by
    refine ⟨by show 4 ≤ sizeLine; omega, lcP_all (ι := pInts) (l := [bel s n, bel s m, w, g]) lInts (fun l hl K1 K0 k => ⟨fun _ => k, fun h => ?_⟩) ?_⟩
    · cases h
    · exact ⟨rfl, sr9 h' hq⟩
  exact ⟨⟨s1, by omega, nb _ n1 n2⟩, ⟨s1, by omega, nb _ m1 m2⟩, t7⟩
end
theorem l__law_signed_right : ∀ args M Q, sp__law_signed_right args M Q → args.length = 1 ∧ b__law_signed_right (fE Q) (fr0 21 args) M := fun args M Q h => by
  match args, h with
  | [.cell a], ⟨hM, hq⟩ =>
    have hz := line1
    refine ⟨rfl, hM, ⟨by omega, by omega⟩, fun s M1 s0 s1 hM1 => ⟨hM1, ⟨by omega, by omega⟩, fun o M2 o0 o1 hM2 => ?_⟩⟩
    have sgn1 : ∀ (n r : Int), 0 ≤ n → n < 2 ^ 200 → 0 ≤ r → r < 2 → -(2 ^ 200) < n * (1 - 2 * r) ∧ n * (1 - 2 * r) < 2 ^ 200 := fun n r h0 h1 h2 h3 => by
      have : r = 0 ∨ r = 1 := by omega
      rcases this with e | e <;> subst e <;> omega
    refine ⟨mul_l (by omega) (by omega), rfl, hM2, fun n M3 n0 n1 hM3 => ⟨hM3, ⟨by omega, by omega⟩, fun r M4 r0 r1 hM4 => ⟨mul_l (by omega) (by omega), mul_r (by omega) (by omega), hM4, fun m M5 m0 m1 hM5 => ⟨hM5, ⟨by omega, by omega⟩, fun q M6 q0 q1 hM6 => ⟨mul_l (by omega) (by omega), mul_r (by omega) (by omega), dv (by omega) (by omega), hM6, ⟨by omega, by omega⟩, fun kw M7 kw0 kw1 hM7 => ⟨⟨by omega, by omega⟩, by rw [rng_length]; omega, ?_⟩⟩⟩⟩⟩⟩
    refine lcP_dem (P := fun d => -((3 + 2 * o) / 2) ≤ d ∧ d ≤ (3 + 2 * o) / 2) (fun i M hM K1 K0 k => ⟨fun _ => ⟨hM, ⟨by omega, by omega⟩, fun d M' d0 d1 hM' => k (d - (3 + 2 * o) / 2) M' ⟨by omega, by omega⟩ hM'⟩, fun h => (nomatch h)⟩) _ _ _ _ _ hM7 fun w M8 wl wd hM8 => ?_
    · have ew : ((((([] : List PV) ++ w.map PV.int).length : Nat) : Int) + 1) ≤ 6 := by rw [List.nil_append, List.length_map]; omega
      refine ⟨hM8, ⟨by omega, by omega⟩, fun p M9 p0 p1 hM9 => ⟨hM9, ⟨by omega, by omega⟩, fun kg M10 kg0 kg1 hM10 => ⟨⟨by omega, by omega⟩, by rw [rng_length]; omega, ?_⟩⟩⟩
      refine lcP_dem (P := fun d => -1 ≤ d ∧ d ≤ 1) (fun i M hM K1 K0 k => ⟨fun _ => ⟨hM, ⟨by omega, by omega⟩, fun d M' d0 d1 hM' => k (d - 1) M' ⟨by omega, by omega⟩ hM'⟩, fun h => (nomatch h)⟩) _ _ _ _ _ hM10 fun g M11 gl gd hM11 => ?_
      · have p1 : p < (((w.map PV.int).length : Nat) : Int) + 1 := p1
        rw [List.length_map] at p1
        exact sr6 (a := a) (M := M11) (Q := Q) ⟨by omega, by omega, (by omega : 3 ≤ 3 + 2 * o), by omega, by omega, (sgn1 n r n0 n1 r0 r1).1, (sgn1 n r n0 n1 r0 r1).2, (sgn1 m q m0 m1 q0 q1).1, (sgn1 m q m0 m1 q0 q1).2, rfl, p0, by omega, by omega, wd, by omega, gd⟩ (hq M11 hM11)
end Fl

end

namespace Fl
open PySem PySem.Spec PyProof.Rows L2
theorem l__law_right : ∀ args M Q, sp__law_right args M Q → args.length = 1 ∧ b__law_right (fE Q) (fr0 0 args) M := fun args M Q h => by
  match args, h with
  | [.cell a], ⟨hM, hq⟩ =>
    exact ⟨rfl, ⟨hM, fun M1 h1 => ⟨trivial, fun _ => ⟨h1, fun M2 h2 => ⟨trivial, fun _ => ⟨h2, fun M3 h3 => hq M3 h3⟩, fun h => (nomatch h)⟩⟩, fun h => (nomatch h)⟩⟩⟩
end Fl

/-! k00: what the law's first and last defs promise -/
namespace Fl
open PySem PySem.Spec PyProof.Rows L2
def isScript (w : PV) (ns : List Int) : Prop := w = .lst (ns.map .int) ∨ w = .fro (ns.map .int)
def sp__law_cell : PSp := fun args M Q => match args with
  | [w, .int k] => ∃ ns : List Int, isScript w ns ∧ 0 ≤ k ∧ ∀ c : Int, Q (.int c) M
  | _ => False
def sp__law_source : PSp := fun args M Q => match args with
  | [.int c, .int k] => (0 ≤ k ∧ k < 2 ^ 50) ∧ ∀ s0 s1 : Int, 0 ≤ s1 → s1 < 2 ^ 60 → Q (.lst [.int s0, .int s1]) M
  | _ => False
def sp_law : PSp := fun args M Q => match args with
  | [w] => ∃ ns : List Int, isScript w ns ∧ ns.length ≤ 63 ∧ (∀ a, M a = none) ∧ Q (.bl true) M
  | _ => False
end Fl

namespace Fl
open PySem PySem.Spec PyProof.Rows L2
/-- law: slots 0 script, 1 k -/
def w_law_1 : FS := (sIf (tNot1 (tTru (eCallN sp__law_right sp__law_source (aCons (eCall sp__law_cell (aCons (eV 0) (aCons (eV 1) aNil))) (aCons (eV 1) aNil))))) (sRet (eC (.bl false))) sNil)
def t_law_1 : FS := (sRet (eC (.bl true)))
def b_law : FS := (sSeq (sFor (iR1 (aCons (e2 addP (eN minP (aCons (eN lenP (aCons (eV 0) aNil)) (aCons (eC (.int 6)) aNil))) (eC (.int 2))) aNil)) (gN 1) w_law_1) t_law_1)

end Fl

section
set_option exponentiation.threshold 2000
namespace Fl
open PySem PySem.Spec PyProof.Rows L2
theorem l__law_cell : ∀ args M Q, sp__law_cell args M Q → args.length = 2 ∧ b__law_cell (fE Q) (fr0 0 args) M := fun args M Q h => by
  match args, h with
  | [w, .int k], ⟨ns, hw, hk, hq⟩ =>
    refine ⟨rfl, ?_⟩
    rcases hw with rfl | rfl
    all_goals
      refine ⟨fun h => ?_, fun _ => hq 0⟩
      have h : k < (((ns.map PV.int).length : Nat) : Int) := of_decide_eq_true h
      rw [List.length_map] at h
      have hj : k.toNat < ns.length := by omega
      have e : ((k.toNat : Nat) : Int) = k := by omega
      have q : atI (ns.map PV.int) ((k.toNat : Nat) : Int) = some (.int ns[k.toNat]) := atI_nat (by rw [List.getElem?_map, List.getElem?_eq_getElem hj]; rfl)
      rw [e] at q
      exact ⟨_, q, hq _⟩
theorem l__law_source : ∀ args M Q, sp__law_source args M Q → args.length = 2 ∧ b__law_source (fE Q) (fr0 0 args) M := fun args M Q h => by
  match args, h with
  | [.int c, .int k], ⟨⟨k0, k1⟩, hq⟩ =>
    refine ⟨rfl, ⟨⟨by omega, by omega, by decide⟩, fun _ => ⟨⟨by omega, by omega, by decide⟩, hq _ _ (by omega) (by omega)⟩, fun _ => ?_⟩⟩
    have h1 : ∀ x : Int, 0 ≤ x % 2147483647 ∧ x % 2147483647 < 2147483647 := fun x => ⟨Int.emod_nonneg _ (by decide), Int.emod_lt_of_pos _ (by decide)⟩
    exact ⟨mul_r (by decide) (by decide), mul_r (by decide) (by decide), by decide, hq _ _ (h1 _).1 (by have := (h1 (c * 7919 + k * 104729 + 1)).2; omega)⟩
theorem law_loop {w : PV} {ns : List Int} (hw : isScript w ns) {D : FEnds} {M : Sto} (hM : ∀ a, M a = none) (hD : ∀ x, D.nx [some (.v w), x] M) : ∀ (n : Nat) (lo : Int) (x : Option EV), 0 ≤ lo → lo + n < 2 ^ 50 → foP (gN 1) w_law_1 D (rng lo n) [some (.v w), x] M
  | 0, lo, x, _, _ => hD x
  | n + 1, lo, x, h0, h1 => ⟨ns, hw, h0, fun c => ⟨hM, rfl, ⟨h0, by omega⟩, fun s0 s1 h2 h3 => ⟨rfl, fun a => ⟨⟨s0, s1, if_pos rfl, h2, h3⟩, fun M' _ => ⟨true, rfl, trivial, fun h => (nomatch h), fun _ => law_loop hw hM hD n (lo + 1) _ (by omega) (by omega)⟩⟩⟩⟩⟩
theorem l_law : ∀ args M Q, sp_law args M Q → args.length = 1 ∧ b_law (fE Q) (fr0 1 args) M := fun args M Q h => by
  match args, h with
  | [w], ⟨ns, hw, hl, hM, hq⟩ =>
    refine ⟨rfl, ?_⟩
    have hl' : (ns.map PV.int).length ≤ 63 := by rw [List.length_map]; exact hl
    have fin : ∀ n : Int, -(2 ^ 62) ≤ n → n < 2 ^ 40 → (-(2 ^ 62) ≤ n ∧ n < 2 ^ 62) ∧ foP (gN 1) w_law_1 { fE Q with nx := t_law_1 (fE Q) } (rng 0 n.toNat) [some (.v w), none] M := fun n h1 h2 =>
      ⟨⟨h1, by omega⟩, law_loop (D := { fE Q with nx := t_law_1 (fE Q) }) hw hM (fun x => hq) n.toNat 0 none (by omega) (by omega)⟩
    have hw' := hw
    rcases hw with rfl | rfl
    all_goals
      have e : ∀ n : Nat, n ≤ 63 → 0 ≤ (if (6 : Int) < (n : Int) then (6 : Int) else (n : Int)) ∧ (if (6 : Int) < (n : Int) then (6 : Int) else (n : Int)) ≤ 63 := fun n h => by split <;> omega
      have e1 : ∀ g : Int, 0 ≤ g ∧ g ≤ 63 → -(2 ^ 62) ≤ g + 2 := fun g h => by omega
      have e2 : ∀ g : Int, 0 ≤ g ∧ g ≤ 63 → g + 2 < 2 ^ 40 := fun g h => by omega
      exact fin _ (e1 _ (e _ hl')) (e2 _ (e _ hl'))
end Fl

end

namespace Fl
open PySem PySem.Spec PyProof.Rows L2
theorem no__law_same : ∀ args M Q, ¬ spr__law_same 0 args M Q := fun args M Q h => by
  match args, h with
  | [x, y], ⟨_, h, _⟩ =>
    unfold sameOk at h
    exact h
end Fl

section
set_option exponentiation.threshold 2000
namespace Fl
open PySem PySem.Spec PyProof.Rows L2
/-! printed by gen.py: each def of the text keeps its promise -/
def topS (i : Nat) : Stmt := PySem.Challenge.pw_notewhole_k00_whole_lists_of_digits.main.body.getD i (.Pass ⟨0, 0, 0, 0⟩)
structure Txt (mg : Str → Option Value) : Prop where
  n_abs : mg "abs" = none
  g_LIMIT : ∃ t, mg "LIMIT" = some (.int g_LIMIT t)
  n_tuple : mg "tuple" = none
  n_reversed : mg "reversed" = none
  n_any : mg "any" = none
  n_len : mg "len" = none
  n_max : mg "max" = none
  n_zip : mg "zip" = none
  n_range : mg "range" = none
  n_list : mg "list" = none
  n_int : mg "int" = none
  n_isinstance : mg "isinstance" = none
  n_bool : mg "bool" = none
  n_str : mg "str" = none
  n_min : mg "min" = none
section
variable {P : Program} {w : World} {K : PySem.W.Frag} {mg : Str → Option Value} {base : Heap}
abbrev s_power : Stmt := topS 7
abbrev N_power : List Str := ["base", "e", "result", "left", "factor"]
theorem sc_power : FnScope N_power ["base", "e"] (defScope s_power) := ⟨rfl, rfl, rfl, by decide +kernel, rfl, by decide +kernel, by decide +kernel⟩
theorem ok_power (D : Dfn K mg "power" "power" s_power ["base", "e"]) (T : Txt mg)  : Cal P w K mg base 1 "power" ["base", "e"] sp_power :=
  cal_ok (n := 3) D sc_power rfl (fun f cdv A outer s H E hr => by
    have hu := hr.u128
    exact (rs_cons (rs_if (rtc (c_ltA hu) (re_var 1) re_int) rss_never rs_nil) (rs_cons (st1 2 sc_power.nd re_int) (rs_cons (st1 3 sc_power.nd (re_var 1)) (rs_cons (st1 4 sc_power.nd (re_var 0)) (rs_cons (rs_while PassesOwn.never (rtc (c_gtA hu) (re_var 3) re_int) (rs_cons (rs_if (rtc (c_eqX hu) (re_mod (re_var 3) re_int) re_int) (rs_one (st1 2 sc_power.nd (re_mul (re_var 2) (re_var 4)))) rs_nil) (rs_cons (st1 4 sc_power.nd (re_mul (re_var 4) (re_var 4))) (rs_one (st1 3 sc_power.nd (re_div (re_var 3) re_int)))))) (rs_one (rs_ret (re_var 2))))))))) l_power
abbrev s_checked : Stmt := topS 10
abbrev N_checked : List Str := ["n"]
theorem sc_checked : FnScope N_checked ["n"] (defScope s_checked) := ⟨rfl, rfl, rfl, by decide +kernel, rfl, by decide +kernel, by decide +kernel⟩
theorem ok_checked (D : Dfn K mg "checked" "checked" s_checked ["n"]) (T : Txt mg)  : Cal P w K mg base 1 "checked" ["n"] sp_checked :=
  cal_ok (n := 0) D sc_checked rfl (fun f cdv A outer s H E hr => by
    have hu := hr.u128
    exact (rs_cons (rs_if (rtc (c_geA hu) (re_abs (by rfl) T.n_abs (ra_cons (re_var 0) ra_nil)) (re_glob (by rfl) T.g_LIMIT.choose_spec (show RelV (.int g_LIMIT) _ from ⟨_, rfl⟩) (fun _ _ _ => .int _))) rss_never rs_nil) (rs_one (rs_ret (re_var 0))))) l_checked
abbrev s_natural : Stmt := topS 11
abbrev N_natural : List Str := ["n"]
theorem sc_natural : FnScope N_natural ["n"] (defScope s_natural) := ⟨rfl, rfl, rfl, by decide +kernel, rfl, by decide +kernel, by decide +kernel⟩
theorem ok_natural (D : Dfn K mg "natural" "natural" s_natural ["n"]) (T : Txt mg) (c_checked : Cal P w K mg base 1 "checked" ["n"] sp_checked) : Cal P w K mg base 2 "natural" ["n"] sp_natural :=
  cal_ok (n := 0) D sc_natural rfl (fun f cdv A outer s H E hr => by
    have hu := hr.u128
    exact (rs_cons (rs_if (rtc (c_ltA hu) (re_var 0) re_int) rss_never rs_nil) (rs_one (rs_ret (rcl c_checked hr (ra_cons (re_var 0) ra_nil)))))) l_natural
abbrev s_base_of : Stmt := topS 13
abbrev N_base_of : List Str := ["base"]
theorem sc_base_of : FnScope N_base_of ["base"] (defScope s_base_of) := ⟨rfl, rfl, rfl, by decide +kernel, rfl, by decide +kernel, by decide +kernel⟩
theorem ok_base_of (D : Dfn K mg "base_of" "base_of" s_base_of ["base"]) (T : Txt mg)  : Cal P w K mg base 1 "base_of" ["base"] sp_base_of :=
  cal_ok (n := 0) D sc_base_of rfl (fun f cdv A outer s H E hr => by
    have hu := hr.u128
    exact (rs_cons (rs_if (rt_not (rtc2 (c_leA hu) (c_leA hu) re_int (re_var 0) re_int)) rss_never rs_nil) (rs_one (rs_ret (re_var 0))))) l_base_of
abbrev s_digits : Stmt := topS 14
abbrev N_digits : List Str := ["base", "n", "left", "found"]
theorem sc_digits : FnScope N_digits ["base", "n"] (defScope s_digits) := ⟨rfl, rfl, rfl, by decide +kernel, rfl, by decide +kernel, by decide +kernel⟩
theorem ok_digits (D : Dfn K mg "digits" "digits" s_digits ["base", "n"]) (T : Txt mg) (c_base_of : Cal P w K mg base 1 "base_of" ["base"] sp_base_of) (c_natural : Cal P w K mg base 2 "natural" ["n"] sp_natural) : Cal P w K mg base 3 "digits" ["base", "n"] sp_digits :=
  cal_ok (n := 2) D sc_digits rfl (fun f cdv A outer s H E hr => by
    have hu := hr.u128
    exact (rs_cons (rs_ex (rcl c_base_of hr (ra_cons (re_var 0) ra_nil))) (rs_cons (st1 2 sc_digits.nd (rcl c_natural hr (ra_cons (re_var 1) ra_nil))) (rs_cons (stB 3 sc_digits.nd (rf_lst ra_nil)) (rs_cons (rs_while PassesOwn.never (rtc (c_gtA hu) (re_var 2) re_int) (rs_cons (rs_app 3 (pv 3) (re_mod (re_var 2) (re_var 0))) (rs_one (st1 2 sc_digits.nd (re_div (re_var 2) (re_var 0)))))) (rs_one (rs_ret (re_tupRev rfl (by rfl) T.n_tuple (by rfl) T.n_reversed (re_var 3))))))))) l_digits
abbrev s_are_digits_bases : Stmt := topS 15
abbrev N_are_digits_bases : List Str := ["base", "word", "digit"]
theorem sc_are_digits_bases : FnScope N_are_digits_bases ["base", "word"] (defScope s_are_digits_bases) := ⟨rfl, rfl, rfl, by decide +kernel, rfl, by decide +kernel, by decide +kernel⟩
theorem ok_are_digits_bases (D : Dfn K mg "are_digits_bases" "are_digits" s_are_digits_bases ["base", "word"]) (T : Txt mg)  : Cal P w K mg base 1 "are_digits_bases" ["base", "word"] sp_are_digits_bases :=
  cal_ok (n := 1) D sc_are_digits_bases rfl (fun f cdv A outer s H E hr => by
    have hu := hr.u128
    exact (rs_one (rs_ret (re_and (re_not (re_any rfl (by rfl) T.n_any (ra_cons (re_f (rf_lc (own := [("digit", 2)]) rfl sc_are_digits_bases.nd (ri_seq (re_var 1)) (blkOk_by (N := N_are_digits_bases) (sc := defScope s_are_digits_bases) (by decide +kernel)) (fun _ _ _ _ _ => (tg1 2 sc_are_digits_bases.nd)) (fun _ _ _ _ _ => rts_nil) (fun _ _ _ _ _ => (re_not (rec2 (c_leA hu) (c_ltA hu) re_int (re_var 2) (re_var 0)))))) ra_nil))) (re_one (re_or (re_not (re_var 1)) (re_one (rec (c_neX hu) (re_ix (re_var 1) re_int) re_int)))))))) l_are_digits_bases
abbrev s_checked_digits : Stmt := topS 17
abbrev N_checked_digits : List Str := ["base", "word", "found"]
theorem sc_checked_digits : FnScope N_checked_digits ["base", "word"] (defScope s_checked_digits) := ⟨rfl, rfl, rfl, by decide +kernel, rfl, by decide +kernel, by decide +kernel⟩
theorem ok_checked_digits (D : Dfn K mg "checked_digits" "checked_digits" s_checked_digits ["base", "word"]) (T : Txt mg) (c_base_of : Cal P w K mg base 1 "base_of" ["base"] sp_base_of) (c_are_digits_bases : Cal P w K mg base 1 "are_digits_bases" ["base", "word"] sp_are_digits_bases) : Cal P w K mg base 2 "checked_digits" ["base", "word"] sp_checked_digits :=
  cal_ok (n := 1) D sc_checked_digits rfl (fun f cdv A outer s H E hr => by
    exact (rs_cons (rs_ex (rcl c_base_of hr (ra_cons (re_var 0) ra_nil))) (rs_cons (st1 2 sc_checked_digits.nd (re_tupOf (by rfl) T.n_tuple (ra_cons (re_var 1) ra_nil))) (rs_cons (rs_if (rt_not (rt_tru (rcl c_are_digits_bases hr (ra_cons (re_var 0) (ra_cons (re_var 2) ra_nil))))) rss_never rs_nil) (rs_one (rs_ret (re_var 2))))))) l_checked_digits
abbrev s_value_bases : Stmt := topS 18
abbrev N_value_bases : List Str := ["base", "word", "whole", "digit"]
theorem sc_value_bases : FnScope N_value_bases ["base", "word"] (defScope s_value_bases) := ⟨rfl, rfl, rfl, by decide +kernel, rfl, by decide +kernel, by decide +kernel⟩
theorem ok_value_bases (D : Dfn K mg "value_bases" "value" s_value_bases ["base", "word"]) (T : Txt mg)  : Cal P w K mg base 1 "value_bases" ["base", "word"] sp_value_bases :=
  cal_ok (n := 2) D sc_value_bases rfl (fun f cdv A outer s H E hr => by
    exact (rs_cons (st1 2 sc_value_bases.nd re_int) (rs_cons (rs_for PassesOwn.never rfl (ri_seq (re_var 1)) (tg1 3 sc_value_bases.nd) (rs_one (st1 2 sc_value_bases.nd (re_add (re_mul (re_var 2) (re_var 0)) (re_var 3))))) (rs_one (rs_ret (re_var 2)))))) l_value_bases
abbrev s_added_bases : Stmt := topS 20
abbrev N_added_bases : List Str := ["base", "one", "other", "size", "first", "second", "carries", "found", "a", "b", "whole"]
theorem sc_added_bases : FnScope N_added_bases ["base", "one", "other"] (defScope s_added_bases) := ⟨rfl, rfl, rfl, by decide +kernel, rfl, by decide +kernel, by decide +kernel⟩
theorem ok_added_bases (D : Dfn K mg "added_bases" "added" s_added_bases ["base", "one", "other"]) (T : Txt mg) (c_checked_digits : Cal P w K mg base 2 "checked_digits" ["base", "word"] sp_checked_digits) : Cal P w K mg base 3 "added_bases" ["base", "one", "other"] sp_added_bases :=
  cal_ok (n := 8) D sc_added_bases rfl (fun f cdv A outer s H E hr => by
    have hu := hr.u128
    exact (rs_cons (st2 1 2 rfl sc_added_bases.nd (ra_cons (rcl c_checked_digits hr (ra_cons (re_var 0) (ra_cons (re_var 1) ra_nil))) (ra_cons (rcl c_checked_digits hr (ra_cons (re_var 0) (ra_cons (re_var 2) ra_nil))) ra_nil))) (rs_cons (st1 3 sc_added_bases.nd (re_max rfl (by rfl) T.n_max (ra_cons (re_len (by rfl) T.n_len (ra_cons (re_var 1) ra_nil)) (ra_cons (re_len (by rfl) T.n_len (ra_cons (re_var 2) ra_nil)) ra_nil)))) (rs_cons (st1 4 sc_added_bases.nd (re_add (re_mul (re_tup (ra_cons re_int ra_nil)) (re_subA (re_var 3) (re_len (by rfl) T.n_len (ra_cons (re_var 1) ra_nil)))) (re_var 1))) (rs_cons (st1 5 sc_added_bases.nd (re_add (re_mul (re_tup (ra_cons re_int ra_nil)) (re_subA (re_var 3) (re_len (by rfl) T.n_len (ra_cons (re_var 2) ra_nil)))) (re_var 2))) (rs_cons (stB 6 sc_added_bases.nd (rf_lst (ra_cons re_int ra_nil))) (rs_cons (stB 7 sc_added_bases.nd (rf_lst ra_nil)) (rs_cons (rs_for PassesOwn.never rfl (ri_zipRR rfl (by rfl) T.n_zip (by rfl) T.n_reversed (re_var 4) (re_var 5)) (tgS rfl (tgc (tg1 8 sc_added_bases.nd) (tgc (tg1 9 sc_added_bases.nd) rgs_nil))) (rs_cons (st1 10 sc_added_bases.nd (re_add (re_add (re_var 8) (re_var 9)) (re_ix (re_var 6) (re_neg re_int)))) (rs_cons (rs_app 7 (pv 7) (re_mod (re_var 10) (re_var 0))) (rs_one (rs_app 6 (pv 6) (re_div (re_var 10) (re_var 0))))))) (rs_cons (rs_if (rtc (c_eqX hu) (re_ix (re_var 6) (re_neg re_int)) re_int) (rs_one (rs_app 7 (pv 7) re_int)) rs_nil) (rs_one (rs_ret (re_tup (ra_cons re_str (ra_cons (re_var 1) (ra_cons (re_var 2) (ra_cons (re_tupOf (by rfl) T.n_tuple (ra_cons (re_var 6) ra_nil)) (ra_cons (re_tupRev rfl (by rfl) T.n_tuple (by rfl) T.n_reversed (re_var 7)) ra_nil))))))))))))))))) l_added_bases
abbrev s_less : Stmt := topS 22
abbrev N_less : List Str := ["base", "one", "other", "first", "second"]
theorem sc_less : FnScope N_less ["base", "one", "other"] (defScope s_less) := ⟨rfl, rfl, rfl, by decide +kernel, rfl, by decide +kernel, by decide +kernel⟩
theorem ok_less (D : Dfn K mg "less" "less" s_less ["base", "one", "other"]) (T : Txt mg) (c_checked_digits : Cal P w K mg base 2 "checked_digits" ["base", "word"] sp_checked_digits) (c_value_bases : Cal P w K mg base 1 "value_bases" ["base", "word"] sp_value_bases) (c_digits : Cal P w K mg base 3 "digits" ["base", "n"] sp_digits) : Cal P w K mg base 4 "less" ["base", "one", "other"] sp_less :=
  cal_ok (n := 2) D sc_less rfl (fun f cdv A outer s H E hr => by
    have hu := hr.u128
    exact (rs_cons (st2 3 4 rfl sc_less.nd (ra_cons (rcl c_value_bases hr (ra_cons (re_var 0) (ra_cons (rcl c_checked_digits hr (ra_cons (re_var 0) (ra_cons (re_var 1) ra_nil))) ra_nil))) (ra_cons (rcl c_value_bases hr (ra_cons (re_var 0) (ra_cons (rcl c_checked_digits hr (ra_cons (re_var 0) (ra_cons (re_var 2) ra_nil))) ra_nil))) ra_nil))) (rs_cons (rs_if (rtc (c_ltA hu) (re_var 3) (re_var 4)) rss_never rs_nil) (rs_one (rs_ret (rcl c_digits hr (ra_cons (re_var 0) (ra_cons (re_subA (re_var 3) (re_var 4)) ra_nil)))))))) l_less
abbrev s_scaled : Stmt := topS 23
abbrev N_scaled : List Str := ["base", "word", "factor", "carries", "found", "digit", "whole", "rest"]
theorem sc_scaled : FnScope N_scaled ["base", "word", "factor"] (defScope s_scaled) := ⟨rfl, rfl, rfl, by decide +kernel, rfl, by decide +kernel, by decide +kernel⟩
theorem ok_scaled (D : Dfn K mg "scaled" "scaled" s_scaled ["base", "word", "factor"]) (T : Txt mg) (c_natural : Cal P w K mg base 2 "natural" ["n"] sp_natural) (c_checked_digits : Cal P w K mg base 2 "checked_digits" ["base", "word"] sp_checked_digits) : Cal P w K mg base 3 "scaled" ["base", "word", "factor"] sp_scaled :=
  cal_ok (n := 5) D sc_scaled rfl (fun f cdv A outer s H E hr => by
    have hu := hr.u128
    exact (rs_cons (rs_ex (rcl c_natural hr (ra_cons (re_var 2) ra_nil))) (rs_cons (stB 3 sc_scaled.nd (rf_lst (ra_cons re_int ra_nil))) (rs_cons (stB 4 sc_scaled.nd (rf_lst ra_nil)) (rs_cons (rs_for PassesOwn.never rfl (ri_rev (by rfl) T.n_reversed (rcl c_checked_digits hr (ra_cons (re_var 0) (ra_cons (re_var 1) ra_nil)))) (tg1 5 sc_scaled.nd) (rs_cons (st1 6 sc_scaled.nd (re_add (re_mul (re_var 5) (re_var 2)) (re_ix (re_var 3) (re_neg re_int)))) (rs_cons (rs_app 4 (pv 4) (re_mod (re_var 6) (re_var 0))) (rs_one (rs_app 3 (pv 3) (re_div (re_var 6) (re_var 0))))))) (rs_cons (st1 7 sc_scaled.nd (re_ix (re_var 3) (re_neg re_int))) (rs_cons (rs_while PassesOwn.never (rtc (c_gtA hu) (re_var 7) re_int) (rs_cons (rs_app 4 (pv 4) (re_mod (re_var 7) (re_var 0))) (rs_one (st1 7 sc_scaled.nd (re_div (re_var 7) (re_var 0)))))) (rs_cons (rs_while PassesOwn.never (rw_and (rt_tru (re_var 4)) (rw_and1 (rtc (c_eqX hu) (re_ix (re_var 4) (re_neg re_int)) re_int))).rt (rs_one (rs_pop 4 (pv 4)))) (rs_one (rs_ret (re_tup (ra_cons (re_tupOf (by rfl) T.n_tuple (ra_cons (re_var 3) ra_nil)) (ra_cons (re_tupRev rfl (by rfl) T.n_tuple (by rfl) T.n_reversed (re_var 4)) ra_nil))))))))))))) l_scaled
abbrev s_in_other : Stmt := topS 24
abbrev N_in_other : List Str := ["base", "word", "other", "found", "digit", "rest", "made", "own", "whole"]
theorem sc_in_other : FnScope N_in_other ["base", "word", "other"] (defScope s_in_other) := ⟨rfl, rfl, rfl, by decide +kernel, rfl, by decide +kernel, by decide +kernel⟩
theorem ok_in_other (D : Dfn K mg "in_other" "in_other" s_in_other ["base", "word", "other"]) (T : Txt mg) (c_base_of : Cal P w K mg base 1 "base_of" ["base"] sp_base_of) (c_checked_digits : Cal P w K mg base 2 "checked_digits" ["base", "word"] sp_checked_digits) : Cal P w K mg base 3 "in_other" ["base", "word", "other"] sp_in_other :=
  cal_ok (n := 6) D sc_in_other rfl (fun f cdv A outer s H E hr => by
    have hu := hr.u128
    exact (rs_cons (rs_ex (rcl c_base_of hr (ra_cons (re_var 2) ra_nil))) (rs_cons (st1 3 sc_in_other.nd (re_f (rf_lst ra_nil))) (rs_cons (rs_for PassesOwn.never rfl (ri_seq (rcl c_checked_digits hr (ra_cons (re_var 0) (ra_cons (re_var 1) ra_nil)))) (tg1 4 sc_in_other.nd) (rs_cons (st1 5 sc_in_other.nd (re_var 4)) (rs_cons (stB 6 sc_in_other.nd (rf_lst ra_nil)) (rs_cons (rs_for PassesOwn.never rfl (ri_seq (re_var 3)) (tg1 7 sc_in_other.nd) (rs_cons (st1 8 sc_in_other.nd (re_add (re_mul (re_var 7) (re_var 0)) (re_var 5))) (rs_cons (rs_app 6 (pv 6) (re_mod (re_var 8) (re_var 2))) (rs_one (st1 5 sc_in_other.nd (re_div (re_var 8) (re_var 2))))))) (rs_cons (rs_while PassesOwn.never (rtc (c_gtA hu) (re_var 5) re_int) (rs_cons (rs_app 6 (pv 6) (re_mod (re_var 5) (re_var 2))) (rs_one (st1 5 sc_in_other.nd (re_div (re_var 5) (re_var 2)))))) (rs_one (rs_frz 6 (st1 3 sc_in_other.nd (re_var 6))))))))) (rs_one (rs_ret (re_tupRev rfl (by rfl) T.n_tuple (by rfl) T.n_reversed (re_var 3)))))))) l_in_other
abbrev s_compared_bases : Stmt := topS 25
abbrev N_compared_bases : List Str := ["one", "other", "first", "second"]
theorem sc_compared_bases : FnScope N_compared_bases ["one", "other"] (defScope s_compared_bases) := ⟨rfl, rfl, rfl, by decide +kernel, rfl, by decide +kernel, by decide +kernel⟩
theorem ok_compared_bases (D : Dfn K mg "compared_bases" "compared" s_compared_bases ["one", "other"]) (T : Txt mg)  : Cal P w K mg base 1 "compared_bases" ["one", "other"] sp_compared_bases :=
  cal_ok (n := 2) D sc_compared_bases rfl (fun f cdv A outer s H E hr => by
    have hu := hr.u128
    exact (rs_cons (st2 0 1 rfl sc_compared_bases.nd (ra_cons (re_tupOf (by rfl) T.n_tuple (ra_cons (re_var 0) ra_nil)) (ra_cons (re_tupOf (by rfl) T.n_tuple (ra_cons (re_var 1) ra_nil)) ra_nil))) (rs_cons (st2 2 3 rfl sc_compared_bases.nd (ra_cons (re_tup (ra_cons (re_len (by rfl) T.n_len (ra_cons (re_var 0) ra_nil)) (ra_cons (re_var 0) ra_nil))) (ra_cons (re_tup (ra_cons (re_len (by rfl) T.n_len (ra_cons (re_var 1) ra_nil)) (ra_cons (re_var 1) ra_nil))) ra_nil))) (rs_one (rs_ret (re_subA (rec (c_gtA hu) (re_var 2) (re_var 3)) (rec (c_ltA hu) (re_var 2) (re_var 3)))))))) l_compared_bases
abbrev s_blocks : Stmt := topS 27
abbrev N_blocks : List Str := ["base", "word", "size", "own", "wide", "found", "at"]
theorem sc_blocks : FnScope N_blocks ["base", "word", "size"] (defScope s_blocks) := ⟨rfl, rfl, rfl, by decide +kernel, rfl, by decide +kernel, by decide +kernel⟩
theorem ok_blocks (D : Dfn K mg "blocks" "blocks" s_blocks ["base", "word", "size"]) (T : Txt mg) (c_checked_digits : Cal P w K mg base 2 "checked_digits" ["base", "word"] sp_checked_digits) (c_value_bases : Cal P w K mg base 1 "value_bases" ["base", "word"] sp_value_bases) : Cal P w K mg base 3 "blocks" ["base", "word", "size"] sp_blocks :=
  cal_ok (n := 4) D sc_blocks rfl (fun f cdv A outer s H E hr => by
    have hu := hr.u128
    exact (rs_cons (rs_if (rtc (c_ltA hu) (re_var 2) re_int) rss_never rs_nil) (rs_cons (st1 3 sc_blocks.nd (rcl c_checked_digits hr (ra_cons (re_var 0) (ra_cons (re_var 1) ra_nil)))) (rs_cons (st1 4 sc_blocks.nd (re_add (re_mul (re_tup (ra_cons re_int ra_nil)) (re_mod (re_neg (re_len (by rfl) T.n_len (ra_cons (re_var 3) ra_nil))) (re_var 2))) (re_var 3))) (rs_cons (st1Lc (own := [("at", 6)]) 5 rfl sc_blocks.nd (ri_rng3 (by rfl) T.n_range (ra_cons re_int (ra_cons (re_len (by rfl) T.n_len (ra_cons (re_var 4) ra_nil)) (ra_cons (re_var 2) ra_nil)))) (blkOk_by (N := N_blocks) (sc := defScope s_blocks) (by decide +kernel)) (fun _ _ _ _ _ => (tg1 6 sc_blocks.nd)) (fun _ _ _ _ _ => rts_nil) (fun _ _ _ _ _ => (rcl c_value_bases hr (ra_cons (re_var 0) (ra_cons (re_sl (re_var 4) (ro_some (re_var 6)) (ro_some (re_add (re_var 6) (re_var 2)))) ra_nil))))) (rs_one (rs_ret (re_tupOf (by rfl) T.n_tuple (ra_cons (re_var 5) ra_nil))))))))) l_blocks
abbrev s_unblocked : Stmt := topS 28
abbrev N_unblocked : List Str := ["base", "word", "size", "found", "block", "own"]
theorem sc_unblocked : FnScope N_unblocked ["base", "word", "size"] (defScope s_unblocked) := ⟨rfl, rfl, rfl, by decide +kernel, rfl, by decide +kernel, by decide +kernel⟩
theorem ok_unblocked (D : Dfn K mg "unblocked" "unblocked" s_unblocked ["base", "word", "size"]) (T : Txt mg) (c_base_of : Cal P w K mg base 1 "base_of" ["base"] sp_base_of) (c_power : Cal P w K mg base 1 "power" ["base", "e"] sp_power) (c_digits : Cal P w K mg base 3 "digits" ["base", "n"] sp_digits) : Cal P w K mg base 4 "unblocked" ["base", "word", "size"] sp_unblocked :=
  cal_ok (n := 3) D sc_unblocked rfl (fun f cdv A outer s H E hr => by
    have hu := hr.u128
    exact (rs_cons (stB 3 sc_unblocked.nd (rf_lst ra_nil)) (rs_cons (rs_for PassesOwn.never rfl (ri_seq (re_var 1)) (tg1 4 sc_unblocked.nd) (rs_cons (rs_if (rt_not (rtc2 (c_leA hu) (c_ltA hu) re_int (re_var 4) (rcl c_power hr (ra_cons (rcl c_base_of hr (ra_cons (re_var 0) ra_nil)) (ra_cons (re_var 2) ra_nil))))) rss_never rs_nil) (rs_cons (st1 5 sc_unblocked.nd (rcl c_digits hr (ra_cons (re_var 0) (ra_cons (re_var 4) ra_nil)))) (rs_one (rs_ext 3 (pv 3) (re_add (re_mul (re_tup (ra_cons re_int ra_nil)) (re_subA (re_var 2) (re_len (by rfl) T.n_len (ra_cons (re_var 5) ra_nil)))) (re_var 5))))))) (rs_cons (rs_while PassesOwn.never (rw_and (rt_tru (re_var 3)) (rw_and1 (rtc (c_eqX hu) (re_ix (re_var 3) re_int) re_int))).rt (rs_one (rs_popAt 3 (pv 3) re_int))) (rs_one (rs_ret (re_tupOf (by rfl) T.n_tuple (ra_cons (re_var 3) ra_nil)))))))) l_unblocked
abbrev s_are_digits_bijective : Stmt := topS 30
abbrev N_are_digits_bijective : List Str := ["base", "word", "digit"]
theorem sc_are_digits_bijective : FnScope N_are_digits_bijective ["base", "word"] (defScope s_are_digits_bijective) := ⟨rfl, rfl, rfl, by decide +kernel, rfl, by decide +kernel, by decide +kernel⟩
theorem ok_are_digits_bijective (D : Dfn K mg "are_digits_bijective" "are_digits" s_are_digits_bijective ["base", "word"]) (T : Txt mg)  : Cal P w K mg base 1 "are_digits_bijective" ["base", "word"] sp_are_digits_bijective :=
  cal_ok (n := 1) D sc_are_digits_bijective rfl (fun f cdv A outer s H E hr => by
    have hu := hr.u128
    exact (rs_one (rs_ret (re_not (re_any rfl (by rfl) T.n_any (ra_cons (re_f (rf_lc (own := [("digit", 2)]) rfl sc_are_digits_bijective.nd (ri_seq (re_var 1)) (blkOk_by (N := N_are_digits_bijective) (sc := defScope s_are_digits_bijective) (by decide +kernel)) (fun _ _ _ _ _ => (tg1 2 sc_are_digits_bijective.nd)) (fun _ _ _ _ _ => rts_nil) (fun _ _ _ _ _ => (re_not (rec2 (c_leA hu) (c_leA hu) re_int (re_var 2) (re_var 0)))))) ra_nil)))))) l_are_digits_bijective
abbrev s_value_bijective : Stmt := topS 32
abbrev N_value_bijective : List Str := ["base", "word", "whole", "digit"]
theorem sc_value_bijective : FnScope N_value_bijective ["base", "word"] (defScope s_value_bijective) := ⟨rfl, rfl, rfl, by decide +kernel, rfl, by decide +kernel, by decide +kernel⟩
theorem ok_value_bijective (D : Dfn K mg "value_bijective" "value" s_value_bijective ["base", "word"]) (T : Txt mg) (c_base_of : Cal P w K mg base 1 "base_of" ["base"] sp_base_of) (c_are_digits_bijective : Cal P w K mg base 1 "are_digits_bijective" ["base", "word"] sp_are_digits_bijective) : Cal P w K mg base 2 "value_bijective" ["base", "word"] sp_value_bijective :=
  cal_ok (n := 2) D sc_value_bijective rfl (fun f cdv A outer s H E hr => by
    exact (rs_cons (rs_if (rt_not (rt_tru (rcl c_are_digits_bijective hr (ra_cons (rcl c_base_of hr (ra_cons (re_var 0) ra_nil)) (ra_cons (re_var 1) ra_nil))))) rss_never rs_nil) (rs_cons (st1 2 sc_value_bijective.nd re_int) (rs_cons (rs_for PassesOwn.never rfl (ri_seq (re_var 1)) (tg1 3 sc_value_bijective.nd) (rs_one (st1 2 sc_value_bijective.nd (re_add (re_mul (re_var 2) (re_var 0)) (re_var 3))))) (rs_one (rs_ret (re_var 2))))))) l_value_bijective
abbrev s_following : Stmt := topS 34
abbrev N_following : List Str := ["base", "word", "found", "at"]
theorem sc_following : FnScope N_following ["base", "word"] (defScope s_following) := ⟨rfl, rfl, rfl, by decide +kernel, rfl, by decide +kernel, by decide +kernel⟩
theorem ok_following (D : Dfn K mg "following" "following" s_following ["base", "word"]) (T : Txt mg) (c_base_of : Cal P w K mg base 1 "base_of" ["base"] sp_base_of) (c_are_digits_bijective : Cal P w K mg base 1 "are_digits_bijective" ["base", "word"] sp_are_digits_bijective) : Cal P w K mg base 2 "following" ["base", "word"] sp_following :=
  cal_ok (n := 2) D sc_following rfl (fun f cdv A outer s H E hr => by
    have hu := hr.u128
    exact (rs_cons (rs_if (rt_not (rt_tru (rcl c_are_digits_bijective hr (ra_cons (rcl c_base_of hr (ra_cons (re_var 0) ra_nil)) (ra_cons (re_var 1) ra_nil))))) rss_never rs_nil) (rs_cons (stB 2 sc_following.nd (rf_listOf (by rfl) T.n_list (ra_cons (re_var 1) ra_nil))) (rs_cons (st1 3 sc_following.nd (re_subA (re_len (by rfl) T.n_len (ra_cons (re_var 2) ra_nil)) re_int)) (rs_cons (rs_while PassesOwn.never (rw_and (rtc (c_geA hu) (re_var 3) re_int) (rw_and1 (rtc (c_eqX hu) (re_ix (re_var 2) (re_var 3)) (re_var 0)))).rt (rs_cons (rs_put 2 (pv 2) (re_var 3) re_int) (rs_one (st1 3 sc_following.nd (re_subA (re_var 3) re_int))))) (rs_cons (rs_if (rtc (c_ltA hu) (re_var 3) re_int) (rs_one (rs_ret (re_add (re_tup (ra_cons re_int ra_nil)) (re_tupOf (by rfl) T.n_tuple (ra_cons (re_var 2) ra_nil))))) rs_nil) (rs_cons (rs_put 2 (pv 2) (re_var 3) (re_add (re_ix (re_var 2) (re_var 3)) re_int)) (rs_one (rs_ret (re_tupOf (by rfl) T.n_tuple (ra_cons (re_var 2) ra_nil))))))))))) l_following
abbrev s_ahead : Stmt := topS 35
abbrev N_ahead : List Str := ["base", "word", "found", "at"]
theorem sc_ahead : FnScope N_ahead ["base", "word"] (defScope s_ahead) := ⟨rfl, rfl, rfl, by decide +kernel, rfl, by decide +kernel, by decide +kernel⟩
theorem ok_ahead (D : Dfn K mg "ahead" "ahead" s_ahead ["base", "word"]) (T : Txt mg) (c_base_of : Cal P w K mg base 1 "base_of" ["base"] sp_base_of) (c_are_digits_bijective : Cal P w K mg base 1 "are_digits_bijective" ["base", "word"] sp_are_digits_bijective) : Cal P w K mg base 2 "ahead" ["base", "word"] sp_ahead :=
  cal_ok (n := 2) D sc_ahead rfl (fun f cdv A outer s H E hr => by
    have hu := hr.u128
    exact (rs_cons (rs_if (rw_or (rt_not (rt_tru (re_var 1))) (rw_or1 (rt_not (rt_tru (rcl c_are_digits_bijective hr (ra_cons (rcl c_base_of hr (ra_cons (re_var 0) ra_nil)) (ra_cons (re_var 1) ra_nil))))))).rt rss_never rs_nil) (rs_cons (stB 2 sc_ahead.nd (rf_listOf (by rfl) T.n_list (ra_cons (re_var 1) ra_nil))) (rs_cons (st1 3 sc_ahead.nd (re_subA (re_len (by rfl) T.n_len (ra_cons (re_var 2) ra_nil)) re_int)) (rs_cons (rs_while PassesOwn.never (rw_and (rtc (c_geA hu) (re_var 3) re_int) (rw_and1 (rtc (c_eqX hu) (re_ix (re_var 2) (re_var 3)) re_int))).rt (rs_cons (rs_put 2 (pv 2) (re_var 3) (re_var 0)) (rs_one (st1 3 sc_ahead.nd (re_subA (re_var 3) re_int))))) (rs_cons (rs_if (rtc (c_ltA hu) (re_var 3) re_int) (rs_one (rs_ret (re_tupOf (by rfl) T.n_tuple (ra_cons (re_sl (re_var 2) (ro_some re_int) ro_none) ra_nil)))) rs_nil) (rs_cons (rs_put 2 (pv 2) (re_var 3) (re_subA (re_ix (re_var 2) (re_var 3)) re_int)) (rs_one (rs_ret (re_tupOf (by rfl) T.n_tuple (ra_cons (re_var 2) ra_nil))))))))))) l_ahead
abbrev s_compared_bijective : Stmt := topS 36
abbrev N_compared_bijective : List Str := ["one", "other", "first", "second"]
theorem sc_compared_bijective : FnScope N_compared_bijective ["one", "other"] (defScope s_compared_bijective) := ⟨rfl, rfl, rfl, by decide +kernel, rfl, by decide +kernel, by decide +kernel⟩
theorem ok_compared_bijective (D : Dfn K mg "compared_bijective" "compared" s_compared_bijective ["one", "other"]) (T : Txt mg)  : Cal P w K mg base 1 "compared_bijective" ["one", "other"] sp_compared_bijective :=
  cal_ok (n := 2) D sc_compared_bijective rfl (fun f cdv A outer s H E hr => by
    have hu := hr.u128
    exact (rs_cons (st2 2 3 rfl sc_compared_bijective.nd (ra_cons (re_tup (ra_cons (re_len (by rfl) T.n_len (ra_cons (re_var 0) ra_nil)) (ra_cons (re_tupOf (by rfl) T.n_tuple (ra_cons (re_var 0) ra_nil)) ra_nil))) (ra_cons (re_tup (ra_cons (re_len (by rfl) T.n_len (ra_cons (re_var 1) ra_nil)) (ra_cons (re_tupOf (by rfl) T.n_tuple (ra_cons (re_var 1) ra_nil)) ra_nil))) ra_nil))) (rs_one (rs_ret (re_subA (rec (c_gtA hu) (re_var 2) (re_var 3)) (rec (c_ltA hu) (re_var 2) (re_var 3))))))) l_compared_bijective
abbrev s_added_bijective : Stmt := topS 38
abbrev N_added_bijective : List Str := ["base", "one", "other", "first", "second", "found", "carry", "at", "whole", "digit"]
theorem sc_added_bijective : FnScope N_added_bijective ["base", "one", "other"] (defScope s_added_bijective) := ⟨rfl, rfl, rfl, by decide +kernel, rfl, by decide +kernel, by decide +kernel⟩
theorem ok_added_bijective (D : Dfn K mg "added_bijective" "added" s_added_bijective ["base", "one", "other"]) (T : Txt mg) (c_base_of : Cal P w K mg base 1 "base_of" ["base"] sp_base_of) (c_are_digits_bijective : Cal P w K mg base 1 "are_digits_bijective" ["base", "word"] sp_are_digits_bijective) : Cal P w K mg base 2 "added_bijective" ["base", "one", "other"] sp_added_bijective :=
  cal_ok (n := 7) D sc_added_bijective rfl (fun f cdv A outer s H E hr => by
    have hu := hr.u128
    exact (rs_cons (rs_if (rw_or (rt_not (rt_tru (rcl c_are_digits_bijective hr (ra_cons (rcl c_base_of hr (ra_cons (re_var 0) ra_nil)) (ra_cons (re_var 1) ra_nil))))) (rw_or1 (rt_not (rt_tru (rcl c_are_digits_bijective hr (ra_cons (re_var 0) (ra_cons (re_var 2) ra_nil))))))).rt rss_never rs_nil) (rs_cons (st2 3 4 rfl sc_added_bijective.nd (ra_cons (re_f (rf_listRev rfl (by rfl) T.n_list (by rfl) T.n_reversed (re_var 1))) (ra_cons (re_f (rf_listRev rfl (by rfl) T.n_list (by rfl) T.n_reversed (re_var 2))) ra_nil))) (rs_cons (stB 5 sc_added_bijective.nd (rf_lst ra_nil)) (rs_cons (st1 6 sc_added_bijective.nd re_int) (rs_cons (st1 7 sc_added_bijective.nd re_int) (rs_cons (rs_while PassesOwn.never (rw_or (rtc (c_ltA hu) (re_var 7) (re_max rfl (by rfl) T.n_max (ra_cons (re_len (by rfl) T.n_len (ra_cons (re_var 3) ra_nil)) (ra_cons (re_len (by rfl) T.n_len (ra_cons (re_var 4) ra_nil)) ra_nil)))) (rw_or1 (rtc (c_gtA hu) (re_var 6) re_int))).rt (rs_cons (st1 8 sc_added_bijective.nd (re_var 6)) (rs_cons (st1 8 sc_added_bijective.nd (re_add (re_add (re_var 8) (re_if (rtc (c_ltA hu) (re_var 7) (re_len (by rfl) T.n_len (ra_cons (re_var 3) ra_nil))) (re_ix (re_var 3) (re_var 7)) re_int)) (re_if (rtc (c_ltA hu) (re_var 7) (re_len (by rfl) T.n_len (ra_cons (re_var 4) ra_nil))) (re_ix (re_var 4) (re_var 7)) re_int))) (rs_cons (st1 9 sc_added_bijective.nd (re_add (re_mod (re_subA (re_var 8) re_int) (re_var 0)) re_int)) (rs_cons (rs_app 5 (pv 5) (re_var 9)) (rs_cons (st1 6 sc_added_bijective.nd (re_div (re_subA (re_var 8) (re_var 9)) (re_var 0))) (rs_one (st1 7 sc_added_bijective.nd (re_add (re_var 7) re_int))))))))) (rs_one (rs_ret (re_tupRev rfl (by rfl) T.n_tuple (by rfl) T.n_reversed (re_var 5))))))))))) l_added_bijective
abbrev s_below_base : Stmt := topS 41
abbrev N_below_base : List Str := ["base"]
theorem sc_below_base : FnScope N_below_base ["base"] (defScope s_below_base) := ⟨rfl, rfl, rfl, by decide +kernel, rfl, by decide +kernel, by decide +kernel⟩
theorem ok_below_base (D : Dfn K mg "below_base" "below_base" s_below_base ["base"]) (T : Txt mg)  : Cal P w K mg base 1 "below_base" ["base"] sp_below_base :=
  cal_ok (n := 0) D sc_below_base rfl (fun f cdv A outer s H E hr => by
    have hu := hr.u128
    exact (rs_cons (rs_if (rt_not (rtc2 (c_leA hu) (c_leA hu) (re_neg re_int) (re_var 0) (re_neg re_int))) rss_never rs_nil) (rs_one (rs_ret (re_var 0))))) l_below_base
abbrev s_value_signed : Stmt := topS 42
abbrev N_value_signed : List Str := ["base", "word", "whole", "digit"]
theorem sc_value_signed : FnScope N_value_signed ["base", "word"] (defScope s_value_signed) := ⟨rfl, rfl, rfl, by decide +kernel, rfl, by decide +kernel, by decide +kernel⟩
theorem ok_value_signed (D : Dfn K mg "value_signed" "value" s_value_signed ["base", "word"]) (T : Txt mg)  : Cal P w K mg base 1 "value_signed" ["base", "word"] sp_value_signed :=
  cal_ok (n := 2) D sc_value_signed rfl (fun f cdv A outer s H E hr => by
    exact (rs_cons (st1 2 sc_value_signed.nd re_int) (rs_cons (rs_for PassesOwn.never rfl (ri_seq (re_var 1)) (tg1 3 sc_value_signed.nd) (rs_one (st1 2 sc_value_signed.nd (re_add (re_mul (re_var 2) (re_var 0)) (re_var 3))))) (rs_one (rs_ret (re_var 2)))))) l_value_signed
abbrev s_are_below : Stmt := topS 44
abbrev N_are_below : List Str := ["base", "word", "digit"]
theorem sc_are_below : FnScope N_are_below ["base", "word"] (defScope s_are_below) := ⟨rfl, rfl, rfl, by decide +kernel, rfl, by decide +kernel, by decide +kernel⟩
theorem ok_are_below (D : Dfn K mg "are_below" "are_below" s_are_below ["base", "word"]) (T : Txt mg)  : Cal P w K mg base 1 "are_below" ["base", "word"] sp_are_below :=
  cal_ok (n := 1) D sc_are_below rfl (fun f cdv A outer s H E hr => by
    have hu := hr.u128
    exact (rs_one (rs_ret (re_and (re_not (re_any rfl (by rfl) T.n_any (ra_cons (re_f (rf_lc (own := [("digit", 2)]) rfl sc_are_below.nd (ri_seq (re_var 1)) (blkOk_by (N := N_are_below) (sc := defScope s_are_below) (by decide +kernel)) (fun _ _ _ _ _ => (tg1 2 sc_are_below.nd)) (fun _ _ _ _ _ => rts_nil) (fun _ _ _ _ _ => (re_not (rec2 (c_leA hu) (c_ltA hu) re_int (re_var 2) (re_neg (re_var 0))))))) ra_nil))) (re_one (re_or (re_not (re_var 1)) (re_one (rec (c_neX hu) (re_ix (re_var 1) re_int) re_int)))))))) l_are_below
abbrev s_below_added : Stmt := topS 45
abbrev N_below_added : List Str := ["base", "one", "other", "first", "second", "carries", "found", "at", "whole", "digit"]
theorem sc_below_added : FnScope N_below_added ["base", "one", "other"] (defScope s_below_added) := ⟨rfl, rfl, rfl, by decide +kernel, rfl, by decide +kernel, by decide +kernel⟩
theorem ok_below_added (D : Dfn K mg "below_added" "below_added" s_below_added ["base", "one", "other"]) (T : Txt mg) (c_below_base : Cal P w K mg base 1 "below_base" ["base"] sp_below_base) (c_are_below : Cal P w K mg base 1 "are_below" ["base", "word"] sp_are_below) : Cal P w K mg base 2 "below_added" ["base", "one", "other"] sp_below_added :=
  cal_ok (n := 7) D sc_below_added rfl (fun f cdv A outer s H E hr => by
    have hu := hr.u128
    exact (rs_cons (rs_ex (rcl c_below_base hr (ra_cons (re_var 0) ra_nil))) (rs_cons (st2 1 2 rfl sc_below_added.nd (ra_cons (re_tupOf (by rfl) T.n_tuple (ra_cons (re_var 1) ra_nil)) (ra_cons (re_tupOf (by rfl) T.n_tuple (ra_cons (re_var 2) ra_nil)) ra_nil))) (rs_cons (rs_if (rw_or (rt_not (rt_tru (rcl c_are_below hr (ra_cons (re_var 0) (ra_cons (re_var 1) ra_nil))))) (rw_or1 (rt_not (rt_tru (rcl c_are_below hr (ra_cons (re_var 0) (ra_cons (re_var 2) ra_nil))))))).rt rss_never rs_nil) (rs_cons (st2 3 4 rfl sc_below_added.nd (ra_cons (re_f (rf_listRev rfl (by rfl) T.n_list (by rfl) T.n_reversed (re_var 1))) (ra_cons (re_f (rf_listRev rfl (by rfl) T.n_list (by rfl) T.n_reversed (re_var 2))) ra_nil))) (rs_cons (stB 5 sc_below_added.nd (rf_lst (ra_cons re_int ra_nil))) (rs_cons (stB 6 sc_below_added.nd (rf_lst ra_nil)) (rs_cons (st1 7 sc_below_added.nd re_int) (rs_cons (rs_while PassesOwn.never (rw_or (rtc (c_ltA hu) (re_var 7) (re_max rfl (by rfl) T.n_max (ra_cons (re_len (by rfl) T.n_len (ra_cons (re_var 3) ra_nil)) (ra_cons (re_len (by rfl) T.n_len (ra_cons (re_var 4) ra_nil)) ra_nil)))) (rw_or1 (rtc (c_neX hu) (re_ix (re_var 5) (re_neg re_int)) re_int))).rt (rs_cons (st1 8 sc_below_added.nd (re_ix (re_var 5) (re_neg re_int))) (rs_cons (st1 8 sc_below_added.nd (re_add (re_add (re_var 8) (re_if (rtc (c_ltA hu) (re_var 7) (re_len (by rfl) T.n_len (ra_cons (re_var 3) ra_nil))) (re_ix (re_var 3) (re_var 7)) re_int)) (re_if (rtc (c_ltA hu) (re_var 7) (re_len (by rfl) T.n_len (ra_cons (re_var 4) ra_nil))) (re_ix (re_var 4) (re_var 7)) re_int))) (rs_cons (st1 9 sc_below_added.nd (re_mod (re_var 8) (re_neg (re_var 0)))) (rs_cons (rs_app 6 (pv 6) (re_var 9)) (rs_cons (rs_app 5 (pv 5) (re_divN (re_subA (re_var 8) (re_var 9)) (re_var 0))) (rs_one (st1 7 sc_below_added.nd (re_add (re_var 7) re_int))))))))) (rs_cons (rs_while PassesOwn.never (rw_and (rt_tru (re_var 6)) (rw_and1 (rtc (c_eqX hu) (re_ix (re_var 6) (re_neg re_int)) re_int))).rt (rs_one (rs_pop 6 (pv 6)))) (rs_one (rs_ret (re_tup (ra_cons re_str (ra_cons (re_var 1) (ra_cons (re_var 2) (ra_cons (re_tupOf (by rfl) T.n_tuple (ra_cons (re_var 5) ra_nil)) (ra_cons (re_tupRev rfl (by rfl) T.n_tuple (by rfl) T.n_reversed (re_var 6)) ra_nil)))))))))))))))))) l_below_added
abbrev s_balanced_base : Stmt := topS 46
abbrev N_balanced_base : List Str := ["base"]
theorem sc_balanced_base : FnScope N_balanced_base ["base"] (defScope s_balanced_base) := ⟨rfl, rfl, rfl, by decide +kernel, rfl, by decide +kernel, by decide +kernel⟩
theorem ok_balanced_base (D : Dfn K mg "balanced_base" "balanced_base" s_balanced_base ["base"]) (T : Txt mg)  : Cal P w K mg base 1 "balanced_base" ["base"] sp_balanced_base :=
  cal_ok (n := 0) D sc_balanced_base rfl (fun f cdv A outer s H E hr => by
    have hu := hr.u128
    exact (rs_cons (rs_if (rw_or (rt_not (rtc2 (c_leA hu) (c_leA hu) re_int (re_var 0) re_int)) (rw_or1 (rtc (c_eqX hu) (re_mod (re_var 0) re_int) re_int))).rt rss_never rs_nil) (rs_one (rs_ret (re_var 0))))) l_balanced_base
abbrev s_are_balanced : Stmt := topS 47
abbrev N_are_balanced : List Str := ["base", "word", "half", "digit"]
theorem sc_are_balanced : FnScope N_are_balanced ["base", "word"] (defScope s_are_balanced) := ⟨rfl, rfl, rfl, by decide +kernel, rfl, by decide +kernel, by decide +kernel⟩
theorem ok_are_balanced (D : Dfn K mg "are_balanced" "are_balanced" s_are_balanced ["base", "word"]) (T : Txt mg) (c_balanced_base : Cal P w K mg base 1 "balanced_base" ["base"] sp_balanced_base) : Cal P w K mg base 2 "are_balanced" ["base", "word"] sp_are_balanced :=
  cal_ok (n := 2) D sc_are_balanced rfl (fun f cdv A outer s H E hr => by
    have hu := hr.u128
    exact (rs_cons (st1 2 sc_are_balanced.nd (re_div (rcl c_balanced_base hr (ra_cons (re_var 0) ra_nil)) re_int)) (rs_one (rs_ret (re_and (re_not (re_any rfl (by rfl) T.n_any (ra_cons (re_f (rf_lc (own := [("digit", 3)]) rfl sc_are_balanced.nd (ri_seq (re_var 1)) (blkOk_by (N := N_are_balanced) (sc := defScope s_are_balanced) (by decide +kernel)) (fun _ _ _ _ _ => (tg1 3 sc_are_balanced.nd)) (fun _ _ _ _ _ => rts_nil) (fun _ _ _ _ _ => (rec (c_gtA hu) (re_abs (by rfl) T.n_abs (ra_cons (re_var 3) ra_nil)) (re_var 2))))) ra_nil))) (re_one (re_or (re_not (re_var 1)) (re_one (rec (c_neX hu) (re_ix (re_var 1) re_int) re_int))))))))) l_are_balanced
abbrev s_turned : Stmt := topS 48
abbrev N_turned : List Str := ["word", "digit"]
theorem sc_turned : FnScope N_turned ["word"] (defScope s_turned) := ⟨rfl, rfl, rfl, by decide +kernel, rfl, by decide +kernel, by decide +kernel⟩
theorem ok_turned (D : Dfn K mg "turned" "turned" s_turned ["word"]) (T : Txt mg)  : Cal P w K mg base 1 "turned" ["word"] sp_turned :=
  cal_ok (n := 1) D sc_turned rfl (fun f cdv A outer s H E hr => by
    exact (rs_one (rs_ret (re_tupOf (by rfl) T.n_tuple (ra_cons (re_f (rf_lc (own := [("digit", 1)]) rfl sc_turned.nd (ri_seq (re_var 0)) (blkOk_by (N := N_turned) (sc := defScope s_turned) (by decide +kernel)) (fun _ _ _ _ _ => (tg1 1 sc_turned.nd)) (fun _ _ _ _ _ => rts_nil) (fun _ _ _ _ _ => (re_neg (re_var 1))))) ra_nil))))) l_turned
abbrev s_rounded : Stmt := topS 49
abbrev N_rounded : List Str := ["word", "places"]
theorem sc_rounded : FnScope N_rounded ["word", "places"] (defScope s_rounded) := ⟨rfl, rfl, rfl, by decide +kernel, rfl, by decide +kernel, by decide +kernel⟩
theorem ok_rounded (D : Dfn K mg "rounded" "rounded" s_rounded ["word", "places"]) (T : Txt mg)  : Cal P w K mg base 1 "rounded" ["word", "places"] sp_rounded :=
  cal_ok (n := 0) D sc_rounded rfl (fun f cdv A outer s H E hr => by
    have hu := hr.u128
    exact (rs_cons (rs_if (rt_not (rtc2 (c_leA hu) (c_leA hu) re_int (re_var 1) (re_len (by rfl) T.n_len (ra_cons (re_var 0) ra_nil)))) rss_never rs_nil) (rs_one (rs_ret (re_tupOf (by rfl) T.n_tuple (ra_cons (re_sl (re_var 0) ro_none (ro_some (re_subA (re_len (by rfl) T.n_len (ra_cons (re_var 0) ra_nil)) (re_var 1)))) ra_nil)))))) l_rounded
abbrev s_are_apart : Stmt := topS 50
abbrev N_are_apart : List Str := ["word", "digit", "a", "b"]
theorem sc_are_apart : FnScope N_are_apart ["word"] (defScope s_are_apart) := ⟨rfl, rfl, rfl, by decide +kernel, rfl, by decide +kernel, by decide +kernel⟩
theorem ok_are_apart (D : Dfn K mg "are_apart" "are_apart" s_are_apart ["word"]) (T : Txt mg)  : Cal P w K mg base 1 "are_apart" ["word"] sp_are_apart :=
  cal_ok (n := 3) D sc_are_apart rfl (fun f cdv A outer s H E hr => by
    have hu := hr.u128
    exact (rs_cons (rs_if (rw_or (rt_tru (re_any rfl (by rfl) T.n_any (ra_cons (re_f (rf_lc (own := [("digit", 1)]) rfl sc_are_apart.nd (ri_seq (re_var 0)) (blkOk_by (N := N_are_apart) (sc := defScope s_are_apart) (by decide +kernel)) (fun _ _ _ _ _ => (tg1 1 sc_are_apart.nd)) (fun _ _ _ _ _ => rts_nil) (fun _ _ _ _ _ => (rec (c_notin hu) (re_var 1) (re_tup (ra_cons (re_neg re_int) (ra_cons re_int (ra_cons re_int ra_nil)))))))) ra_nil))) (rw_or1 (rw_and (rt_tru (re_var 0)) (rw_and1 (rtc (c_eqX hu) (re_ix (re_var 0) re_int) re_int))).rt)).rt (rs_one (rs_ret re_bl)) rs_nil) (rs_one (rs_ret (re_not (re_any rfl (by rfl) T.n_any (ra_cons (re_f (rf_lc (own := [("a", 2), ("b", 3)]) rfl sc_are_apart.nd (ri_zip2 (by rfl) T.n_zip (ra_cons (re_var 0) (ra_cons (re_sl (re_var 0) (ro_some re_int) ro_none) ra_nil))) (blkOk_by (N := N_are_apart) (sc := defScope s_are_apart) (by decide +kernel)) (fun _ _ _ _ _ => (tgS rfl (tgc (tg1 2 sc_are_apart.nd) (tgc (tg1 3 sc_are_apart.nd) rgs_nil)))) (fun _ _ _ _ _ => rts_nil) (fun _ _ _ _ _ => (re_and (rec (c_neX hu) (re_var 2) re_int) (re_one (rec (c_neX hu) (re_var 3) re_int)))))) ra_nil))))))) l_are_apart
abbrev s_weight : Stmt := topS 51
abbrev N_weight : List Str := ["word", "digit"]
theorem sc_weight : FnScope N_weight ["word"] (defScope s_weight) := ⟨rfl, rfl, rfl, by decide +kernel, rfl, by decide +kernel, by decide +kernel⟩
theorem ok_weight (D : Dfn K mg "weight" "weight" s_weight ["word"]) (T : Txt mg)  : Cal P w K mg base 1 "weight" ["word"] sp_weight :=
  cal_ok (n := 1) D sc_weight rfl (fun f cdv A outer s H E hr => by
    have hu := hr.u128
    exact (rs_one (rs_ret (re_len (by rfl) T.n_len (ra_cons (re_f (rf_lc (own := [("digit", 1)]) rfl sc_weight.nd (ri_seq (re_var 0)) (blkOk_by (N := N_weight) (sc := defScope s_weight) (by decide +kernel)) (fun _ _ _ _ _ => (tg1 1 sc_weight.nd)) (fun _ _ _ _ _ => (rts_one (rtc (c_neX hu) (re_var 1) re_int))) (fun _ _ _ _ _ => (re_var 1)))) ra_nil))))) l_weight
abbrev s__law_cell : Stmt := topS 53
abbrev N__law_cell : List Str := ["script", "k"]
theorem sc__law_cell : FnScope N__law_cell ["script", "k"] (defScope s__law_cell) := ⟨rfl, rfl, rfl, by decide +kernel, rfl, by decide +kernel, by decide +kernel⟩
theorem ok__law_cell (D : Dfn K mg "_law_cell" "_law_cell" s__law_cell ["script", "k"]) (T : Txt mg)  : Cal P w K mg base 1 "_law_cell" ["script", "k"] sp__law_cell :=
  cal_ok (n := 0) D sc__law_cell rfl (fun f cdv A outer s H E hr => by
    have hu := hr.u128
    exact (rs_cons (rs_if (rtc (c_ltA hu) (re_var 1) (re_len (by rfl) T.n_len (ra_cons (re_var 0) ra_nil))) (rs_one (rs_ret (re_ix (re_var 0) (re_var 1)))) rs_nil) (rs_one (rs_ret re_int)))) l__law_cell
abbrev s__law_source : Stmt := topS 54
abbrev N__law_source : List Str := ["cell", "k"]
theorem sc__law_source : FnScope N__law_source ["cell", "k"] (defScope s__law_source) := ⟨rfl, rfl, rfl, by decide +kernel, rfl, by decide +kernel, by decide +kernel⟩
theorem ok__law_source (D : Dfn K mg "_law_source" "_law_source" s__law_source ["cell", "k"]) (T : Txt mg)  : Cal P w K mg base 1 "_law_source" ["cell", "k"] sp__law_source :=
  cal_ok (n := 0) D sc__law_source rfl (fun f cdv A outer s H E hr => by
    have hu := hr.u128
    exact (rs_cons (rs_if (rtc (c_geA hu) (re_var 0) (re_pow re_int re_int)) (rs_one (rs_ret (re_f (rf_lst (ra_cons (re_subA (re_var 0) (re_pow re_int re_int)) (ra_cons (re_add (re_var 1) re_int) ra_nil)))))) rs_nil) (rs_one (rs_ret (re_f (rf_lst (ra_cons re_int (ra_cons (re_mod (re_intc (by rfl) T.n_int (ra_cons (re_add (re_add (re_mul (re_var 0) re_int) (re_mul (re_var 1) re_int)) re_int) ra_nil)) re_int) ra_nil)))))))) l__law_source
abbrev s__law_pick : Stmt := topS 55
abbrev N__law_pick : List Str := ["source", "many", "picked", "mixed"]
theorem sc__law_pick : FnScope N__law_pick ["source", "many"] (defScope s__law_pick) := ⟨rfl, rfl, rfl, by decide +kernel, rfl, by decide +kernel, by decide +kernel⟩
theorem ok__law_pick (D : Dfn K mg "_law_pick" "_law_pick" s__law_pick ["source", "many"]) (T : Txt mg)  : Cal P w K mg base 1 "_law_pick" ["source", "many"] sp__law_pick :=
  cal_ok (n := 2) D sc__law_pick rfl (fun f cdv A outer s H E hr => by
    have hu := hr.u128
    exact (rs_cons (rs_if (rtc (c_gtA hu) (re_ix (re_var 0) re_int) re_int) (rs_cons (st1 2 sc__law_pick.nd (re_mod (re_intc (by rfl) T.n_int (ra_cons (re_ix (re_var 0) re_int) ra_nil)) (re_var 1))) (rs_cons (rs_put 0 (pv 0) re_int (re_div (re_ix (re_var 0) re_int) (re_var 1))) (rs_one (rs_ret (re_var 2))))) rs_nil) (rs_cons (rs_put 0 (pv 0) re_int (re_mod (re_intc (by rfl) T.n_int (ra_cons (re_add (re_mul (re_ix (re_var 0) re_int) re_int) re_int) ra_nil)) re_int)) (rs_cons (st1 3 sc__law_pick.nd (re_mod (re_intc (by rfl) T.n_int (ra_cons (re_add (re_add (re_mul (re_ix (re_var 0) re_int) re_int) (re_div (re_ix (re_var 0) re_int) re_int)) re_int) ra_nil)) re_int)) (rs_one (rs_ret (re_mod (re_intc (by rfl) T.n_int (ra_cons (re_div (re_var 3) re_int) ra_nil)) (re_var 1)))))))) l__law_pick
abbrev s__law_same : Stmt := topS 56
abbrev N__law_same : List Str := ["told", "due", "k"]
theorem sc__law_same : FnScope N__law_same ["told", "due"] (defScope s__law_same) := ⟨rfl, rfl, rfl, by decide +kernel, rfl, by decide +kernel, by decide +kernel⟩
theorem ok__law_same (D : Dfn K mg "_law_same" "_law_same" s__law_same ["told", "due"]) (T : Txt mg)  {k n : Nat} (hk : 0 ≤ k) (c_rec : Cal P w K mg base k "_law_same" ["told", "due"] (spr__law_same n)) : Cal P w K mg base (k + 1) "_law_same" ["told", "due"] (spr__law_same (n + 1)) :=
  cal_ok (n := 1) D sc__law_same rfl (fun f cdv A outer s H E hr => by
    have hu := hr.u128
    exact (rs_cons (rs_if (rt_tru (re_isi (T := .tuple) (by rfl) T.n_isinstance (by rfl) T.n_tuple (by decide +kernel) (re_var 1))) (rs_cons (rs_if (rw_or (rt_not (rt_tru (re_isi (T := .tuple) (by rfl) T.n_isinstance (by rfl) T.n_tuple (by decide +kernel) (re_var 0)))) (rw_or1 (rtc (c_neX hu) (re_len (by rfl) T.n_len (ra_cons (re_var 0) ra_nil)) (re_len (by rfl) T.n_len (ra_cons (re_var 1) ra_nil))))).rt (rs_one (rs_ret re_bl)) rs_nil) (rs_one (rs_ret (rec (c_eqX hu) (re_f (rf_lc (own := [("k", 2)]) rfl sc__law_same.nd (ri_rng1 (by rfl) T.n_range (ra_cons (re_len (by rfl) T.n_len (ra_cons (re_var 1) ra_nil)) ra_nil)) (blkOk_by (N := N__law_same) (sc := defScope s__law_same) (by decide +kernel)) (fun _ _ _ _ _ => (tg1 2 sc__law_same.nd)) (fun _ _ _ _ _ => (rts_one (rt_not (rt_tru (rcl c_rec hr (ra_cons (re_ix (re_var 0) (re_var 2)) (ra_cons (re_ix (re_var 1) (re_var 2)) ra_nil)) (hkj := by omega)))))) (fun _ _ _ _ _ => (re_var 2)))) (re_f (rf_lst ra_nil)))))) rs_nil) (rs_cons (rs_if (rt_tru (re_isi (T := .list) (by rfl) T.n_isinstance (by rfl) T.n_list (by decide +kernel) (re_var 1))) (rs_cons (rs_if (rw_or (rt_not (rt_tru (re_isi (T := .list) (by rfl) T.n_isinstance (by rfl) T.n_list (by decide +kernel) (re_var 0)))) (rw_or1 (rtc (c_neX hu) (re_len (by rfl) T.n_len (ra_cons (re_var 0) ra_nil)) (re_len (by rfl) T.n_len (ra_cons (re_var 1) ra_nil))))).rt (rs_one (rs_ret re_bl)) rs_nil) (rs_one (rs_ret (rec (c_eqX hu) (re_f (rf_lc (own := [("k", 2)]) rfl sc__law_same.nd (ri_rng1 (by rfl) T.n_range (ra_cons (re_len (by rfl) T.n_len (ra_cons (re_var 1) ra_nil)) ra_nil)) (blkOk_by (N := N__law_same) (sc := defScope s__law_same) (by decide +kernel)) (fun _ _ _ _ _ => (tg1 2 sc__law_same.nd)) (fun _ _ _ _ _ => (rts_one (rt_not (rt_tru (rcl c_rec hr (ra_cons (re_ix (re_var 0) (re_var 2)) (ra_cons (re_ix (re_var 1) (re_var 2)) ra_nil)) (hkj := by omega)))))) (fun _ _ _ _ _ => (re_var 2)))) (re_f (rf_lst ra_nil)))))) rs_nil) (rs_cons (rs_if (rtc c_is (re_var 1) re_non) (rs_one (rs_ret (rec c_is (re_var 0) re_non))) rs_nil) (rs_cons (rs_if (rt_tru (re_isi (T := .bool) (by rfl) T.n_isinstance (by rfl) T.n_bool (by decide +kernel) (re_var 1))) (rs_one (rs_ret (re_and (re_isi (T := .bool) (by rfl) T.n_isinstance (by rfl) T.n_bool (by decide +kernel) (re_var 0)) (re_one (rec (c_eqX hu) (re_var 0) (re_var 1)))))) rs_nil) (rs_cons (rs_if (rt_tru (re_isi (T := .int) (by rfl) T.n_isinstance (by rfl) T.n_int (by decide +kernel) (re_var 1))) (rs_one (rs_ret (re_and (re_isi (T := .int) (by rfl) T.n_isinstance (by rfl) T.n_int (by decide +kernel) (re_var 0)) (re_and (re_not (re_isi (T := .bool) (by rfl) T.n_isinstance (by rfl) T.n_bool (by decide +kernel) (re_var 0))) (re_one (rec (c_eqX hu) (re_var 0) (re_var 1))))))) rs_nil) (rs_one (rs_ret (re_and (re_isi (T := .str) (by rfl) T.n_isinstance (by rfl) T.n_str (by decide +kernel) (re_var 0)) (re_one (rec (c_eqX hu) (re_var 0) (re_var 1)))))))))))) (l__law_same n)
abbrev s__law_all_same : Stmt := topS 57
abbrev N__law_all_same : List Str := ["rows", "k"]
theorem sc__law_all_same : FnScope N__law_all_same ["rows"] (defScope s__law_all_same) := ⟨rfl, rfl, rfl, by decide +kernel, rfl, by decide +kernel, by decide +kernel⟩
theorem ok__law_all_same (D : Dfn K mg "_law_all_same" "_law_all_same" s__law_all_same ["rows"]) (T : Txt mg) (c__law_same : Cal P w K mg base 6 "_law_same" ["told", "due"] sp__law_same) : Cal P w K mg base 7 "_law_all_same" ["rows"] sp__law_all_same :=
  cal_ok (n := 1) D sc__law_all_same rfl (fun f cdv A outer s H E hr => by
    have hu := hr.u128
    exact (rs_one (rs_ret (rec (c_eqX hu) (re_f (rf_lc (own := [("k", 1)]) rfl sc__law_all_same.nd (ri_rng1 (by rfl) T.n_range (ra_cons (re_len (by rfl) T.n_len (ra_cons (re_var 0) ra_nil)) ra_nil)) (blkOk_by (N := N__law_all_same) (sc := defScope s__law_all_same) (by decide +kernel)) (fun _ _ _ _ _ => (tg1 1 sc__law_all_same.nd)) (fun _ _ _ _ _ => (rts_one (rt_not (rt_tru (rcl c__law_same hr (ra_cons (re_ix (re_ix (re_var 0) (re_var 1)) re_int) (ra_cons (re_ix (re_ix (re_var 0) (re_var 1)) re_int) ra_nil))))))) (fun _ _ _ _ _ => (re_var 1)))) (re_f (rf_lst ra_nil)))))) l__law_all_same
abbrev s__law_great : Stmt := topS 58
abbrev N__law_great : List Str := ["source", "way", "whole", "turn"]
theorem sc__law_great : FnScope N__law_great ["source"] (defScope s__law_great) := ⟨rfl, rfl, rfl, by decide +kernel, rfl, by decide +kernel, by decide +kernel⟩
theorem ok__law_great (D : Dfn K mg "_law_great" "_law_great" s__law_great ["source"]) (T : Txt mg) (c__law_pick : Cal P w K mg base 1 "_law_pick" ["source", "many"] sp__law_pick) : Cal P w K mg base 2 "_law_great" ["source"] sp__law_great :=
  cal_ok (n := 3) D sc__law_great rfl (fun f cdv A outer s H E hr => by
    have hu := hr.u128
    exact (rs_cons (st1 1 sc__law_great.nd (rcl c__law_pick hr (ra_cons (re_var 0) (ra_cons re_int ra_nil)))) (rs_cons (rs_if (rtc (c_eqX hu) (re_var 1) re_int) (rs_one (rs_ret (rcl c__law_pick hr (ra_cons (re_var 0) (ra_cons re_int ra_nil))))) rs_nil) (rs_cons (rs_if (rtc (c_eqX hu) (re_var 1) re_int) (rs_one (rs_ret (rcl c__law_pick hr (ra_cons (re_var 0) (ra_cons re_int ra_nil))))) rs_nil) (rs_cons (st1 2 sc__law_great.nd re_int) (rs_cons (rs_for PassesOwn.never rfl (ri_rng1 (by rfl) T.n_range (ra_cons (re_add re_int (rcl c__law_pick hr (ra_cons (re_var 0) (ra_cons re_int ra_nil)))) ra_nil)) (tg1 3 sc__law_great.nd) (rs_one (st1 2 sc__law_great.nd (re_add (re_mul (re_var 2) re_int) (rcl c__law_pick hr (ra_cons (re_var 0) (ra_cons re_int ra_nil))))))) (rs_one (rs_ret (re_var 2))))))))) l__law_great
abbrev s__law_power : Stmt := topS 59
abbrev N__law_power : List Str := ["base", "e", "whole", "step"]
theorem sc__law_power : FnScope N__law_power ["base", "e"] (defScope s__law_power) := ⟨rfl, rfl, rfl, by decide +kernel, rfl, by decide +kernel, by decide +kernel⟩
theorem ok__law_power (D : Dfn K mg "_law_power" "_law_power" s__law_power ["base", "e"]) (T : Txt mg)  : Cal P w K mg base 1 "_law_power" ["base", "e"] sp__law_power :=
  cal_ok (n := 2) D sc__law_power rfl (fun f cdv A outer s H E hr => by
    exact (rs_cons (st1 2 sc__law_power.nd re_int) (rs_cons (rs_for PassesOwn.never rfl (ri_rng1 (by rfl) T.n_range (ra_cons (re_var 1) ra_nil)) (tg1 3 sc__law_power.nd) (rs_one (st1 2 sc__law_power.nd (re_mul (re_var 2) (re_var 0))))) (rs_one (rs_ret (re_var 2)))))) l__law_power
abbrev s__law_digits : Stmt := topS 60
abbrev N__law_digits : List Str := ["base", "n", "found", "left"]
theorem sc__law_digits : FnScope N__law_digits ["base", "n"] (defScope s__law_digits) := ⟨rfl, rfl, rfl, by decide +kernel, rfl, by decide +kernel, by decide +kernel⟩
theorem ok__law_digits (D : Dfn K mg "_law_digits" "_law_digits" s__law_digits ["base", "n"]) (T : Txt mg)  : Cal P w K mg base 1 "_law_digits" ["base", "n"] sp__law_digits :=
  cal_ok (n := 2) D sc__law_digits rfl (fun f cdv A outer s H E hr => by
    have hu := hr.u128
    exact (rs_cons (stB 2 sc__law_digits.nd (rf_lst ra_nil)) (rs_cons (st1 3 sc__law_digits.nd (re_var 1)) (rs_cons (rs_while PassesOwn.never (rtc (c_gtA hu) (re_var 3) re_int) (rs_cons (rs_app 2 (pv 2) (re_mod (re_var 3) (re_var 0))) (rs_one (st1 3 sc__law_digits.nd (re_div (re_var 3) (re_var 0)))))) (rs_one (rs_ret (re_tupOf (by rfl) T.n_tuple (ra_cons (re_rev (re_var 2)) ra_nil)))))))) l__law_digits
abbrev s__law_sign : Stmt := topS 61
abbrev N__law_sign : List Str := ["one", "other"]
theorem sc__law_sign : FnScope N__law_sign ["one", "other"] (defScope s__law_sign) := ⟨rfl, rfl, rfl, by decide +kernel, rfl, by decide +kernel, by decide +kernel⟩
theorem ok__law_sign (D : Dfn K mg "_law_sign" "_law_sign" s__law_sign ["one", "other"]) (T : Txt mg)  : Cal P w K mg base 1 "_law_sign" ["one", "other"] sp__law_sign :=
  cal_ok (n := 0) D sc__law_sign rfl (fun f cdv A outer s H E hr => by
    have hu := hr.u128
    exact (rs_one (rs_ret (re_subA (re_intc (by rfl) T.n_int (ra_cons (rec (c_gtA hu) (re_var 0) (re_var 1)) ra_nil)) (re_intc (by rfl) T.n_int (ra_cons (rec (c_ltA hu) (re_var 0) (re_var 1)) ra_nil)))))) l__law_sign
abbrev s__law_scaled : Stmt := topS 62
abbrev N__law_scaled : List Str := ["base", "word", "factor", "carries", "digit"]
theorem sc__law_scaled : FnScope N__law_scaled ["base", "word", "factor"] (defScope s__law_scaled) := ⟨rfl, rfl, rfl, by decide +kernel, rfl, by decide +kernel, by decide +kernel⟩
theorem ok__law_scaled (D : Dfn K mg "_law_scaled" "_law_scaled" s__law_scaled ["base", "word", "factor"]) (T : Txt mg)  : Cal P w K mg base 1 "_law_scaled" ["base", "word", "factor"] sp__law_scaled :=
  cal_ok (n := 2) D sc__law_scaled rfl (fun f cdv A outer s H E hr => by
    exact (rs_cons (stB 3 sc__law_scaled.nd (rf_lst (ra_cons re_int ra_nil))) (rs_cons (rs_for PassesOwn.never rfl (ri_seq (re_rev (re_var 1))) (tg1 4 sc__law_scaled.nd) (rs_one (rs_app 3 (pv 3) (re_div (re_add (re_mul (re_var 4) (re_var 2)) (re_ix (re_var 3) (re_subA (re_len (by rfl) T.n_len (ra_cons (re_var 3) ra_nil)) re_int))) (re_var 0))))) (rs_one (rs_ret (re_tupOf (by rfl) T.n_tuple (ra_cons (re_var 3) ra_nil))))))) l__law_scaled
abbrev s__law_carries : Stmt := topS 63
abbrev N__law_carries : List Str := ["base", "one", "other", "size", "first", "second", "carries", "at"]
theorem sc__law_carries : FnScope N__law_carries ["base", "one", "other"] (defScope s__law_carries) := ⟨rfl, rfl, rfl, by decide +kernel, rfl, by decide +kernel, by decide +kernel⟩
theorem ok__law_carries (D : Dfn K mg "_law_carries" "_law_carries" s__law_carries ["base", "one", "other"]) (T : Txt mg)  : Cal P w K mg base 1 "_law_carries" ["base", "one", "other"] sp__law_carries :=
  cal_ok (n := 5) D sc__law_carries rfl (fun f cdv A outer s H E hr => by
    have hu := hr.u128
    exact (rs_cons (st1 3 sc__law_carries.nd (re_max rfl (by rfl) T.n_max (ra_cons (re_len (by rfl) T.n_len (ra_cons (re_var 1) ra_nil)) (ra_cons (re_len (by rfl) T.n_len (ra_cons (re_var 2) ra_nil)) ra_nil)))) (rs_cons (st2 4 5 rfl sc__law_carries.nd (ra_cons (re_rev (re_add (re_mul (re_tup (ra_cons re_int ra_nil)) (re_var 3)) (re_var 1))) (ra_cons (re_rev (re_add (re_mul (re_tup (ra_cons re_int ra_nil)) (re_var 3)) (re_var 2))) ra_nil))) (rs_cons (stB 6 sc__law_carries.nd (rf_lst (ra_cons re_int ra_nil))) (rs_cons (rs_for PassesOwn.never rfl (ri_rng1 (by rfl) T.n_range (ra_cons (re_var 3) ra_nil)) (tg1 7 sc__law_carries.nd) (rs_one (rs_app 6 (pv 6) (re_intc (by rfl) T.n_int (ra_cons (rec (c_geA hu) (re_add (re_add (re_ix (re_var 4) (re_var 7)) (re_ix (re_var 5) (re_var 7))) (re_ix (re_var 6) (re_var 7))) (re_var 0)) ra_nil))))) (rs_one (rs_ret (re_tupOf (by rfl) T.n_tuple (ra_cons (re_var 6) ra_nil))))))))) l__law_carries
abbrev s__law_below : Stmt := topS 64
abbrev N__law_below : List Str := ["size", "n", "found", "left", "digit"]
theorem sc__law_below : FnScope N__law_below ["size", "n"] (defScope s__law_below) := ⟨rfl, rfl, rfl, by decide +kernel, rfl, by decide +kernel, by decide +kernel⟩
theorem ok__law_below (D : Dfn K mg "_law_below" "_law_below" s__law_below ["size", "n"]) (T : Txt mg)  : Cal P w K mg base 1 "_law_below" ["size", "n"] sp__law_below :=
  cal_ok (n := 3) D sc__law_below rfl (fun f cdv A outer s H E hr => by
    have hu := hr.u128
    exact (rs_cons (stB 2 sc__law_below.nd (rf_lst ra_nil)) (rs_cons (st1 3 sc__law_below.nd (re_var 1)) (rs_cons (rs_while PassesOwn.never (rtc (c_neX hu) (re_var 3) re_int) (rs_cons (st1 4 sc__law_below.nd (re_mod (re_var 3) (re_var 0))) (rs_cons (rs_app 2 (pv 2) (re_var 4)) (rs_one (st1 3 sc__law_below.nd (re_subA re_int (re_divN (re_subA (re_var 3) (re_var 4)) (re_var 0)))))))) (rs_one (rs_ret (re_tupOf (by rfl) T.n_tuple (ra_cons (re_rev (re_var 2)) ra_nil)))))))) l__law_below
abbrev s__law_below_carries : Stmt := topS 65
abbrev N__law_below_carries : List Str := ["size", "one", "other", "most", "first", "second", "carries", "at", "whole"]
theorem sc__law_below_carries : FnScope N__law_below_carries ["size", "one", "other"] (defScope s__law_below_carries) := ⟨rfl, rfl, rfl, by decide +kernel, rfl, by decide +kernel, by decide +kernel⟩
theorem ok__law_below_carries (D : Dfn K mg "_law_below_carries" "_law_below_carries" s__law_below_carries ["size", "one", "other"]) (T : Txt mg)  : Cal P w K mg base 1 "_law_below_carries" ["size", "one", "other"] sp__law_below_carries :=
  cal_ok (n := 6) D sc__law_below_carries rfl (fun f cdv A outer s H E hr => by
    have hu := hr.u128
    exact (rs_cons (st1 3 sc__law_below_carries.nd (re_max rfl (by rfl) T.n_max (ra_cons (re_len (by rfl) T.n_len (ra_cons (re_var 1) ra_nil)) (ra_cons (re_len (by rfl) T.n_len (ra_cons (re_var 2) ra_nil)) ra_nil)))) (rs_cons (st2 4 5 rfl sc__law_below_carries.nd (ra_cons (re_rev (re_add (re_mul (re_tup (ra_cons re_int ra_nil)) (re_var 3)) (re_var 1))) (ra_cons (re_rev (re_add (re_mul (re_tup (ra_cons re_int ra_nil)) (re_var 3)) (re_var 2))) ra_nil))) (rs_cons (stB 6 sc__law_below_carries.nd (rf_lst (ra_cons re_int ra_nil))) (rs_cons (st1 7 sc__law_below_carries.nd re_int) (rs_cons (rs_while PassesOwn.never (rw_or (rtc (c_ltA hu) (re_var 7) (re_var 3)) (rw_or1 (rtc (c_neX hu) (re_ix (re_var 6) (re_var 7)) re_int))).rt (rs_cons (st1 8 sc__law_below_carries.nd (re_ix (re_var 6) (re_var 7))) (rs_cons (rs_if (rtc (c_ltA hu) (re_var 7) (re_var 3)) (rs_one (st1 8 sc__law_below_carries.nd (re_add (re_add (re_var 8) (re_ix (re_var 4) (re_var 7))) (re_ix (re_var 5) (re_var 7))))) rs_nil) (rs_cons (rs_app 6 (pv 6) (re_subA re_int (re_divN (re_subA (re_var 8) (re_mod (re_var 8) (re_var 0))) (re_var 0)))) (rs_one (st1 7 sc__law_below_carries.nd (re_add (re_var 7) re_int))))))) (rs_one (rs_ret (re_tupOf (by rfl) T.n_tuple (ra_cons (re_var 6) ra_nil)))))))))) l__law_below_carries
abbrev s__law_ones : Stmt := topS 66
abbrev N__law_ones : List Str := ["base", "n", "found", "left", "digit"]
theorem sc__law_ones : FnScope N__law_ones ["base", "n"] (defScope s__law_ones) := ⟨rfl, rfl, rfl, by decide +kernel, rfl, by decide +kernel, by decide +kernel⟩
theorem ok__law_ones (D : Dfn K mg "_law_ones" "_law_ones" s__law_ones ["base", "n"]) (T : Txt mg)  : Cal P w K mg base 1 "_law_ones" ["base", "n"] sp__law_ones :=
  cal_ok (n := 3) D sc__law_ones rfl (fun f cdv A outer s H E hr => by
    have hu := hr.u128
    exact (rs_cons (stB 2 sc__law_ones.nd (rf_lst ra_nil)) (rs_cons (st1 3 sc__law_ones.nd (re_var 1)) (rs_cons (rs_while PassesOwn.never (rtc (c_gtA hu) (re_var 3) re_int) (rs_cons (st1 4 sc__law_ones.nd (re_mod (re_var 3) (re_var 0))) (rs_cons (rs_if (rtc (c_eqX hu) (re_var 4) re_int) (rs_one (st1 4 sc__law_ones.nd (re_var 0))) rs_nil) (rs_cons (rs_app 2 (pv 2) (re_var 4)) (rs_one (st1 3 sc__law_ones.nd (re_div (re_subA (re_var 3) (re_var 4)) (re_var 0)))))))) (rs_one (rs_ret (re_tupOf (by rfl) T.n_tuple (ra_cons (re_rev (re_var 2)) ra_nil)))))))) l__law_ones
abbrev s__law_kept : Stmt := topS 67
abbrev N__law_kept : List Str := ["hands", "copies", "k"]
theorem sc__law_kept : FnScope N__law_kept ["hands", "copies"] (defScope s__law_kept) := ⟨rfl, rfl, rfl, by decide +kernel, rfl, by decide +kernel, by decide +kernel⟩
theorem ok__law_kept (D : Dfn K mg "_law_kept" "_law_kept" s__law_kept ["hands", "copies"]) (T : Txt mg) (c__law_same : Cal P w K mg base 6 "_law_same" ["told", "due"] sp__law_same) : Cal P w K mg base 7 "_law_kept" ["hands", "copies"] sp__law_kept :=
  cal_ok (n := 1) D sc__law_kept rfl (fun f cdv A outer s H E hr => by
    have hu := hr.u128
    exact (rs_one (rs_ret (rec (c_eqX hu) (re_f (rf_lc (own := [("k", 2)]) rfl sc__law_kept.nd (ri_rng1 (by rfl) T.n_range (ra_cons (re_len (by rfl) T.n_len (ra_cons (re_var 0) ra_nil)) ra_nil)) (blkOk_by (N := N__law_kept) (sc := defScope s__law_kept) (by decide +kernel)) (fun _ _ _ _ _ => (tg1 2 sc__law_kept.nd)) (fun _ _ _ _ _ => (rts_one (rt_not (rt_tru (rcl c__law_same hr (ra_cons (re_ix (re_var 0) (re_var 2)) (ra_cons (re_f (rf_listOf (by rfl) T.n_list (ra_cons (re_ix (re_var 1) (re_var 2)) ra_nil))) ra_nil))))))) (fun _ _ _ _ _ => (re_var 2)))) (re_f (rf_lst ra_nil)))))) l__law_kept
abbrev s__law_plain_right : Stmt := topS 68
abbrev N__law_plain_right : List Str := ["source", "base", "second", "n", "m", "factor", "size", "own", "hands", "one", "other", "high", "low", "wide", "due", "rows", "word"]
theorem sc__law_plain_right : FnScope N__law_plain_right ["source"] (defScope s__law_plain_right) := ⟨rfl, rfl, rfl, by decide +kernel, rfl, by decide +kernel, by decide +kernel⟩
theorem ok__law_plain_right (D : Dfn K mg "_law_plain_right" "_law_plain_right" s__law_plain_right ["source"]) (T : Txt mg) (c__law_pick : Cal P w K mg base 1 "_law_pick" ["source", "many"] sp__law_pick) (c__law_great : Cal P w K mg base 2 "_law_great" ["source"] sp__law_great) (c__law_digits : Cal P w K mg base 1 "_law_digits" ["base", "n"] sp__law_digits) (c__law_power : Cal P w K mg base 1 "_law_power" ["base", "e"] sp__law_power) (c__law_carries : Cal P w K mg base 1 "_law_carries" ["base", "one", "other"] sp__law_carries) (c_value_bases : Cal P w K mg base 1 "value_bases" ["base", "word"] sp_value_bases) (c_are_digits_bases : Cal P w K mg base 1 "are_digits_bases" ["base", "word"] sp_are_digits_bases) (c_added_bases : Cal P w K mg base 3 "added_bases" ["base", "one", "other"] sp_added_bases) (c_less : Cal P w K mg base 4 "less" ["base", "one", "other"] sp_less) (c_compared_bases : Cal P w K mg base 1 "compared_bases" ["one", "other"] sp_compared_bases) (c__law_sign : Cal P w K mg base 1 "_law_sign" ["one", "other"] sp__law_sign) (c_scaled : Cal P w K mg base 3 "scaled" ["base", "word", "factor"] sp_scaled) (c__law_scaled : Cal P w K mg base 1 "_law_scaled" ["base", "word", "factor"] sp__law_scaled) (c_in_other : Cal P w K mg base 3 "in_other" ["base", "word", "other"] sp_in_other) (c_blocks : Cal P w K mg base 3 "blocks" ["base", "word", "size"] sp_blocks) (c_unblocked : Cal P w K mg base 4 "unblocked" ["base", "word", "size"] sp_unblocked) (c__law_all_same : Cal P w K mg base 7 "_law_all_same" ["rows"] sp__law_all_same) (c__law_kept : Cal P w K mg base 7 "_law_kept" ["hands", "copies"] sp__law_kept) : Cal P w K mg base 8 "_law_plain_right" ["source"] sp__law_plain_right :=
  cal_ok (n := 16) D sc__law_plain_right rfl (fun f cdv A outer s H E hr => by
    exact (rs_cons (st2 1 2 rfl sc__law_plain_right.nd (ra_cons (re_ix (re_f (rf_lst (ra_cons re_int (ra_cons re_int (ra_cons (re_add re_int (rcl c__law_pick hr (ra_cons (re_var 0) (ra_cons re_int ra_nil)))) ra_nil))))) (rcl c__law_pick hr (ra_cons (re_var 0) (ra_cons re_int ra_nil)))) (ra_cons (re_add re_int (rcl c__law_pick hr (ra_cons (re_var 0) (ra_cons re_int ra_nil)))) ra_nil))) (rs_cons (rs_asg (re_tup (ra_cons (rcl c__law_great hr (ra_cons (re_var 0) ra_nil)) (ra_cons (rcl c__law_great hr (ra_cons (re_var 0) ra_nil)) (ra_cons (rcl c__law_great hr (ra_cons (re_var 0) ra_nil)) (ra_cons (re_add re_int (rcl c__law_pick hr (ra_cons (re_var 0) (ra_cons re_int ra_nil)))) ra_nil))))) (tgS rfl (tgc (tg1 3 sc__law_plain_right.nd) (tgc (tg1 4 sc__law_plain_right.nd) (tgc (tg1 5 sc__law_plain_right.nd) (tgc (tg1 6 sc__law_plain_right.nd) rgs_nil)))))) (rs_cons (st1 7 sc__law_plain_right.nd (re_f (rf_lst (ra_cons (rcl c__law_digits hr (ra_cons (re_var 1) (ra_cons (re_var 3) ra_nil))) (ra_cons (rcl c__law_digits hr (ra_cons (re_var 1) (ra_cons (re_var 4) ra_nil))) (ra_cons (rcl c__law_digits hr (ra_cons (re_var 1) (ra_cons (re_max rfl (by rfl) T.n_max (ra_cons (re_var 3) (ra_cons (re_var 4) ra_nil))) ra_nil))) (ra_cons (rcl c__law_digits hr (ra_cons (re_var 1) (ra_cons (re_min rfl (by rfl) T.n_min (ra_cons (re_var 3) (ra_cons (re_var 4) ra_nil))) ra_nil))) (ra_cons (rcl c__law_digits hr (ra_cons (rcl c__law_power hr (ra_cons (re_var 1) (ra_cons (re_var 6) ra_nil))) (ra_cons (re_var 3) ra_nil))) ra_nil)))))))) (rs_cons (st1Lc (own := [("word", 16)]) 8 rfl sc__law_plain_right.nd (ri_seq (re_var 7)) (blkOk_by (N := N__law_plain_right) (sc := defScope s__law_plain_right) (by decide +kernel)) (fun _ _ _ _ _ => (tg1 16 sc__law_plain_right.nd)) (fun _ _ _ _ _ => rts_nil) (fun _ _ _ _ _ => (re_f (rf_listOf (by rfl) T.n_list (ra_cons (re_var 16) ra_nil))))) (rs_cons (rs_asg (re_var 8) (tgS rfl (tgc (tg1 9 sc__law_plain_right.nd) (tgc (tg1 10 sc__law_plain_right.nd) (tgc (tg1 11 sc__law_plain_right.nd) (tgc (tg1 12 sc__law_plain_right.nd) (tgc (tg1 13 sc__law_plain_right.nd) rgs_nil))))))) (rs_cons (st1 14 sc__law_plain_right.nd (re_tup (ra_cons re_str (ra_cons (re_ix (re_var 7) re_int) (ra_cons (re_ix (re_var 7) re_int) (ra_cons (rcl c__law_carries hr (ra_cons (re_var 1) (ra_cons (re_ix (re_var 7) re_int) (ra_cons (re_ix (re_var 7) re_int) ra_nil)))) (ra_cons (rcl c__law_digits hr (ra_cons (re_var 1) (ra_cons (re_add (re_var 3) (re_var 4)) ra_nil))) ra_nil))))))) (rs_cons (st1 15 sc__law_plain_right.nd (re_f (rf_lst (ra_cons (re_tup (ra_cons (rcl c_value_bases hr (ra_cons (re_var 1) (ra_cons (re_var 9) ra_nil))) (ra_cons (re_var 3) ra_nil))) (ra_cons (re_tup (ra_cons (rcl c_are_digits_bases hr (ra_cons (re_var 1) (ra_cons (re_var 9) ra_nil))) (ra_cons re_bl ra_nil))) (ra_cons (re_tup (ra_cons (rcl c_are_digits_bases hr (ra_cons (re_var 1) (ra_cons (re_add (re_f (rf_lst (ra_cons re_int ra_nil))) (re_var 9)) ra_nil))) (ra_cons re_bl ra_nil))) (ra_cons (re_tup (ra_cons (rcl c_are_digits_bases hr (ra_cons (re_var 1) (ra_cons (re_add (re_f (rf_lst (ra_cons (re_var 1) ra_nil))) (re_var 9)) ra_nil))) (ra_cons re_bl ra_nil))) ra_nil))))))) (rs_cons (st1 15 sc__law_plain_right.nd (re_add (re_var 15) (re_f (rf_lst (ra_cons (re_tup (ra_cons (rcl c_added_bases hr (ra_cons (re_var 1) (ra_cons (re_var 9) (ra_cons (re_var 10) ra_nil)))) (ra_cons (re_var 14) ra_nil))) (ra_cons (re_tup (ra_cons (rcl c_less hr (ra_cons (re_var 1) (ra_cons (re_var 11) (ra_cons (re_var 12) ra_nil)))) (ra_cons (rcl c__law_digits hr (ra_cons (re_var 1) (ra_cons (re_subA (re_max rfl (by rfl) T.n_max (ra_cons (re_var 3) (ra_cons (re_var 4) ra_nil))) (re_min rfl (by rfl) T.n_min (ra_cons (re_var 3) (ra_cons (re_var 4) ra_nil)))) ra_nil))) ra_nil))) (ra_cons (re_tup (ra_cons (rcl c_compared_bases hr (ra_cons (re_var 9) (ra_cons (re_var 10) ra_nil))) (ra_cons (rcl c__law_sign hr (ra_cons (re_var 3) (ra_cons (re_var 4) ra_nil))) ra_nil))) ra_nil))))))) (rs_cons (st1 15 sc__law_plain_right.nd (re_add (re_var 15) (re_f (rf_lst (ra_cons (re_tup (ra_cons (rcl c_scaled hr (ra_cons (re_var 1) (ra_cons (re_var 9) (ra_cons (re_var 5) ra_nil)))) (ra_cons (re_tup (ra_cons (rcl c__law_scaled hr (ra_cons (re_var 1) (ra_cons (re_ix (re_var 7) re_int) (ra_cons (re_var 5) ra_nil)))) (ra_cons (rcl c__law_digits hr (ra_cons (re_var 1) (ra_cons (re_mul (re_var 3) (re_var 5)) ra_nil))) ra_nil))) ra_nil))) ra_nil))))) (rs_cons (st1 15 sc__law_plain_right.nd (re_add (re_var 15) (re_f (rf_lst (ra_cons (re_tup (ra_cons (rcl c_in_other hr (ra_cons (re_var 1) (ra_cons (re_var 9) (ra_cons (re_var 2) ra_nil)))) (ra_cons (rcl c__law_digits hr (ra_cons (re_var 2) (ra_cons (re_var 3) ra_nil))) ra_nil))) (ra_cons (re_tup (ra_cons (rcl c_blocks hr (ra_cons (re_var 1) (ra_cons (re_var 9) (ra_cons (re_var 6) ra_nil)))) (ra_cons (re_ix (re_var 7) re_int) ra_nil))) (ra_cons (re_tup (ra_cons (rcl c_unblocked hr (ra_cons (re_var 1) (ra_cons (re_var 13) (ra_cons (re_var 6) ra_nil)))) (ra_cons (re_ix (re_var 7) re_int) ra_nil))) ra_nil))))))) (rs_cons (st1 15 sc__law_plain_right.nd (re_add (re_var 15) (re_f (rf_lst (ra_cons (re_tup (ra_cons (re_ix (rcl c_added_bases hr (ra_cons (re_var 1) (ra_cons (re_var 9) (ra_cons (re_var 9) ra_nil)))) re_int) (ra_cons (rcl c__law_digits hr (ra_cons (re_var 1) (ra_cons (re_mul re_int (re_var 3)) ra_nil))) ra_nil))) (ra_cons (re_tup (ra_cons (rcl c_less hr (ra_cons (re_var 1) (ra_cons (re_var 9) (ra_cons (re_var 9) ra_nil)))) (ra_cons (re_tup ra_nil) ra_nil))) ra_nil)))))) (rs_one (rs_ret (re_and (rcl c__law_all_same hr (ra_cons (re_var 15) ra_nil)) (re_one (rcl c__law_kept hr (ra_cons (re_var 8) (ra_cons (re_var 7) ra_nil))))))))))))))))))) l__law_plain_right
abbrev s__law_signed_right : Stmt := topS 69
abbrev N__law_signed_right : List Str := ["source", "size", "odd", "n", "m", "half", "word", "places", "light", "own", "hands", "one", "other", "middle", "bits", "due", "beside", "rows", "part", "k", "turn", "digit"]
theorem sc__law_signed_right : FnScope N__law_signed_right ["source"] (defScope s__law_signed_right) := ⟨rfl, rfl, rfl, by decide +kernel, rfl, by decide +kernel, by decide +kernel⟩
theorem ok__law_signed_right (D : Dfn K mg "_law_signed_right" "_law_signed_right" s__law_signed_right ["source"]) (T : Txt mg) (c__law_pick : Cal P w K mg base 1 "_law_pick" ["source", "many"] sp__law_pick) (c__law_great : Cal P w K mg base 2 "_law_great" ["source"] sp__law_great) (c__law_below : Cal P w K mg base 1 "_law_below" ["size", "n"] sp__law_below) (c__law_below_carries : Cal P w K mg base 1 "_law_below_carries" ["size", "one", "other"] sp__law_below_carries) (c_value_signed : Cal P w K mg base 1 "value_signed" ["base", "word"] sp_value_signed) (c_are_below : Cal P w K mg base 1 "are_below" ["base", "word"] sp_are_below) (c_below_added : Cal P w K mg base 2 "below_added" ["base", "one", "other"] sp_below_added) (c_turned : Cal P w K mg base 1 "turned" ["word"] sp_turned) (c_rounded : Cal P w K mg base 1 "rounded" ["word", "places"] sp_rounded) (c_are_balanced : Cal P w K mg base 2 "are_balanced" ["base", "word"] sp_are_balanced) (c_weight : Cal P w K mg base 1 "weight" ["word"] sp_weight) (c_are_apart : Cal P w K mg base 1 "are_apart" ["word"] sp_are_apart) (c__law_all_same : Cal P w K mg base 7 "_law_all_same" ["rows"] sp__law_all_same) (c__law_kept : Cal P w K mg base 7 "_law_kept" ["hands", "copies"] sp__law_kept) : Cal P w K mg base 8 "_law_signed_right" ["source"] sp__law_signed_right :=
  cal_ok (n := 21) D sc__law_signed_right rfl (fun f cdv A outer s H E hr => by
    have hu := hr.u128
    exact (rs_cons (rs_asg (re_tup (ra_cons (re_add re_int (rcl c__law_pick hr (ra_cons (re_var 0) (ra_cons re_int ra_nil)))) (ra_cons (re_add re_int (re_mul re_int (rcl c__law_pick hr (ra_cons (re_var 0) (ra_cons re_int ra_nil))))) ra_nil))) (tgS rfl (tgc (tg1 1 sc__law_signed_right.nd) (tgc (tg1 2 sc__law_signed_right.nd) rgs_nil)))) (rs_cons (st2 3 4 rfl sc__law_signed_right.nd (ra_cons (re_mul (rcl c__law_great hr (ra_cons (re_var 0) ra_nil)) (re_subA re_int (re_mul re_int (rcl c__law_pick hr (ra_cons (re_var 0) (ra_cons re_int ra_nil)))))) (ra_cons (re_mul (rcl c__law_great hr (ra_cons (re_var 0) ra_nil)) (re_subA re_int (re_mul re_int (rcl c__law_pick hr (ra_cons (re_var 0) (ra_cons re_int ra_nil)))))) ra_nil))) (rs_cons (st1 5 sc__law_signed_right.nd (re_div (re_var 2) re_int)) (rs_cons (st1 6 sc__law_signed_right.nd (re_tupX (by rfl) T.n_tuple (ra_cons (re_f (rf_lc (own := [("turn", 20)]) rfl sc__law_signed_right.nd (ri_rng1 (by rfl) T.n_range (ra_cons (rcl c__law_pick hr (ra_cons (re_var 0) (ra_cons re_int ra_nil))) ra_nil)) (blkOk_by (N := N__law_signed_right) (sc := defScope s__law_signed_right) (by decide +kernel)) (fun _ _ _ _ _ => (tg1 20 sc__law_signed_right.nd)) (fun _ _ _ _ _ => rts_nil) (fun _ _ _ _ _ => (re_subA (rcl c__law_pick hr (ra_cons (re_var 0) (ra_cons (re_var 2) ra_nil))) (re_var 5))))) ra_nil))) (rs_cons (st1 7 sc__law_signed_right.nd (rcl c__law_pick hr (ra_cons (re_var 0) (ra_cons (re_add (re_len (by rfl) T.n_len (ra_cons (re_vr (re_var 6)) ra_nil)) re_int) ra_nil)))) (rs_cons (st1 8 sc__law_signed_right.nd (re_tupOf (by rfl) T.n_tuple (ra_cons (re_f (rf_lc (own := [("turn", 20)]) rfl sc__law_signed_right.nd (ri_rng1 (by rfl) T.n_range (ra_cons (rcl c__law_pick hr (ra_cons (re_var 0) (ra_cons re_int ra_nil))) ra_nil)) (blkOk_by (N := N__law_signed_right) (sc := defScope s__law_signed_right) (by decide +kernel)) (fun _ _ _ _ _ => (tg1 20 sc__law_signed_right.nd)) (fun _ _ _ _ _ => rts_nil) (fun _ _ _ _ _ => (re_subA (rcl c__law_pick hr (ra_cons (re_var 0) (ra_cons re_int ra_nil))) re_int)))) ra_nil))) (rs_cons (st1 9 sc__law_signed_right.nd (re_f (rf_lst (ra_cons (rcl c__law_below hr (ra_cons (re_var 1) (ra_cons (re_var 3) ra_nil))) (ra_cons (rcl c__law_below hr (ra_cons (re_var 1) (ra_cons (re_var 4) ra_nil))) (ra_cons (re_vr (re_var 6)) (ra_cons (re_var 8) ra_nil))))))) (rs_cons (st1Lc (own := [("part", 18)]) 10 rfl sc__law_signed_right.nd (ri_seq (re_var 9)) (blkOk_by (N := N__law_signed_right) (sc := defScope s__law_signed_right) (by decide +kernel)) (fun _ _ _ _ _ => (tg1 18 sc__law_signed_right.nd)) (fun _ _ _ _ _ => rts_nil) (fun _ _ _ _ _ => (re_f (rf_listOf (by rfl) T.n_list (ra_cons (re_var 18) ra_nil))))) (rs_cons (rs_asg (re_var 10) (tgS rfl (tgc (tg1 11 sc__law_signed_right.nd) (tgc (tg1 12 sc__law_signed_right.nd) (tgc (tg1 13 sc__law_signed_right.nd) (tgc (tg1 14 sc__law_signed_right.nd) rgs_nil)))))) (rs_cons (st1 15 sc__law_signed_right.nd (re_tup (ra_cons re_str (ra_cons (re_ix (re_var 9) re_int) (ra_cons (re_ix (re_var 9) re_int) (ra_cons (rcl c__law_below_carries hr (ra_cons (re_var 1) (ra_cons (re_ix (re_var 9) re_int) (ra_cons (re_ix (re_var 9) re_int) ra_nil)))) (ra_cons (rcl c__law_below hr (ra_cons (re_var 1) (ra_cons (re_add (re_var 3) (re_var 4)) ra_nil))) ra_nil))))))) (rs_cons (st1Lc (own := [("k", 19)]) 16 rfl sc__law_signed_right.nd (ri_rng2 (by rfl) T.n_range (ra_cons re_int (ra_cons (re_len (by rfl) T.n_len (ra_cons (re_var 8) ra_nil)) ra_nil))) (blkOk_by (N := N__law_signed_right) (sc := defScope s__law_signed_right) (by decide +kernel)) (fun _ _ _ _ _ => (tg1 19 sc__law_signed_right.nd)) (fun _ _ _ _ _ => (rts_one (rw_and (rtc (c_neX hu) (re_ix (re_var 8) (re_var 19)) re_int) (rw_and1 (rtc (c_neX hu) (re_ix (re_var 8) (re_subA (re_var 19) re_int)) re_int))).rt)) (fun _ _ _ _ _ => (re_var 19))) (rs_cons (st1 17 sc__law_signed_right.nd (re_f (rf_lst (ra_cons (re_tup (ra_cons (rcl c_value_signed hr (ra_cons (re_subA re_int (re_var 1)) (ra_cons (re_var 11) ra_nil))) (ra_cons (re_var 3) ra_nil))) (ra_cons (re_tup (ra_cons (rcl c_are_below hr (ra_cons (re_subA re_int (re_var 1)) (ra_cons (re_var 11) ra_nil))) (ra_cons re_bl ra_nil))) (ra_cons (re_tup (ra_cons (rcl c_are_below hr (ra_cons (re_subA re_int (re_var 1)) (ra_cons (re_add (re_f (rf_lst (ra_cons re_int ra_nil))) (re_var 11)) ra_nil))) (ra_cons re_bl ra_nil))) (ra_cons (re_tup (ra_cons (rcl c_below_added hr (ra_cons (re_subA re_int (re_var 1)) (ra_cons (re_var 11) (ra_cons (re_var 12) ra_nil)))) (ra_cons (re_var 15) ra_nil))) ra_nil))))))) (rs_cons (st1 17 sc__law_signed_right.nd (re_add (re_var 17) (re_f (rf_lst (ra_cons (re_tup (ra_cons (rcl c_turned hr (ra_cons (re_var 13) ra_nil)) (ra_cons (re_tupOf (by rfl) T.n_tuple (ra_cons (re_f (rf_lc (own := [("digit", 21)]) rfl sc__law_signed_right.nd (ri_seq (re_vr (re_var 6))) (blkOk_by (N := N__law_signed_right) (sc := defScope s__law_signed_right) (by decide +kernel)) (fun _ _ _ _ _ => (tg1 21 sc__law_signed_right.nd)) (fun _ _ _ _ _ => rts_nil) (fun _ _ _ _ _ => (re_subA re_int (re_var 21))))) ra_nil)) ra_nil))) (ra_cons (re_tup (ra_cons (rcl c_rounded hr (ra_cons (re_var 13) (ra_cons (re_var 7) ra_nil))) (ra_cons (re_sl (re_vr (re_var 6)) ro_none (ro_some (re_subA (re_len (by rfl) T.n_len (ra_cons (re_vr (re_var 6)) ra_nil)) (re_var 7)))) ra_nil))) ra_nil)))))) (rs_cons (st1 17 sc__law_signed_right.nd (re_add (re_var 17) (re_f (rf_lst (ra_cons (re_tup (ra_cons (rcl c_are_balanced hr (ra_cons (re_var 2) (ra_cons (re_var 13) ra_nil))) (ra_cons (re_or (rec (c_eqX hu) (re_vr (re_var 6)) (re_tup ra_nil)) (re_one (rec (c_neX hu) (re_ix (re_vr (re_var 6)) re_int) re_int))) ra_nil))) (ra_cons (re_tup (ra_cons (rcl c_are_balanced hr (ra_cons (re_var 2) (ra_cons (re_add (re_f (rf_lst (ra_cons (re_add (re_var 5) re_int) ra_nil))) (re_var 13)) ra_nil))) (ra_cons re_bl ra_nil))) ra_nil)))))) (rs_cons (st1 17 sc__law_signed_right.nd (re_add (re_var 17) (re_f (rf_lst (ra_cons (re_tup (ra_cons (rcl c_weight hr (ra_cons (re_var 13) ra_nil)) (ra_cons (re_subA (re_len (by rfl) T.n_len (ra_cons (re_vr (re_var 6)) ra_nil)) (re_cnt hu (re_var 6) re_int)) ra_nil))) (ra_cons (re_tup (ra_cons (rcl c_are_apart hr (ra_cons (re_var 14) ra_nil)) (ra_cons (re_and (rec (c_eqX hu) (re_var 16) (re_f (rf_lst ra_nil))) (re_one (re_or (rec (c_eqX hu) (re_var 8) (re_tup ra_nil)) (re_one (rec (c_neX hu) (re_ix (re_var 8) re_int) re_int))))) ra_nil))) ra_nil)))))) (rs_one (rs_ret (re_and (rcl c__law_all_same hr (ra_cons (re_var 17) ra_nil)) (re_one (rcl c__law_kept hr (ra_cons (re_var 10) (ra_cons (re_var 9) ra_nil))))))))))))))))))))))) l__law_signed_right
abbrev s__law_ones_right : Stmt := topS 70
abbrev N__law_ones_right : List Str := ["source", "base", "n", "m", "own", "hands", "one", "other", "rows", "great", "least", "part"]
theorem sc__law_ones_right : FnScope N__law_ones_right ["source"] (defScope s__law_ones_right) := ⟨rfl, rfl, rfl, by decide +kernel, rfl, by decide +kernel, by decide +kernel⟩
theorem ok__law_ones_right (D : Dfn K mg "_law_ones_right" "_law_ones_right" s__law_ones_right ["source"]) (T : Txt mg) (c__law_pick : Cal P w K mg base 1 "_law_pick" ["source", "many"] sp__law_pick) (c__law_great : Cal P w K mg base 2 "_law_great" ["source"] sp__law_great) (c__law_ones : Cal P w K mg base 1 "_law_ones" ["base", "n"] sp__law_ones) (c_value_bijective : Cal P w K mg base 2 "value_bijective" ["base", "word"] sp_value_bijective) (c_are_digits_bijective : Cal P w K mg base 1 "are_digits_bijective" ["base", "word"] sp_are_digits_bijective) (c_following : Cal P w K mg base 2 "following" ["base", "word"] sp_following) (c_ahead : Cal P w K mg base 2 "ahead" ["base", "word"] sp_ahead) (c_added_bijective : Cal P w K mg base 2 "added_bijective" ["base", "one", "other"] sp_added_bijective) (c_compared_bijective : Cal P w K mg base 1 "compared_bijective" ["one", "other"] sp_compared_bijective) (c__law_sign : Cal P w K mg base 1 "_law_sign" ["one", "other"] sp__law_sign) (c__law_all_same : Cal P w K mg base 7 "_law_all_same" ["rows"] sp__law_all_same) (c__law_kept : Cal P w K mg base 7 "_law_kept" ["hands", "copies"] sp__law_kept) : Cal P w K mg base 8 "_law_ones_right" ["source"] sp__law_ones_right :=
  cal_ok (n := 11) D sc__law_ones_right rfl (fun f cdv A outer s H E hr => by
    exact (rs_cons (st1 1 sc__law_ones_right.nd (re_ix (re_f (rf_lst (ra_cons re_int (ra_cons re_int (ra_cons (re_add re_int (rcl c__law_pick hr (ra_cons (re_var 0) (ra_cons re_int ra_nil)))) ra_nil))))) (rcl c__law_pick hr (ra_cons (re_var 0) (ra_cons re_int ra_nil))))) (rs_cons (st2 2 3 rfl sc__law_ones_right.nd (ra_cons (re_add re_int (rcl c__law_great hr (ra_cons (re_var 0) ra_nil))) (ra_cons (rcl c__law_great hr (ra_cons (re_var 0) ra_nil)) ra_nil))) (rs_cons (st1 4 sc__law_ones_right.nd (re_f (rf_lst (ra_cons (rcl c__law_ones hr (ra_cons (re_var 1) (ra_cons (re_var 2) ra_nil))) (ra_cons (rcl c__law_ones hr (ra_cons (re_var 1) (ra_cons (re_var 3) ra_nil))) ra_nil))))) (rs_cons (st1Lc (own := [("part", 11)]) 5 rfl sc__law_ones_right.nd (ri_seq (re_var 4)) (blkOk_by (N := N__law_ones_right) (sc := defScope s__law_ones_right) (by decide +kernel)) (fun _ _ _ _ _ => (tg1 11 sc__law_ones_right.nd)) (fun _ _ _ _ _ => rts_nil) (fun _ _ _ _ _ => (re_f (rf_listOf (by rfl) T.n_list (ra_cons (re_var 11) ra_nil))))) (rs_cons (rs_asg (re_var 5) (tgS rfl (tgc (tg1 6 sc__law_ones_right.nd) (tgc (tg1 7 sc__law_ones_right.nd) rgs_nil)))) (rs_cons (st1 8 sc__law_ones_right.nd (re_f (rf_lst (ra_cons (re_tup (ra_cons (rcl c_value_bijective hr (ra_cons (re_var 1) (ra_cons (re_var 6) ra_nil))) (ra_cons (re_var 2) ra_nil))) (ra_cons (re_tup (ra_cons (rcl c_value_bijective hr (ra_cons (re_var 1) (ra_cons (re_var 7) ra_nil))) (ra_cons (re_var 3) ra_nil))) (ra_cons (re_tup (ra_cons (rcl c_are_digits_bijective hr (ra_cons (re_var 1) (ra_cons (re_var 6) ra_nil))) (ra_cons re_bl ra_nil))) (ra_cons (re_tup (ra_cons (rcl c_are_digits_bijective hr (ra_cons (re_var 1) (ra_cons (re_add (re_var 6) (re_f (rf_lst (ra_cons re_int ra_nil)))) ra_nil))) (ra_cons re_bl ra_nil))) ra_nil))))))) (rs_cons (st1 8 sc__law_ones_right.nd (re_add (re_var 8) (re_f (rf_lst (ra_cons (re_tup (ra_cons (rcl c_following hr (ra_cons (re_var 1) (ra_cons (re_var 6) ra_nil))) (ra_cons (rcl c__law_ones hr (ra_cons (re_var 1) (ra_cons (re_add (re_var 2) re_int) ra_nil))) ra_nil))) (ra_cons (re_tup (ra_cons (rcl c_following hr (ra_cons (re_var 1) (ra_cons (re_var 7) ra_nil))) (ra_cons (rcl c__law_ones hr (ra_cons (re_var 1) (ra_cons (re_add (re_var 3) re_int) ra_nil))) ra_nil))) (ra_cons (re_tup (ra_cons (rcl c_ahead hr (ra_cons (re_var 1) (ra_cons (re_var 6) ra_nil))) (ra_cons (rcl c__law_ones hr (ra_cons (re_var 1) (ra_cons (re_subA (re_var 2) re_int) ra_nil))) ra_nil))) ra_nil))))))) (rs_cons (st1 8 sc__law_ones_right.nd (re_add (re_var 8) (re_f (rf_lst (ra_cons (re_tup (ra_cons (rcl c_added_bijective hr (ra_cons (re_var 1) (ra_cons (re_var 6) (ra_cons (re_var 7) ra_nil)))) (ra_cons (rcl c__law_ones hr (ra_cons (re_var 1) (ra_cons (re_add (re_var 2) (re_var 3)) ra_nil))) ra_nil))) (ra_cons (re_tup (ra_cons (rcl c_compared_bijective hr (ra_cons (re_var 6) (ra_cons (re_var 7) ra_nil))) (ra_cons (rcl c__law_sign hr (ra_cons (re_var 2) (ra_cons (re_var 3) ra_nil))) ra_nil))) (ra_cons (re_tup (ra_cons (rcl c_compared_bijective hr (ra_cons (re_var 6) (ra_cons (re_var 6) ra_nil))) (ra_cons re_int ra_nil))) ra_nil))))))) (rs_cons (st2 9 10 rfl sc__law_ones_right.nd (ra_cons (re_mul (re_f (rf_lst (ra_cons (re_var 1) ra_nil))) (re_len (by rfl) T.n_len (ra_cons (re_var 6) ra_nil))) (ra_cons (re_mul (re_f (rf_lst (ra_cons re_int ra_nil))) (re_len (by rfl) T.n_len (ra_cons (re_var 6) ra_nil))) ra_nil))) (rs_cons (st1 8 sc__law_ones_right.nd (re_add (re_var 8) (re_f (rf_lst (ra_cons (re_tup (ra_cons (rcl c_following hr (ra_cons (re_var 1) (ra_cons (re_var 9) ra_nil))) (ra_cons (re_mul (re_tup (ra_cons re_int ra_nil)) (re_add (re_len (by rfl) T.n_len (ra_cons (re_var 6) ra_nil)) re_int)) ra_nil))) (ra_cons (re_tup (ra_cons (rcl c_ahead hr (ra_cons (re_var 1) (ra_cons (re_var 10) ra_nil))) (ra_cons (re_mul (re_tup (ra_cons (re_var 1) ra_nil)) (re_subA (re_len (by rfl) T.n_len (ra_cons (re_var 6) ra_nil)) re_int)) ra_nil))) ra_nil)))))) (rs_one (rs_ret (re_and (rcl c__law_all_same hr (ra_cons (re_var 8) ra_nil)) (re_one (rcl c__law_kept hr (ra_cons (re_add (re_var 5) (re_f (rf_lst (ra_cons (re_var 9) (ra_cons (re_var 10) ra_nil))))) (ra_cons (re_add (re_var 4) (re_f (rf_lst (ra_cons (re_mul (re_tup (ra_cons (re_var 1) ra_nil)) (re_len (by rfl) T.n_len (ra_cons (re_var 6) ra_nil))) (ra_cons (re_mul (re_tup (ra_cons re_int ra_nil)) (re_len (by rfl) T.n_len (ra_cons (re_var 6) ra_nil))) ra_nil))))) ra_nil)))))))))))))))))) l__law_ones_right
abbrev s__law_right : Stmt := topS 71
abbrev N__law_right : List Str := ["source"]
theorem sc__law_right : FnScope N__law_right ["source"] (defScope s__law_right) := ⟨rfl, rfl, rfl, by decide +kernel, rfl, by decide +kernel, by decide +kernel⟩
theorem ok__law_right (D : Dfn K mg "_law_right" "_law_right" s__law_right ["source"]) (T : Txt mg) (c__law_plain_right : Cal P w K mg base 8 "_law_plain_right" ["source"] sp__law_plain_right) (c__law_signed_right : Cal P w K mg base 8 "_law_signed_right" ["source"] sp__law_signed_right) (c__law_ones_right : Cal P w K mg base 8 "_law_ones_right" ["source"] sp__law_ones_right) : Cal P w K mg base 9 "_law_right" ["source"] sp__law_right :=
  cal_ok (n := 0) D sc__law_right rfl (fun f cdv A outer s H E hr => by
    exact (rs_one (rs_ret (re_and (rcl c__law_plain_right hr (ra_cons (re_var 0) ra_nil)) (re_and (rcl c__law_signed_right hr (ra_cons (re_var 0) ra_nil)) (re_one (rcl c__law_ones_right hr (ra_cons (re_var 0) ra_nil)))))))) l__law_right
abbrev s_law : Stmt := topS 72
abbrev N_law : List Str := ["script", "k"]
theorem sc_law : FnScope N_law ["script"] (defScope s_law) := ⟨rfl, rfl, rfl, by decide +kernel, rfl, by decide +kernel, by decide +kernel⟩
theorem fn_law {f : Addr} {fd : FuncData} (F : Fun K "law" "law" s_law f fd) (T : Txt mg) (c__law_cell : Cal P w K mg base 1 "_law_cell" ["script", "k"] sp__law_cell) (c__law_right : Cal P w K mg base 9 "_law_right" ["source"] sp__law_right) (c__law_source : Cal P w K mg base 1 "_law_source" ["cell", "k"] sp__law_source) : FnOk P w K mg base CX0 10 f fd ["script"] (spOf K sp_law) :=
  fn_ok (n := 1) F sc_law rfl (fun cdv A outer s H E hr => by
    exact (rs_cons (rs_for PassesOwn.never rfl (ri_rng1 (by rfl) T.n_range (ra_cons (re_add (re_min rfl (by rfl) T.n_min (ra_cons (re_len (by rfl) T.n_len (ra_cons (re_var 0) ra_nil)) (ra_cons re_int ra_nil))) re_int) ra_nil)) (tg1 1 sc_law.nd) (rs_one (rs_if (rt_not (rt_tru (rclN c__law_right c__law_source hr (ra_cons (rcl c__law_cell hr (ra_cons (re_var 0) (ra_cons (re_var 1) ra_nil))) (ra_cons (re_var 1) ra_nil))))) (rs_one (rs_ret re_bl)) rs_nil))) (rs_one (rs_ret re_bl)))) l_law
end
end Fl

end

section
set_option exponentiation.threshold 2000
namespace Fl
open PySem PySem.Spec PyProof.Rows L2
/-! printed by mkEnd.py: the defs as they stand in the written part, and law of them all -/
theorem cal_none {P : Program} {w : World} {K : PySem.W.Frag} {mg : Str → Option Value} {base : Heap} {id name : Str} {stm : Stmt} {ps : List Str} {psp : PSp} (D : Dfn K mg id name stm ps) (no : ∀ args M Q, ¬ psp args M Q) : Cal P w K mg base 0 id ps psp := by
  obtain ⟨f, fd, F, m, b⟩ := D.ex
  have no2 : ∀ vs H Q E, ¬ spOf K psp vs H Q E := fun vs H Q E ⟨_, _, _, _, _, _, _, _, _, h, _⟩ => no _ _ _ h
  exact ⟨f, fd, ⟨fun vs H Q E h => absurd h (no2 vs H Q E), fun A outer s H args us vs Q E _ _ _ _ h => absurd h (no2 vs H Q E)⟩, m, F.kp, b⟩
section
variable {K : PySem.W.Frag} {h : Heap} {mg : Str → Option Value}
theorem dfn_power (X : K.In h) (G : h.Ns mainGlobals mg) {f : Addr} {od an : Option Addr} {sl : Array (Option Value)} {oc kV dc pm cd ct : Value} (a : PySem.W.nsIn K mainGlobals "power" = some (some (.ref f))) (l : K.lookup f = some ⟨oc, od, .func (PySem.W.fnOf "power" "power" (defArgs s_power) (defBody s_power) (defScope s_power) .none kV dc pm an cd ct), sl⟩) (c : PySem.W.codeIn K cd "power" = true) (k : PySem.W.keepIn K (.ref f) = true) : Dfn K mg "power" "power" s_power ["base", "e"] :=
  ⟨f, _, fun_mk l c k, PySem.W.mg_of X G a, (fun_mk (st := s_power) l c k).binds (ps := ["base", "e"]) fun _ _ _ _ _ _ us hl => match us, hl with | [_, _], _ => rfl⟩
theorem dfn_checked (X : K.In h) (G : h.Ns mainGlobals mg) {f : Addr} {od an : Option Addr} {sl : Array (Option Value)} {oc kV dc pm cd ct : Value} (a : PySem.W.nsIn K mainGlobals "checked" = some (some (.ref f))) (l : K.lookup f = some ⟨oc, od, .func (PySem.W.fnOf "checked" "checked" (defArgs s_checked) (defBody s_checked) (defScope s_checked) .none kV dc pm an cd ct), sl⟩) (c : PySem.W.codeIn K cd "checked" = true) (k : PySem.W.keepIn K (.ref f) = true) : Dfn K mg "checked" "checked" s_checked ["n"] :=
  ⟨f, _, fun_mk l c k, PySem.W.mg_of X G a, (fun_mk (st := s_checked) l c k).binds (ps := ["n"]) fun _ _ _ _ _ _ us hl => match us, hl with | [_], _ => rfl⟩
theorem dfn_natural (X : K.In h) (G : h.Ns mainGlobals mg) {f : Addr} {od an : Option Addr} {sl : Array (Option Value)} {oc kV dc pm cd ct : Value} (a : PySem.W.nsIn K mainGlobals "natural" = some (some (.ref f))) (l : K.lookup f = some ⟨oc, od, .func (PySem.W.fnOf "natural" "natural" (defArgs s_natural) (defBody s_natural) (defScope s_natural) .none kV dc pm an cd ct), sl⟩) (c : PySem.W.codeIn K cd "natural" = true) (k : PySem.W.keepIn K (.ref f) = true) : Dfn K mg "natural" "natural" s_natural ["n"] :=
  ⟨f, _, fun_mk l c k, PySem.W.mg_of X G a, (fun_mk (st := s_natural) l c k).binds (ps := ["n"]) fun _ _ _ _ _ _ us hl => match us, hl with | [_], _ => rfl⟩
theorem dfn_base_of (X : K.In h) (G : h.Ns mainGlobals mg) {f : Addr} {od an : Option Addr} {sl : Array (Option Value)} {oc kV dc pm cd ct : Value} (a : PySem.W.nsIn K mainGlobals "base_of" = some (some (.ref f))) (l : K.lookup f = some ⟨oc, od, .func (PySem.W.fnOf "base_of" "base_of" (defArgs s_base_of) (defBody s_base_of) (defScope s_base_of) .none kV dc pm an cd ct), sl⟩) (c : PySem.W.codeIn K cd "base_of" = true) (k : PySem.W.keepIn K (.ref f) = true) : Dfn K mg "base_of" "base_of" s_base_of ["base"] :=
  ⟨f, _, fun_mk l c k, PySem.W.mg_of X G a, (fun_mk (st := s_base_of) l c k).binds (ps := ["base"]) fun _ _ _ _ _ _ us hl => match us, hl with | [_], _ => rfl⟩
theorem dfn_digits (X : K.In h) (G : h.Ns mainGlobals mg) {f : Addr} {od an : Option Addr} {sl : Array (Option Value)} {oc kV dc pm cd ct : Value} (a : PySem.W.nsIn K mainGlobals "digits" = some (some (.ref f))) (l : K.lookup f = some ⟨oc, od, .func (PySem.W.fnOf "digits" "digits" (defArgs s_digits) (defBody s_digits) (defScope s_digits) .none kV dc pm an cd ct), sl⟩) (c : PySem.W.codeIn K cd "digits" = true) (k : PySem.W.keepIn K (.ref f) = true) : Dfn K mg "digits" "digits" s_digits ["base", "n"] :=
  ⟨f, _, fun_mk l c k, PySem.W.mg_of X G a, (fun_mk (st := s_digits) l c k).binds (ps := ["base", "n"]) fun _ _ _ _ _ _ us hl => match us, hl with | [_, _], _ => rfl⟩
theorem dfn_are_digits_bases (X : K.In h) (G : h.Ns mainGlobals mg) {f : Addr} {od an : Option Addr} {sl : Array (Option Value)} {oc kV dc pm cd ct : Value} (a : PySem.W.nsIn K mainGlobals "are_digits_bases" = some (some (.ref f))) (l : K.lookup f = some ⟨oc, od, .func (PySem.W.fnOf "are_digits" "are_digits" (defArgs s_are_digits_bases) (defBody s_are_digits_bases) (defScope s_are_digits_bases) .none kV dc pm an cd ct), sl⟩) (c : PySem.W.codeIn K cd "are_digits" = true) (k : PySem.W.keepIn K (.ref f) = true) : Dfn K mg "are_digits_bases" "are_digits" s_are_digits_bases ["base", "word"] :=
  ⟨f, _, fun_mk l c k, PySem.W.mg_of X G a, (fun_mk (st := s_are_digits_bases) l c k).binds (ps := ["base", "word"]) fun _ _ _ _ _ _ us hl => match us, hl with | [_, _], _ => rfl⟩
theorem dfn_checked_digits (X : K.In h) (G : h.Ns mainGlobals mg) {f : Addr} {od an : Option Addr} {sl : Array (Option Value)} {oc kV dc pm cd ct : Value} (a : PySem.W.nsIn K mainGlobals "checked_digits" = some (some (.ref f))) (l : K.lookup f = some ⟨oc, od, .func (PySem.W.fnOf "checked_digits" "checked_digits" (defArgs s_checked_digits) (defBody s_checked_digits) (defScope s_checked_digits) .none kV dc pm an cd ct), sl⟩) (c : PySem.W.codeIn K cd "checked_digits" = true) (k : PySem.W.keepIn K (.ref f) = true) : Dfn K mg "checked_digits" "checked_digits" s_checked_digits ["base", "word"] :=
  ⟨f, _, fun_mk l c k, PySem.W.mg_of X G a, (fun_mk (st := s_checked_digits) l c k).binds (ps := ["base", "word"]) fun _ _ _ _ _ _ us hl => match us, hl with | [_, _], _ => rfl⟩
theorem dfn_value_bases (X : K.In h) (G : h.Ns mainGlobals mg) {f : Addr} {od an : Option Addr} {sl : Array (Option Value)} {oc kV dc pm cd ct : Value} (a : PySem.W.nsIn K mainGlobals "value_bases" = some (some (.ref f))) (l : K.lookup f = some ⟨oc, od, .func (PySem.W.fnOf "value" "value" (defArgs s_value_bases) (defBody s_value_bases) (defScope s_value_bases) .none kV dc pm an cd ct), sl⟩) (c : PySem.W.codeIn K cd "value" = true) (k : PySem.W.keepIn K (.ref f) = true) : Dfn K mg "value_bases" "value" s_value_bases ["base", "word"] :=
  ⟨f, _, fun_mk l c k, PySem.W.mg_of X G a, (fun_mk (st := s_value_bases) l c k).binds (ps := ["base", "word"]) fun _ _ _ _ _ _ us hl => match us, hl with | [_, _], _ => rfl⟩
theorem dfn_added_bases (X : K.In h) (G : h.Ns mainGlobals mg) {f : Addr} {od an : Option Addr} {sl : Array (Option Value)} {oc kV dc pm cd ct : Value} (a : PySem.W.nsIn K mainGlobals "added_bases" = some (some (.ref f))) (l : K.lookup f = some ⟨oc, od, .func (PySem.W.fnOf "added" "added" (defArgs s_added_bases) (defBody s_added_bases) (defScope s_added_bases) .none kV dc pm an cd ct), sl⟩) (c : PySem.W.codeIn K cd "added" = true) (k : PySem.W.keepIn K (.ref f) = true) : Dfn K mg "added_bases" "added" s_added_bases ["base", "one", "other"] :=
  ⟨f, _, fun_mk l c k, PySem.W.mg_of X G a, (fun_mk (st := s_added_bases) l c k).binds (ps := ["base", "one", "other"]) fun _ _ _ _ _ _ us hl => match us, hl with | [_, _, _], _ => rfl⟩
theorem dfn_less (X : K.In h) (G : h.Ns mainGlobals mg) {f : Addr} {od an : Option Addr} {sl : Array (Option Value)} {oc kV dc pm cd ct : Value} (a : PySem.W.nsIn K mainGlobals "less" = some (some (.ref f))) (l : K.lookup f = some ⟨oc, od, .func (PySem.W.fnOf "less" "less" (defArgs s_less) (defBody s_less) (defScope s_less) .none kV dc pm an cd ct), sl⟩) (c : PySem.W.codeIn K cd "less" = true) (k : PySem.W.keepIn K (.ref f) = true) : Dfn K mg "less" "less" s_less ["base", "one", "other"] :=
  ⟨f, _, fun_mk l c k, PySem.W.mg_of X G a, (fun_mk (st := s_less) l c k).binds (ps := ["base", "one", "other"]) fun _ _ _ _ _ _ us hl => match us, hl with | [_, _, _], _ => rfl⟩
theorem dfn_scaled (X : K.In h) (G : h.Ns mainGlobals mg) {f : Addr} {od an : Option Addr} {sl : Array (Option Value)} {oc kV dc pm cd ct : Value} (a : PySem.W.nsIn K mainGlobals "scaled" = some (some (.ref f))) (l : K.lookup f = some ⟨oc, od, .func (PySem.W.fnOf "scaled" "scaled" (defArgs s_scaled) (defBody s_scaled) (defScope s_scaled) .none kV dc pm an cd ct), sl⟩) (c : PySem.W.codeIn K cd "scaled" = true) (k : PySem.W.keepIn K (.ref f) = true) : Dfn K mg "scaled" "scaled" s_scaled ["base", "word", "factor"] :=
  ⟨f, _, fun_mk l c k, PySem.W.mg_of X G a, (fun_mk (st := s_scaled) l c k).binds (ps := ["base", "word", "factor"]) fun _ _ _ _ _ _ us hl => match us, hl with | [_, _, _], _ => rfl⟩
theorem dfn_in_other (X : K.In h) (G : h.Ns mainGlobals mg) {f : Addr} {od an : Option Addr} {sl : Array (Option Value)} {oc kV dc pm cd ct : Value} (a : PySem.W.nsIn K mainGlobals "in_other" = some (some (.ref f))) (l : K.lookup f = some ⟨oc, od, .func (PySem.W.fnOf "in_other" "in_other" (defArgs s_in_other) (defBody s_in_other) (defScope s_in_other) .none kV dc pm an cd ct), sl⟩) (c : PySem.W.codeIn K cd "in_other" = true) (k : PySem.W.keepIn K (.ref f) = true) : Dfn K mg "in_other" "in_other" s_in_other ["base", "word", "other"] :=
  ⟨f, _, fun_mk l c k, PySem.W.mg_of X G a, (fun_mk (st := s_in_other) l c k).binds (ps := ["base", "word", "other"]) fun _ _ _ _ _ _ us hl => match us, hl with | [_, _, _], _ => rfl⟩
theorem dfn_compared_bases (X : K.In h) (G : h.Ns mainGlobals mg) {f : Addr} {od an : Option Addr} {sl : Array (Option Value)} {oc kV dc pm cd ct : Value} (a : PySem.W.nsIn K mainGlobals "compared_bases" = some (some (.ref f))) (l : K.lookup f = some ⟨oc, od, .func (PySem.W.fnOf "compared" "compared" (defArgs s_compared_bases) (defBody s_compared_bases) (defScope s_compared_bases) .none kV dc pm an cd ct), sl⟩) (c : PySem.W.codeIn K cd "compared" = true) (k : PySem.W.keepIn K (.ref f) = true) : Dfn K mg "compared_bases" "compared" s_compared_bases ["one", "other"] :=
  ⟨f, _, fun_mk l c k, PySem.W.mg_of X G a, (fun_mk (st := s_compared_bases) l c k).binds (ps := ["one", "other"]) fun _ _ _ _ _ _ us hl => match us, hl with | [_, _], _ => rfl⟩
theorem dfn_blocks (X : K.In h) (G : h.Ns mainGlobals mg) {f : Addr} {od an : Option Addr} {sl : Array (Option Value)} {oc kV dc pm cd ct : Value} (a : PySem.W.nsIn K mainGlobals "blocks" = some (some (.ref f))) (l : K.lookup f = some ⟨oc, od, .func (PySem.W.fnOf "blocks" "blocks" (defArgs s_blocks) (defBody s_blocks) (defScope s_blocks) .none kV dc pm an cd ct), sl⟩) (c : PySem.W.codeIn K cd "blocks" = true) (k : PySem.W.keepIn K (.ref f) = true) : Dfn K mg "blocks" "blocks" s_blocks ["base", "word", "size"] :=
  ⟨f, _, fun_mk l c k, PySem.W.mg_of X G a, (fun_mk (st := s_blocks) l c k).binds (ps := ["base", "word", "size"]) fun _ _ _ _ _ _ us hl => match us, hl with | [_, _, _], _ => rfl⟩
theorem dfn_unblocked (X : K.In h) (G : h.Ns mainGlobals mg) {f : Addr} {od an : Option Addr} {sl : Array (Option Value)} {oc kV dc pm cd ct : Value} (a : PySem.W.nsIn K mainGlobals "unblocked" = some (some (.ref f))) (l : K.lookup f = some ⟨oc, od, .func (PySem.W.fnOf "unblocked" "unblocked" (defArgs s_unblocked) (defBody s_unblocked) (defScope s_unblocked) .none kV dc pm an cd ct), sl⟩) (c : PySem.W.codeIn K cd "unblocked" = true) (k : PySem.W.keepIn K (.ref f) = true) : Dfn K mg "unblocked" "unblocked" s_unblocked ["base", "word", "size"] :=
  ⟨f, _, fun_mk l c k, PySem.W.mg_of X G a, (fun_mk (st := s_unblocked) l c k).binds (ps := ["base", "word", "size"]) fun _ _ _ _ _ _ us hl => match us, hl with | [_, _, _], _ => rfl⟩
theorem dfn_are_digits_bijective (X : K.In h) (G : h.Ns mainGlobals mg) {f : Addr} {od an : Option Addr} {sl : Array (Option Value)} {oc kV dc pm cd ct : Value} (a : PySem.W.nsIn K mainGlobals "are_digits_bijective" = some (some (.ref f))) (l : K.lookup f = some ⟨oc, od, .func (PySem.W.fnOf "are_digits" "are_digits" (defArgs s_are_digits_bijective) (defBody s_are_digits_bijective) (defScope s_are_digits_bijective) .none kV dc pm an cd ct), sl⟩) (c : PySem.W.codeIn K cd "are_digits" = true) (k : PySem.W.keepIn K (.ref f) = true) : Dfn K mg "are_digits_bijective" "are_digits" s_are_digits_bijective ["base", "word"] :=
  ⟨f, _, fun_mk l c k, PySem.W.mg_of X G a, (fun_mk (st := s_are_digits_bijective) l c k).binds (ps := ["base", "word"]) fun _ _ _ _ _ _ us hl => match us, hl with | [_, _], _ => rfl⟩
theorem dfn_value_bijective (X : K.In h) (G : h.Ns mainGlobals mg) {f : Addr} {od an : Option Addr} {sl : Array (Option Value)} {oc kV dc pm cd ct : Value} (a : PySem.W.nsIn K mainGlobals "value_bijective" = some (some (.ref f))) (l : K.lookup f = some ⟨oc, od, .func (PySem.W.fnOf "value" "value" (defArgs s_value_bijective) (defBody s_value_bijective) (defScope s_value_bijective) .none kV dc pm an cd ct), sl⟩) (c : PySem.W.codeIn K cd "value" = true) (k : PySem.W.keepIn K (.ref f) = true) : Dfn K mg "value_bijective" "value" s_value_bijective ["base", "word"] :=
  ⟨f, _, fun_mk l c k, PySem.W.mg_of X G a, (fun_mk (st := s_value_bijective) l c k).binds (ps := ["base", "word"]) fun _ _ _ _ _ _ us hl => match us, hl with | [_, _], _ => rfl⟩
theorem dfn_following (X : K.In h) (G : h.Ns mainGlobals mg) {f : Addr} {od an : Option Addr} {sl : Array (Option Value)} {oc kV dc pm cd ct : Value} (a : PySem.W.nsIn K mainGlobals "following" = some (some (.ref f))) (l : K.lookup f = some ⟨oc, od, .func (PySem.W.fnOf "following" "following" (defArgs s_following) (defBody s_following) (defScope s_following) .none kV dc pm an cd ct), sl⟩) (c : PySem.W.codeIn K cd "following" = true) (k : PySem.W.keepIn K (.ref f) = true) : Dfn K mg "following" "following" s_following ["base", "word"] :=
  ⟨f, _, fun_mk l c k, PySem.W.mg_of X G a, (fun_mk (st := s_following) l c k).binds (ps := ["base", "word"]) fun _ _ _ _ _ _ us hl => match us, hl with | [_, _], _ => rfl⟩
theorem dfn_ahead (X : K.In h) (G : h.Ns mainGlobals mg) {f : Addr} {od an : Option Addr} {sl : Array (Option Value)} {oc kV dc pm cd ct : Value} (a : PySem.W.nsIn K mainGlobals "ahead" = some (some (.ref f))) (l : K.lookup f = some ⟨oc, od, .func (PySem.W.fnOf "ahead" "ahead" (defArgs s_ahead) (defBody s_ahead) (defScope s_ahead) .none kV dc pm an cd ct), sl⟩) (c : PySem.W.codeIn K cd "ahead" = true) (k : PySem.W.keepIn K (.ref f) = true) : Dfn K mg "ahead" "ahead" s_ahead ["base", "word"] :=
  ⟨f, _, fun_mk l c k, PySem.W.mg_of X G a, (fun_mk (st := s_ahead) l c k).binds (ps := ["base", "word"]) fun _ _ _ _ _ _ us hl => match us, hl with | [_, _], _ => rfl⟩
theorem dfn_compared_bijective (X : K.In h) (G : h.Ns mainGlobals mg) {f : Addr} {od an : Option Addr} {sl : Array (Option Value)} {oc kV dc pm cd ct : Value} (a : PySem.W.nsIn K mainGlobals "compared_bijective" = some (some (.ref f))) (l : K.lookup f = some ⟨oc, od, .func (PySem.W.fnOf "compared" "compared" (defArgs s_compared_bijective) (defBody s_compared_bijective) (defScope s_compared_bijective) .none kV dc pm an cd ct), sl⟩) (c : PySem.W.codeIn K cd "compared" = true) (k : PySem.W.keepIn K (.ref f) = true) : Dfn K mg "compared_bijective" "compared" s_compared_bijective ["one", "other"] :=
  ⟨f, _, fun_mk l c k, PySem.W.mg_of X G a, (fun_mk (st := s_compared_bijective) l c k).binds (ps := ["one", "other"]) fun _ _ _ _ _ _ us hl => match us, hl with | [_, _], _ => rfl⟩
theorem dfn_added_bijective (X : K.In h) (G : h.Ns mainGlobals mg) {f : Addr} {od an : Option Addr} {sl : Array (Option Value)} {oc kV dc pm cd ct : Value} (a : PySem.W.nsIn K mainGlobals "added_bijective" = some (some (.ref f))) (l : K.lookup f = some ⟨oc, od, .func (PySem.W.fnOf "added" "added" (defArgs s_added_bijective) (defBody s_added_bijective) (defScope s_added_bijective) .none kV dc pm an cd ct), sl⟩) (c : PySem.W.codeIn K cd "added" = true) (k : PySem.W.keepIn K (.ref f) = true) : Dfn K mg "added_bijective" "added" s_added_bijective ["base", "one", "other"] :=
  ⟨f, _, fun_mk l c k, PySem.W.mg_of X G a, (fun_mk (st := s_added_bijective) l c k).binds (ps := ["base", "one", "other"]) fun _ _ _ _ _ _ us hl => match us, hl with | [_, _, _], _ => rfl⟩
theorem dfn_below_base (X : K.In h) (G : h.Ns mainGlobals mg) {f : Addr} {od an : Option Addr} {sl : Array (Option Value)} {oc kV dc pm cd ct : Value} (a : PySem.W.nsIn K mainGlobals "below_base" = some (some (.ref f))) (l : K.lookup f = some ⟨oc, od, .func (PySem.W.fnOf "below_base" "below_base" (defArgs s_below_base) (defBody s_below_base) (defScope s_below_base) .none kV dc pm an cd ct), sl⟩) (c : PySem.W.codeIn K cd "below_base" = true) (k : PySem.W.keepIn K (.ref f) = true) : Dfn K mg "below_base" "below_base" s_below_base ["base"] :=
  ⟨f, _, fun_mk l c k, PySem.W.mg_of X G a, (fun_mk (st := s_below_base) l c k).binds (ps := ["base"]) fun _ _ _ _ _ _ us hl => match us, hl with | [_], _ => rfl⟩
theorem dfn_value_signed (X : K.In h) (G : h.Ns mainGlobals mg) {f : Addr} {od an : Option Addr} {sl : Array (Option Value)} {oc kV dc pm cd ct : Value} (a : PySem.W.nsIn K mainGlobals "value_signed" = some (some (.ref f))) (l : K.lookup f = some ⟨oc, od, .func (PySem.W.fnOf "value" "value" (defArgs s_value_signed) (defBody s_value_signed) (defScope s_value_signed) .none kV dc pm an cd ct), sl⟩) (c : PySem.W.codeIn K cd "value" = true) (k : PySem.W.keepIn K (.ref f) = true) : Dfn K mg "value_signed" "value" s_value_signed ["base", "word"] :=
  ⟨f, _, fun_mk l c k, PySem.W.mg_of X G a, (fun_mk (st := s_value_signed) l c k).binds (ps := ["base", "word"]) fun _ _ _ _ _ _ us hl => match us, hl with | [_, _], _ => rfl⟩
theorem dfn_are_below (X : K.In h) (G : h.Ns mainGlobals mg) {f : Addr} {od an : Option Addr} {sl : Array (Option Value)} {oc kV dc pm cd ct : Value} (a : PySem.W.nsIn K mainGlobals "are_below" = some (some (.ref f))) (l : K.lookup f = some ⟨oc, od, .func (PySem.W.fnOf "are_below" "are_below" (defArgs s_are_below) (defBody s_are_below) (defScope s_are_below) .none kV dc pm an cd ct), sl⟩) (c : PySem.W.codeIn K cd "are_below" = true) (k : PySem.W.keepIn K (.ref f) = true) : Dfn K mg "are_below" "are_below" s_are_below ["base", "word"] :=
  ⟨f, _, fun_mk l c k, PySem.W.mg_of X G a, (fun_mk (st := s_are_below) l c k).binds (ps := ["base", "word"]) fun _ _ _ _ _ _ us hl => match us, hl with | [_, _], _ => rfl⟩
theorem dfn_below_added (X : K.In h) (G : h.Ns mainGlobals mg) {f : Addr} {od an : Option Addr} {sl : Array (Option Value)} {oc kV dc pm cd ct : Value} (a : PySem.W.nsIn K mainGlobals "below_added" = some (some (.ref f))) (l : K.lookup f = some ⟨oc, od, .func (PySem.W.fnOf "below_added" "below_added" (defArgs s_below_added) (defBody s_below_added) (defScope s_below_added) .none kV dc pm an cd ct), sl⟩) (c : PySem.W.codeIn K cd "below_added" = true) (k : PySem.W.keepIn K (.ref f) = true) : Dfn K mg "below_added" "below_added" s_below_added ["base", "one", "other"] :=
  ⟨f, _, fun_mk l c k, PySem.W.mg_of X G a, (fun_mk (st := s_below_added) l c k).binds (ps := ["base", "one", "other"]) fun _ _ _ _ _ _ us hl => match us, hl with | [_, _, _], _ => rfl⟩
theorem dfn_balanced_base (X : K.In h) (G : h.Ns mainGlobals mg) {f : Addr} {od an : Option Addr} {sl : Array (Option Value)} {oc kV dc pm cd ct : Value} (a : PySem.W.nsIn K mainGlobals "balanced_base" = some (some (.ref f))) (l : K.lookup f = some ⟨oc, od, .func (PySem.W.fnOf "balanced_base" "balanced_base" (defArgs s_balanced_base) (defBody s_balanced_base) (defScope s_balanced_base) .none kV dc pm an cd ct), sl⟩) (c : PySem.W.codeIn K cd "balanced_base" = true) (k : PySem.W.keepIn K (.ref f) = true) : Dfn K mg "balanced_base" "balanced_base" s_balanced_base ["base"] :=
  ⟨f, _, fun_mk l c k, PySem.W.mg_of X G a, (fun_mk (st := s_balanced_base) l c k).binds (ps := ["base"]) fun _ _ _ _ _ _ us hl => match us, hl with | [_], _ => rfl⟩
theorem dfn_are_balanced (X : K.In h) (G : h.Ns mainGlobals mg) {f : Addr} {od an : Option Addr} {sl : Array (Option Value)} {oc kV dc pm cd ct : Value} (a : PySem.W.nsIn K mainGlobals "are_balanced" = some (some (.ref f))) (l : K.lookup f = some ⟨oc, od, .func (PySem.W.fnOf "are_balanced" "are_balanced" (defArgs s_are_balanced) (defBody s_are_balanced) (defScope s_are_balanced) .none kV dc pm an cd ct), sl⟩) (c : PySem.W.codeIn K cd "are_balanced" = true) (k : PySem.W.keepIn K (.ref f) = true) : Dfn K mg "are_balanced" "are_balanced" s_are_balanced ["base", "word"] :=
  ⟨f, _, fun_mk l c k, PySem.W.mg_of X G a, (fun_mk (st := s_are_balanced) l c k).binds (ps := ["base", "word"]) fun _ _ _ _ _ _ us hl => match us, hl with | [_, _], _ => rfl⟩
theorem dfn_turned (X : K.In h) (G : h.Ns mainGlobals mg) {f : Addr} {od an : Option Addr} {sl : Array (Option Value)} {oc kV dc pm cd ct : Value} (a : PySem.W.nsIn K mainGlobals "turned" = some (some (.ref f))) (l : K.lookup f = some ⟨oc, od, .func (PySem.W.fnOf "turned" "turned" (defArgs s_turned) (defBody s_turned) (defScope s_turned) .none kV dc pm an cd ct), sl⟩) (c : PySem.W.codeIn K cd "turned" = true) (k : PySem.W.keepIn K (.ref f) = true) : Dfn K mg "turned" "turned" s_turned ["word"] :=
  ⟨f, _, fun_mk l c k, PySem.W.mg_of X G a, (fun_mk (st := s_turned) l c k).binds (ps := ["word"]) fun _ _ _ _ _ _ us hl => match us, hl with | [_], _ => rfl⟩
theorem dfn_rounded (X : K.In h) (G : h.Ns mainGlobals mg) {f : Addr} {od an : Option Addr} {sl : Array (Option Value)} {oc kV dc pm cd ct : Value} (a : PySem.W.nsIn K mainGlobals "rounded" = some (some (.ref f))) (l : K.lookup f = some ⟨oc, od, .func (PySem.W.fnOf "rounded" "rounded" (defArgs s_rounded) (defBody s_rounded) (defScope s_rounded) .none kV dc pm an cd ct), sl⟩) (c : PySem.W.codeIn K cd "rounded" = true) (k : PySem.W.keepIn K (.ref f) = true) : Dfn K mg "rounded" "rounded" s_rounded ["word", "places"] :=
  ⟨f, _, fun_mk l c k, PySem.W.mg_of X G a, (fun_mk (st := s_rounded) l c k).binds (ps := ["word", "places"]) fun _ _ _ _ _ _ us hl => match us, hl with | [_, _], _ => rfl⟩
theorem dfn_are_apart (X : K.In h) (G : h.Ns mainGlobals mg) {f : Addr} {od an : Option Addr} {sl : Array (Option Value)} {oc kV dc pm cd ct : Value} (a : PySem.W.nsIn K mainGlobals "are_apart" = some (some (.ref f))) (l : K.lookup f = some ⟨oc, od, .func (PySem.W.fnOf "are_apart" "are_apart" (defArgs s_are_apart) (defBody s_are_apart) (defScope s_are_apart) .none kV dc pm an cd ct), sl⟩) (c : PySem.W.codeIn K cd "are_apart" = true) (k : PySem.W.keepIn K (.ref f) = true) : Dfn K mg "are_apart" "are_apart" s_are_apart ["word"] :=
  ⟨f, _, fun_mk l c k, PySem.W.mg_of X G a, (fun_mk (st := s_are_apart) l c k).binds (ps := ["word"]) fun _ _ _ _ _ _ us hl => match us, hl with | [_], _ => rfl⟩
theorem dfn_weight (X : K.In h) (G : h.Ns mainGlobals mg) {f : Addr} {od an : Option Addr} {sl : Array (Option Value)} {oc kV dc pm cd ct : Value} (a : PySem.W.nsIn K mainGlobals "weight" = some (some (.ref f))) (l : K.lookup f = some ⟨oc, od, .func (PySem.W.fnOf "weight" "weight" (defArgs s_weight) (defBody s_weight) (defScope s_weight) .none kV dc pm an cd ct), sl⟩) (c : PySem.W.codeIn K cd "weight" = true) (k : PySem.W.keepIn K (.ref f) = true) : Dfn K mg "weight" "weight" s_weight ["word"] :=
  ⟨f, _, fun_mk l c k, PySem.W.mg_of X G a, (fun_mk (st := s_weight) l c k).binds (ps := ["word"]) fun _ _ _ _ _ _ us hl => match us, hl with | [_], _ => rfl⟩
theorem dfn__law_cell (X : K.In h) (G : h.Ns mainGlobals mg) {f : Addr} {od an : Option Addr} {sl : Array (Option Value)} {oc kV dc pm cd ct : Value} (a : PySem.W.nsIn K mainGlobals "_law_cell" = some (some (.ref f))) (l : K.lookup f = some ⟨oc, od, .func (PySem.W.fnOf "_law_cell" "_law_cell" (defArgs s__law_cell) (defBody s__law_cell) (defScope s__law_cell) .none kV dc pm an cd ct), sl⟩) (c : PySem.W.codeIn K cd "_law_cell" = true) (k : PySem.W.keepIn K (.ref f) = true) : Dfn K mg "_law_cell" "_law_cell" s__law_cell ["script", "k"] :=
  ⟨f, _, fun_mk l c k, PySem.W.mg_of X G a, (fun_mk (st := s__law_cell) l c k).binds (ps := ["script", "k"]) fun _ _ _ _ _ _ us hl => match us, hl with | [_, _], _ => rfl⟩
theorem dfn__law_source (X : K.In h) (G : h.Ns mainGlobals mg) {f : Addr} {od an : Option Addr} {sl : Array (Option Value)} {oc kV dc pm cd ct : Value} (a : PySem.W.nsIn K mainGlobals "_law_source" = some (some (.ref f))) (l : K.lookup f = some ⟨oc, od, .func (PySem.W.fnOf "_law_source" "_law_source" (defArgs s__law_source) (defBody s__law_source) (defScope s__law_source) .none kV dc pm an cd ct), sl⟩) (c : PySem.W.codeIn K cd "_law_source" = true) (k : PySem.W.keepIn K (.ref f) = true) : Dfn K mg "_law_source" "_law_source" s__law_source ["cell", "k"] :=
  ⟨f, _, fun_mk l c k, PySem.W.mg_of X G a, (fun_mk (st := s__law_source) l c k).binds (ps := ["cell", "k"]) fun _ _ _ _ _ _ us hl => match us, hl with | [_, _], _ => rfl⟩
theorem dfn__law_pick (X : K.In h) (G : h.Ns mainGlobals mg) {f : Addr} {od an : Option Addr} {sl : Array (Option Value)} {oc kV dc pm cd ct : Value} (a : PySem.W.nsIn K mainGlobals "_law_pick" = some (some (.ref f))) (l : K.lookup f = some ⟨oc, od, .func (PySem.W.fnOf "_law_pick" "_law_pick" (defArgs s__law_pick) (defBody s__law_pick) (defScope s__law_pick) .none kV dc pm an cd ct), sl⟩) (c : PySem.W.codeIn K cd "_law_pick" = true) (k : PySem.W.keepIn K (.ref f) = true) : Dfn K mg "_law_pick" "_law_pick" s__law_pick ["source", "many"] :=
  ⟨f, _, fun_mk l c k, PySem.W.mg_of X G a, (fun_mk (st := s__law_pick) l c k).binds (ps := ["source", "many"]) fun _ _ _ _ _ _ us hl => match us, hl with | [_, _], _ => rfl⟩
theorem dfn__law_same (X : K.In h) (G : h.Ns mainGlobals mg) {f : Addr} {od an : Option Addr} {sl : Array (Option Value)} {oc kV dc pm cd ct : Value} (a : PySem.W.nsIn K mainGlobals "_law_same" = some (some (.ref f))) (l : K.lookup f = some ⟨oc, od, .func (PySem.W.fnOf "_law_same" "_law_same" (defArgs s__law_same) (defBody s__law_same) (defScope s__law_same) .none kV dc pm an cd ct), sl⟩) (c : PySem.W.codeIn K cd "_law_same" = true) (k : PySem.W.keepIn K (.ref f) = true) : Dfn K mg "_law_same" "_law_same" s__law_same ["told", "due"] :=
  ⟨f, _, fun_mk l c k, PySem.W.mg_of X G a, (fun_mk (st := s__law_same) l c k).binds (ps := ["told", "due"]) fun _ _ _ _ _ _ us hl => match us, hl with | [_, _], _ => rfl⟩
theorem dfn__law_all_same (X : K.In h) (G : h.Ns mainGlobals mg) {f : Addr} {od an : Option Addr} {sl : Array (Option Value)} {oc kV dc pm cd ct : Value} (a : PySem.W.nsIn K mainGlobals "_law_all_same" = some (some (.ref f))) (l : K.lookup f = some ⟨oc, od, .func (PySem.W.fnOf "_law_all_same" "_law_all_same" (defArgs s__law_all_same) (defBody s__law_all_same) (defScope s__law_all_same) .none kV dc pm an cd ct), sl⟩) (c : PySem.W.codeIn K cd "_law_all_same" = true) (k : PySem.W.keepIn K (.ref f) = true) : Dfn K mg "_law_all_same" "_law_all_same" s__law_all_same ["rows"] :=
  ⟨f, _, fun_mk l c k, PySem.W.mg_of X G a, (fun_mk (st := s__law_all_same) l c k).binds (ps := ["rows"]) fun _ _ _ _ _ _ us hl => match us, hl with | [_], _ => rfl⟩
theorem dfn__law_great (X : K.In h) (G : h.Ns mainGlobals mg) {f : Addr} {od an : Option Addr} {sl : Array (Option Value)} {oc kV dc pm cd ct : Value} (a : PySem.W.nsIn K mainGlobals "_law_great" = some (some (.ref f))) (l : K.lookup f = some ⟨oc, od, .func (PySem.W.fnOf "_law_great" "_law_great" (defArgs s__law_great) (defBody s__law_great) (defScope s__law_great) .none kV dc pm an cd ct), sl⟩) (c : PySem.W.codeIn K cd "_law_great" = true) (k : PySem.W.keepIn K (.ref f) = true) : Dfn K mg "_law_great" "_law_great" s__law_great ["source"] :=
  ⟨f, _, fun_mk l c k, PySem.W.mg_of X G a, (fun_mk (st := s__law_great) l c k).binds (ps := ["source"]) fun _ _ _ _ _ _ us hl => match us, hl with | [_], _ => rfl⟩
theorem dfn__law_power (X : K.In h) (G : h.Ns mainGlobals mg) {f : Addr} {od an : Option Addr} {sl : Array (Option Value)} {oc kV dc pm cd ct : Value} (a : PySem.W.nsIn K mainGlobals "_law_power" = some (some (.ref f))) (l : K.lookup f = some ⟨oc, od, .func (PySem.W.fnOf "_law_power" "_law_power" (defArgs s__law_power) (defBody s__law_power) (defScope s__law_power) .none kV dc pm an cd ct), sl⟩) (c : PySem.W.codeIn K cd "_law_power" = true) (k : PySem.W.keepIn K (.ref f) = true) : Dfn K mg "_law_power" "_law_power" s__law_power ["base", "e"] :=
  ⟨f, _, fun_mk l c k, PySem.W.mg_of X G a, (fun_mk (st := s__law_power) l c k).binds (ps := ["base", "e"]) fun _ _ _ _ _ _ us hl => match us, hl with | [_, _], _ => rfl⟩
theorem dfn__law_digits (X : K.In h) (G : h.Ns mainGlobals mg) {f : Addr} {od an : Option Addr} {sl : Array (Option Value)} {oc kV dc pm cd ct : Value} (a : PySem.W.nsIn K mainGlobals "_law_digits" = some (some (.ref f))) (l : K.lookup f = some ⟨oc, od, .func (PySem.W.fnOf "_law_digits" "_law_digits" (defArgs s__law_digits) (defBody s__law_digits) (defScope s__law_digits) .none kV dc pm an cd ct), sl⟩) (c : PySem.W.codeIn K cd "_law_digits" = true) (k : PySem.W.keepIn K (.ref f) = true) : Dfn K mg "_law_digits" "_law_digits" s__law_digits ["base", "n"] :=
  ⟨f, _, fun_mk l c k, PySem.W.mg_of X G a, (fun_mk (st := s__law_digits) l c k).binds (ps := ["base", "n"]) fun _ _ _ _ _ _ us hl => match us, hl with | [_, _], _ => rfl⟩
theorem dfn__law_sign (X : K.In h) (G : h.Ns mainGlobals mg) {f : Addr} {od an : Option Addr} {sl : Array (Option Value)} {oc kV dc pm cd ct : Value} (a : PySem.W.nsIn K mainGlobals "_law_sign" = some (some (.ref f))) (l : K.lookup f = some ⟨oc, od, .func (PySem.W.fnOf "_law_sign" "_law_sign" (defArgs s__law_sign) (defBody s__law_sign) (defScope s__law_sign) .none kV dc pm an cd ct), sl⟩) (c : PySem.W.codeIn K cd "_law_sign" = true) (k : PySem.W.keepIn K (.ref f) = true) : Dfn K mg "_law_sign" "_law_sign" s__law_sign ["one", "other"] :=
  ⟨f, _, fun_mk l c k, PySem.W.mg_of X G a, (fun_mk (st := s__law_sign) l c k).binds (ps := ["one", "other"]) fun _ _ _ _ _ _ us hl => match us, hl with | [_, _], _ => rfl⟩
theorem dfn__law_scaled (X : K.In h) (G : h.Ns mainGlobals mg) {f : Addr} {od an : Option Addr} {sl : Array (Option Value)} {oc kV dc pm cd ct : Value} (a : PySem.W.nsIn K mainGlobals "_law_scaled" = some (some (.ref f))) (l : K.lookup f = some ⟨oc, od, .func (PySem.W.fnOf "_law_scaled" "_law_scaled" (defArgs s__law_scaled) (defBody s__law_scaled) (defScope s__law_scaled) .none kV dc pm an cd ct), sl⟩) (c : PySem.W.codeIn K cd "_law_scaled" = true) (k : PySem.W.keepIn K (.ref f) = true) : Dfn K mg "_law_scaled" "_law_scaled" s__law_scaled ["base", "word", "factor"] :=
  ⟨f, _, fun_mk l c k, PySem.W.mg_of X G a, (fun_mk (st := s__law_scaled) l c k).binds (ps := ["base", "word", "factor"]) fun _ _ _ _ _ _ us hl => match us, hl with | [_, _, _], _ => rfl⟩
theorem dfn__law_carries (X : K.In h) (G : h.Ns mainGlobals mg) {f : Addr} {od an : Option Addr} {sl : Array (Option Value)} {oc kV dc pm cd ct : Value} (a : PySem.W.nsIn K mainGlobals "_law_carries" = some (some (.ref f))) (l : K.lookup f = some ⟨oc, od, .func (PySem.W.fnOf "_law_carries" "_law_carries" (defArgs s__law_carries) (defBody s__law_carries) (defScope s__law_carries) .none kV dc pm an cd ct), sl⟩) (c : PySem.W.codeIn K cd "_law_carries" = true) (k : PySem.W.keepIn K (.ref f) = true) : Dfn K mg "_law_carries" "_law_carries" s__law_carries ["base", "one", "other"] :=
  ⟨f, _, fun_mk l c k, PySem.W.mg_of X G a, (fun_mk (st := s__law_carries) l c k).binds (ps := ["base", "one", "other"]) fun _ _ _ _ _ _ us hl => match us, hl with | [_, _, _], _ => rfl⟩
theorem dfn__law_below (X : K.In h) (G : h.Ns mainGlobals mg) {f : Addr} {od an : Option Addr} {sl : Array (Option Value)} {oc kV dc pm cd ct : Value} (a : PySem.W.nsIn K mainGlobals "_law_below" = some (some (.ref f))) (l : K.lookup f = some ⟨oc, od, .func (PySem.W.fnOf "_law_below" "_law_below" (defArgs s__law_below) (defBody s__law_below) (defScope s__law_below) .none kV dc pm an cd ct), sl⟩) (c : PySem.W.codeIn K cd "_law_below" = true) (k : PySem.W.keepIn K (.ref f) = true) : Dfn K mg "_law_below" "_law_below" s__law_below ["size", "n"] :=
  ⟨f, _, fun_mk l c k, PySem.W.mg_of X G a, (fun_mk (st := s__law_below) l c k).binds (ps := ["size", "n"]) fun _ _ _ _ _ _ us hl => match us, hl with | [_, _], _ => rfl⟩
theorem dfn__law_below_carries (X : K.In h) (G : h.Ns mainGlobals mg) {f : Addr} {od an : Option Addr} {sl : Array (Option Value)} {oc kV dc pm cd ct : Value} (a : PySem.W.nsIn K mainGlobals "_law_below_carries" = some (some (.ref f))) (l : K.lookup f = some ⟨oc, od, .func (PySem.W.fnOf "_law_below_carries" "_law_below_carries" (defArgs s__law_below_carries) (defBody s__law_below_carries) (defScope s__law_below_carries) .none kV dc pm an cd ct), sl⟩) (c : PySem.W.codeIn K cd "_law_below_carries" = true) (k : PySem.W.keepIn K (.ref f) = true) : Dfn K mg "_law_below_carries" "_law_below_carries" s__law_below_carries ["size", "one", "other"] :=
  ⟨f, _, fun_mk l c k, PySem.W.mg_of X G a, (fun_mk (st := s__law_below_carries) l c k).binds (ps := ["size", "one", "other"]) fun _ _ _ _ _ _ us hl => match us, hl with | [_, _, _], _ => rfl⟩
theorem dfn__law_ones (X : K.In h) (G : h.Ns mainGlobals mg) {f : Addr} {od an : Option Addr} {sl : Array (Option Value)} {oc kV dc pm cd ct : Value} (a : PySem.W.nsIn K mainGlobals "_law_ones" = some (some (.ref f))) (l : K.lookup f = some ⟨oc, od, .func (PySem.W.fnOf "_law_ones" "_law_ones" (defArgs s__law_ones) (defBody s__law_ones) (defScope s__law_ones) .none kV dc pm an cd ct), sl⟩) (c : PySem.W.codeIn K cd "_law_ones" = true) (k : PySem.W.keepIn K (.ref f) = true) : Dfn K mg "_law_ones" "_law_ones" s__law_ones ["base", "n"] :=
  ⟨f, _, fun_mk l c k, PySem.W.mg_of X G a, (fun_mk (st := s__law_ones) l c k).binds (ps := ["base", "n"]) fun _ _ _ _ _ _ us hl => match us, hl with | [_, _], _ => rfl⟩
theorem dfn__law_kept (X : K.In h) (G : h.Ns mainGlobals mg) {f : Addr} {od an : Option Addr} {sl : Array (Option Value)} {oc kV dc pm cd ct : Value} (a : PySem.W.nsIn K mainGlobals "_law_kept" = some (some (.ref f))) (l : K.lookup f = some ⟨oc, od, .func (PySem.W.fnOf "_law_kept" "_law_kept" (defArgs s__law_kept) (defBody s__law_kept) (defScope s__law_kept) .none kV dc pm an cd ct), sl⟩) (c : PySem.W.codeIn K cd "_law_kept" = true) (k : PySem.W.keepIn K (.ref f) = true) : Dfn K mg "_law_kept" "_law_kept" s__law_kept ["hands", "copies"] :=
  ⟨f, _, fun_mk l c k, PySem.W.mg_of X G a, (fun_mk (st := s__law_kept) l c k).binds (ps := ["hands", "copies"]) fun _ _ _ _ _ _ us hl => match us, hl with | [_, _], _ => rfl⟩
theorem dfn__law_plain_right (X : K.In h) (G : h.Ns mainGlobals mg) {f : Addr} {od an : Option Addr} {sl : Array (Option Value)} {oc kV dc pm cd ct : Value} (a : PySem.W.nsIn K mainGlobals "_law_plain_right" = some (some (.ref f))) (l : K.lookup f = some ⟨oc, od, .func (PySem.W.fnOf "_law_plain_right" "_law_plain_right" (defArgs s__law_plain_right) (defBody s__law_plain_right) (defScope s__law_plain_right) .none kV dc pm an cd ct), sl⟩) (c : PySem.W.codeIn K cd "_law_plain_right" = true) (k : PySem.W.keepIn K (.ref f) = true) : Dfn K mg "_law_plain_right" "_law_plain_right" s__law_plain_right ["source"] :=
  ⟨f, _, fun_mk l c k, PySem.W.mg_of X G a, (fun_mk (st := s__law_plain_right) l c k).binds (ps := ["source"]) fun _ _ _ _ _ _ us hl => match us, hl with | [_], _ => rfl⟩
theorem dfn__law_signed_right (X : K.In h) (G : h.Ns mainGlobals mg) {f : Addr} {od an : Option Addr} {sl : Array (Option Value)} {oc kV dc pm cd ct : Value} (a : PySem.W.nsIn K mainGlobals "_law_signed_right" = some (some (.ref f))) (l : K.lookup f = some ⟨oc, od, .func (PySem.W.fnOf "_law_signed_right" "_law_signed_right" (defArgs s__law_signed_right) (defBody s__law_signed_right) (defScope s__law_signed_right) .none kV dc pm an cd ct), sl⟩) (c : PySem.W.codeIn K cd "_law_signed_right" = true) (k : PySem.W.keepIn K (.ref f) = true) : Dfn K mg "_law_signed_right" "_law_signed_right" s__law_signed_right ["source"] :=
  ⟨f, _, fun_mk l c k, PySem.W.mg_of X G a, (fun_mk (st := s__law_signed_right) l c k).binds (ps := ["source"]) fun _ _ _ _ _ _ us hl => match us, hl with | [_], _ => rfl⟩
theorem dfn__law_ones_right (X : K.In h) (G : h.Ns mainGlobals mg) {f : Addr} {od an : Option Addr} {sl : Array (Option Value)} {oc kV dc pm cd ct : Value} (a : PySem.W.nsIn K mainGlobals "_law_ones_right" = some (some (.ref f))) (l : K.lookup f = some ⟨oc, od, .func (PySem.W.fnOf "_law_ones_right" "_law_ones_right" (defArgs s__law_ones_right) (defBody s__law_ones_right) (defScope s__law_ones_right) .none kV dc pm an cd ct), sl⟩) (c : PySem.W.codeIn K cd "_law_ones_right" = true) (k : PySem.W.keepIn K (.ref f) = true) : Dfn K mg "_law_ones_right" "_law_ones_right" s__law_ones_right ["source"] :=
  ⟨f, _, fun_mk l c k, PySem.W.mg_of X G a, (fun_mk (st := s__law_ones_right) l c k).binds (ps := ["source"]) fun _ _ _ _ _ _ us hl => match us, hl with | [_], _ => rfl⟩
theorem dfn__law_right (X : K.In h) (G : h.Ns mainGlobals mg) {f : Addr} {od an : Option Addr} {sl : Array (Option Value)} {oc kV dc pm cd ct : Value} (a : PySem.W.nsIn K mainGlobals "_law_right" = some (some (.ref f))) (l : K.lookup f = some ⟨oc, od, .func (PySem.W.fnOf "_law_right" "_law_right" (defArgs s__law_right) (defBody s__law_right) (defScope s__law_right) .none kV dc pm an cd ct), sl⟩) (c : PySem.W.codeIn K cd "_law_right" = true) (k : PySem.W.keepIn K (.ref f) = true) : Dfn K mg "_law_right" "_law_right" s__law_right ["source"] :=
  ⟨f, _, fun_mk l c k, PySem.W.mg_of X G a, (fun_mk (st := s__law_right) l c k).binds (ps := ["source"]) fun _ _ _ _ _ _ us hl => match us, hl with | [_], _ => rfl⟩
end
theorem glob_of {mg : Str → Option Value} {n : Str} {i j : Int} {t : Tok} (h : mg n = some (.int i t)) (e : decide (i = j) = true) : ∃ t, mg n = some (.int j t) := ⟨t, by rw [h, of_decide_eq_true e]⟩
def spScript (K : PySem.W.Frag) : Sp := fun vs H Q _ => ∃ (a : Addr) (ns : List Int), vs = [.ref a] ∧ SqL K H a (ns.map V.int) ∧ ns.length ≤ 63 ∧ ∀ H', Q (.bl true) H'
theorem rl_ints {K : PySem.W.Frag} {H : Hp} {B C : Addr → Prop} : ∀ ns : List Int, RL K H B C (ns.map PV.int) (ns.map V.int)
  | [] => .nil
  | n :: ns => .cons (.int n) (rl_ints ns)
theorem script_ok {K : PySem.W.Frag} : ∀ vs H Q E, spScript K vs H Q E → spOf K sp_law vs H Q E := fun vs H Q E ⟨a, ns, e, hS, hl, hq⟩ => by
  subst e
  have go : ∀ w : PV, isScript w ns → R K H (fun _ => False) (fun _ => False) w (.ref a) → spOf K sp_law [.ref a] H Q E := fun w hw hr =>
    ⟨fun _ => False, fun _ => False, fun _ => none, [w], fun p _ => p = .bl true, fun _ h => h, fun _ h => h.elim, fun _ => ⟨fun h => h.elim, fun _ => rfl⟩, .cons hr .nil, ⟨ns, hw, hl, fun _ => rfl, rfl⟩, fun p M' v H' h _ r _ => by
      subst h
      cases r
      exact hq H'⟩
  rcases hS with (h | h) | h
  · exact go _ (.inl rfl) (.lst ⟨h, fun z => z⟩ (rl_ints ns))
  · exact go _ (.inr rfl) (.fro (.inl h) (rl_ints ns))
  · exact go _ (.inr rfl) (.fro (.inr h) (rl_ints ns))
set_option maxHeartbeats 0 in
theorem law_of {P : Program} {w : World} {K : PySem.W.Frag} {mg : Str → Option Value} {base : Heap} {f : Addr} {fd : FuncData} (F : Fun K "law" "law" s_law f fd) (T : Txt mg) (D_power : Dfn K mg "power" "power" s_power ["base", "e"]) (D_checked : Dfn K mg "checked" "checked" s_checked ["n"]) (D_natural : Dfn K mg "natural" "natural" s_natural ["n"]) (D_base_of : Dfn K mg "base_of" "base_of" s_base_of ["base"]) (D_digits : Dfn K mg "digits" "digits" s_digits ["base", "n"]) (D_are_digits_bases : Dfn K mg "are_digits_bases" "are_digits" s_are_digits_bases ["base", "word"]) (D_checked_digits : Dfn K mg "checked_digits" "checked_digits" s_checked_digits ["base", "word"]) (D_value_bases : Dfn K mg "value_bases" "value" s_value_bases ["base", "word"]) (D_added_bases : Dfn K mg "added_bases" "added" s_added_bases ["base", "one", "other"]) (D_less : Dfn K mg "less" "less" s_less ["base", "one", "other"]) (D_scaled : Dfn K mg "scaled" "scaled" s_scaled ["base", "word", "factor"]) (D_in_other : Dfn K mg "in_other" "in_other" s_in_other ["base", "word", "other"]) (D_compared_bases : Dfn K mg "compared_bases" "compared" s_compared_bases ["one", "other"]) (D_blocks : Dfn K mg "blocks" "blocks" s_blocks ["base", "word", "size"]) (D_unblocked : Dfn K mg "unblocked" "unblocked" s_unblocked ["base", "word", "size"]) (D_are_digits_bijective : Dfn K mg "are_digits_bijective" "are_digits" s_are_digits_bijective ["base", "word"]) (D_value_bijective : Dfn K mg "value_bijective" "value" s_value_bijective ["base", "word"]) (D_following : Dfn K mg "following" "following" s_following ["base", "word"]) (D_ahead : Dfn K mg "ahead" "ahead" s_ahead ["base", "word"]) (D_compared_bijective : Dfn K mg "compared_bijective" "compared" s_compared_bijective ["one", "other"]) (D_added_bijective : Dfn K mg "added_bijective" "added" s_added_bijective ["base", "one", "other"]) (D_below_base : Dfn K mg "below_base" "below_base" s_below_base ["base"]) (D_value_signed : Dfn K mg "value_signed" "value" s_value_signed ["base", "word"]) (D_are_below : Dfn K mg "are_below" "are_below" s_are_below ["base", "word"]) (D_below_added : Dfn K mg "below_added" "below_added" s_below_added ["base", "one", "other"]) (D_balanced_base : Dfn K mg "balanced_base" "balanced_base" s_balanced_base ["base"]) (D_are_balanced : Dfn K mg "are_balanced" "are_balanced" s_are_balanced ["base", "word"]) (D_turned : Dfn K mg "turned" "turned" s_turned ["word"]) (D_rounded : Dfn K mg "rounded" "rounded" s_rounded ["word", "places"]) (D_are_apart : Dfn K mg "are_apart" "are_apart" s_are_apart ["word"]) (D_weight : Dfn K mg "weight" "weight" s_weight ["word"]) (D__law_cell : Dfn K mg "_law_cell" "_law_cell" s__law_cell ["script", "k"]) (D__law_source : Dfn K mg "_law_source" "_law_source" s__law_source ["cell", "k"]) (D__law_pick : Dfn K mg "_law_pick" "_law_pick" s__law_pick ["source", "many"]) (D__law_same : Dfn K mg "_law_same" "_law_same" s__law_same ["told", "due"]) (D__law_all_same : Dfn K mg "_law_all_same" "_law_all_same" s__law_all_same ["rows"]) (D__law_great : Dfn K mg "_law_great" "_law_great" s__law_great ["source"]) (D__law_power : Dfn K mg "_law_power" "_law_power" s__law_power ["base", "e"]) (D__law_digits : Dfn K mg "_law_digits" "_law_digits" s__law_digits ["base", "n"]) (D__law_sign : Dfn K mg "_law_sign" "_law_sign" s__law_sign ["one", "other"]) (D__law_scaled : Dfn K mg "_law_scaled" "_law_scaled" s__law_scaled ["base", "word", "factor"]) (D__law_carries : Dfn K mg "_law_carries" "_law_carries" s__law_carries ["base", "one", "other"]) (D__law_below : Dfn K mg "_law_below" "_law_below" s__law_below ["size", "n"]) (D__law_below_carries : Dfn K mg "_law_below_carries" "_law_below_carries" s__law_below_carries ["size", "one", "other"]) (D__law_ones : Dfn K mg "_law_ones" "_law_ones" s__law_ones ["base", "n"]) (D__law_kept : Dfn K mg "_law_kept" "_law_kept" s__law_kept ["hands", "copies"]) (D__law_plain_right : Dfn K mg "_law_plain_right" "_law_plain_right" s__law_plain_right ["source"]) (D__law_signed_right : Dfn K mg "_law_signed_right" "_law_signed_right" s__law_signed_right ["source"]) (D__law_ones_right : Dfn K mg "_law_ones_right" "_law_ones_right" s__law_ones_right ["source"]) (D__law_right : Dfn K mg "_law_right" "_law_right" s__law_right ["source"]) : FnOk P w K mg base CX0 10 f fd ["script"] (spOf K sp_law) := by
  have c_power : Cal P w K mg base 1 "power" ["base", "e"] sp_power := ok_power D_power T 
  have c_checked : Cal P w K mg base 1 "checked" ["n"] sp_checked := ok_checked D_checked T 
  have c_natural : Cal P w K mg base 2 "natural" ["n"] sp_natural := ok_natural D_natural T c_checked
  have c_base_of : Cal P w K mg base 1 "base_of" ["base"] sp_base_of := ok_base_of D_base_of T 
  have c_digits : Cal P w K mg base 3 "digits" ["base", "n"] sp_digits := ok_digits D_digits T c_base_of c_natural
  have c_are_digits_bases : Cal P w K mg base 1 "are_digits_bases" ["base", "word"] sp_are_digits_bases := ok_are_digits_bases D_are_digits_bases T 
  have c_checked_digits : Cal P w K mg base 2 "checked_digits" ["base", "word"] sp_checked_digits := ok_checked_digits D_checked_digits T c_base_of c_are_digits_bases
  have c_value_bases : Cal P w K mg base 1 "value_bases" ["base", "word"] sp_value_bases := ok_value_bases D_value_bases T 
  have c_added_bases : Cal P w K mg base 3 "added_bases" ["base", "one", "other"] sp_added_bases := ok_added_bases D_added_bases T c_checked_digits
  have c_less : Cal P w K mg base 4 "less" ["base", "one", "other"] sp_less := ok_less D_less T c_checked_digits c_value_bases c_digits
  have c_scaled : Cal P w K mg base 3 "scaled" ["base", "word", "factor"] sp_scaled := ok_scaled D_scaled T c_natural c_checked_digits
  have c_in_other : Cal P w K mg base 3 "in_other" ["base", "word", "other"] sp_in_other := ok_in_other D_in_other T c_base_of c_checked_digits
  have c_compared_bases : Cal P w K mg base 1 "compared_bases" ["one", "other"] sp_compared_bases := ok_compared_bases D_compared_bases T 
  have c_blocks : Cal P w K mg base 3 "blocks" ["base", "word", "size"] sp_blocks := ok_blocks D_blocks T c_checked_digits c_value_bases
  have c_unblocked : Cal P w K mg base 4 "unblocked" ["base", "word", "size"] sp_unblocked := ok_unblocked D_unblocked T c_base_of c_power c_digits
  have c_are_digits_bijective : Cal P w K mg base 1 "are_digits_bijective" ["base", "word"] sp_are_digits_bijective := ok_are_digits_bijective D_are_digits_bijective T 
  have c_value_bijective : Cal P w K mg base 2 "value_bijective" ["base", "word"] sp_value_bijective := ok_value_bijective D_value_bijective T c_base_of c_are_digits_bijective
  have c_following : Cal P w K mg base 2 "following" ["base", "word"] sp_following := ok_following D_following T c_base_of c_are_digits_bijective
  have c_ahead : Cal P w K mg base 2 "ahead" ["base", "word"] sp_ahead := ok_ahead D_ahead T c_base_of c_are_digits_bijective
  have c_compared_bijective : Cal P w K mg base 1 "compared_bijective" ["one", "other"] sp_compared_bijective := ok_compared_bijective D_compared_bijective T 
  have c_added_bijective : Cal P w K mg base 2 "added_bijective" ["base", "one", "other"] sp_added_bijective := ok_added_bijective D_added_bijective T c_base_of c_are_digits_bijective
  have c_below_base : Cal P w K mg base 1 "below_base" ["base"] sp_below_base := ok_below_base D_below_base T 
  have c_value_signed : Cal P w K mg base 1 "value_signed" ["base", "word"] sp_value_signed := ok_value_signed D_value_signed T 
  have c_are_below : Cal P w K mg base 1 "are_below" ["base", "word"] sp_are_below := ok_are_below D_are_below T 
  have c_below_added : Cal P w K mg base 2 "below_added" ["base", "one", "other"] sp_below_added := ok_below_added D_below_added T c_below_base c_are_below
  have c_balanced_base : Cal P w K mg base 1 "balanced_base" ["base"] sp_balanced_base := ok_balanced_base D_balanced_base T 
  have c_are_balanced : Cal P w K mg base 2 "are_balanced" ["base", "word"] sp_are_balanced := ok_are_balanced D_are_balanced T c_balanced_base
  have c_turned : Cal P w K mg base 1 "turned" ["word"] sp_turned := ok_turned D_turned T 
  have c_rounded : Cal P w K mg base 1 "rounded" ["word", "places"] sp_rounded := ok_rounded D_rounded T 
  have c_are_apart : Cal P w K mg base 1 "are_apart" ["word"] sp_are_apart := ok_are_apart D_are_apart T 
  have c_weight : Cal P w K mg base 1 "weight" ["word"] sp_weight := ok_weight D_weight T 
  have c__law_cell : Cal P w K mg base 1 "_law_cell" ["script", "k"] sp__law_cell := ok__law_cell D__law_cell T 
  have c__law_source : Cal P w K mg base 1 "_law_source" ["cell", "k"] sp__law_source := ok__law_source D__law_source T 
  have c__law_pick : Cal P w K mg base 1 "_law_pick" ["source", "many"] sp__law_pick := ok__law_pick D__law_pick T 
  have r0__law_same : Cal P w K mg base 0 "_law_same" ["told", "due"] (spr__law_same 0) := cal_none D__law_same no__law_same
  have r1__law_same : Cal P w K mg base 1 "_law_same" ["told", "due"] (spr__law_same 1) := ok__law_same D__law_same T (by decide) r0__law_same
  have r2__law_same : Cal P w K mg base 2 "_law_same" ["told", "due"] (spr__law_same 2) := ok__law_same D__law_same T (by decide) r1__law_same
  have r3__law_same : Cal P w K mg base 3 "_law_same" ["told", "due"] (spr__law_same 3) := ok__law_same D__law_same T (by decide) r2__law_same
  have r4__law_same : Cal P w K mg base 4 "_law_same" ["told", "due"] (spr__law_same 4) := ok__law_same D__law_same T (by decide) r3__law_same
  have r5__law_same : Cal P w K mg base 5 "_law_same" ["told", "due"] (spr__law_same 5) := ok__law_same D__law_same T (by decide) r4__law_same
  have r6__law_same : Cal P w K mg base 6 "_law_same" ["told", "due"] (spr__law_same 6) := ok__law_same D__law_same T (by decide) r5__law_same
  have c__law_same : Cal P w K mg base 6 "_law_same" ["told", "due"] sp__law_same := r6__law_same
  have c__law_all_same : Cal P w K mg base 7 "_law_all_same" ["rows"] sp__law_all_same := ok__law_all_same D__law_all_same T c__law_same
  have c__law_great : Cal P w K mg base 2 "_law_great" ["source"] sp__law_great := ok__law_great D__law_great T c__law_pick
  have c__law_power : Cal P w K mg base 1 "_law_power" ["base", "e"] sp__law_power := ok__law_power D__law_power T 
  have c__law_digits : Cal P w K mg base 1 "_law_digits" ["base", "n"] sp__law_digits := ok__law_digits D__law_digits T 
  have c__law_sign : Cal P w K mg base 1 "_law_sign" ["one", "other"] sp__law_sign := ok__law_sign D__law_sign T 
  have c__law_scaled : Cal P w K mg base 1 "_law_scaled" ["base", "word", "factor"] sp__law_scaled := ok__law_scaled D__law_scaled T 
  have c__law_carries : Cal P w K mg base 1 "_law_carries" ["base", "one", "other"] sp__law_carries := ok__law_carries D__law_carries T 
  have c__law_below : Cal P w K mg base 1 "_law_below" ["size", "n"] sp__law_below := ok__law_below D__law_below T 
  have c__law_below_carries : Cal P w K mg base 1 "_law_below_carries" ["size", "one", "other"] sp__law_below_carries := ok__law_below_carries D__law_below_carries T 
  have c__law_ones : Cal P w K mg base 1 "_law_ones" ["base", "n"] sp__law_ones := ok__law_ones D__law_ones T 
  have c__law_kept : Cal P w K mg base 7 "_law_kept" ["hands", "copies"] sp__law_kept := ok__law_kept D__law_kept T c__law_same
  have c__law_plain_right : Cal P w K mg base 8 "_law_plain_right" ["source"] sp__law_plain_right := ok__law_plain_right D__law_plain_right T c__law_pick c__law_great c__law_digits c__law_power c__law_carries c_value_bases c_are_digits_bases c_added_bases c_less c_compared_bases c__law_sign c_scaled c__law_scaled c_in_other c_blocks c_unblocked c__law_all_same c__law_kept
  have c__law_signed_right : Cal P w K mg base 8 "_law_signed_right" ["source"] sp__law_signed_right := ok__law_signed_right D__law_signed_right T c__law_pick c__law_great c__law_below c__law_below_carries c_value_signed c_are_below c_below_added c_turned c_rounded c_are_balanced c_weight c_are_apart c__law_all_same c__law_kept
  have c__law_ones_right : Cal P w K mg base 8 "_law_ones_right" ["source"] sp__law_ones_right := ok__law_ones_right D__law_ones_right T c__law_pick c__law_great c__law_ones c_value_bijective c_are_digits_bijective c_following c_ahead c_added_bijective c_compared_bijective c__law_sign c__law_all_same c__law_kept
  have c__law_right : Cal P w K mg base 9 "_law_right" ["source"] sp__law_right := ok__law_right D__law_right T c__law_plain_right c__law_signed_right c__law_ones_right
  exact fn_law F T c__law_cell c__law_right c__law_source
theorem all_mk {l : PySem.W.OpenLaw} {w : World} {K : PySem.W.Frag} {h : Heap} {mg : Str → Option Value} {fa : Addr} (X : K.In h) (G : h.Ns mainGlobals mg) (hfa : mg "law" = some (.ref fa))
    {f : Addr} {od an : Option Addr} {sl : Array (Option Value)} {oc kV dc pm cd ct : Value} (a : PySem.W.nsIn K mainGlobals "law" = some (some (.ref f))) (lk : K.lookup f = some ⟨oc, od, .func (PySem.W.fnOf "law" "law" (defArgs s_law) (defBody s_law) (defScope s_law) .none kV dc pm an cd ct), sl⟩) (c : PySem.W.codeIn K cd "law" = true) (k : PySem.W.keepIn K (.ref f) = true)
    (T : Txt mg) (D_power : Dfn K mg "power" "power" s_power ["base", "e"]) (D_checked : Dfn K mg "checked" "checked" s_checked ["n"]) (D_natural : Dfn K mg "natural" "natural" s_natural ["n"]) (D_base_of : Dfn K mg "base_of" "base_of" s_base_of ["base"]) (D_digits : Dfn K mg "digits" "digits" s_digits ["base", "n"]) (D_are_digits_bases : Dfn K mg "are_digits_bases" "are_digits" s_are_digits_bases ["base", "word"]) (D_checked_digits : Dfn K mg "checked_digits" "checked_digits" s_checked_digits ["base", "word"]) (D_value_bases : Dfn K mg "value_bases" "value" s_value_bases ["base", "word"]) (D_added_bases : Dfn K mg "added_bases" "added" s_added_bases ["base", "one", "other"]) (D_less : Dfn K mg "less" "less" s_less ["base", "one", "other"]) (D_scaled : Dfn K mg "scaled" "scaled" s_scaled ["base", "word", "factor"]) (D_in_other : Dfn K mg "in_other" "in_other" s_in_other ["base", "word", "other"]) (D_compared_bases : Dfn K mg "compared_bases" "compared" s_compared_bases ["one", "other"]) (D_blocks : Dfn K mg "blocks" "blocks" s_blocks ["base", "word", "size"]) (D_unblocked : Dfn K mg "unblocked" "unblocked" s_unblocked ["base", "word", "size"]) (D_are_digits_bijective : Dfn K mg "are_digits_bijective" "are_digits" s_are_digits_bijective ["base", "word"]) (D_value_bijective : Dfn K mg "value_bijective" "value" s_value_bijective ["base", "word"]) (D_following : Dfn K mg "following" "following" s_following ["base", "word"]) (D_ahead : Dfn K mg "ahead" "ahead" s_ahead ["base", "word"]) (D_compared_bijective : Dfn K mg "compared_bijective" "compared" s_compared_bijective ["one", "other"]) (D_added_bijective : Dfn K mg "added_bijective" "added" s_added_bijective ["base", "one", "other"]) (D_below_base : Dfn K mg "below_base" "below_base" s_below_base ["base"]) (D_value_signed : Dfn K mg "value_signed" "value" s_value_signed ["base", "word"]) (D_are_below : Dfn K mg "are_below" "are_below" s_are_below ["base", "word"]) (D_below_added : Dfn K mg "below_added" "below_added" s_below_added ["base", "one", "other"]) (D_balanced_base : Dfn K mg "balanced_base" "balanced_base" s_balanced_base ["base"]) (D_are_balanced : Dfn K mg "are_balanced" "are_balanced" s_are_balanced ["base", "word"]) (D_turned : Dfn K mg "turned" "turned" s_turned ["word"]) (D_rounded : Dfn K mg "rounded" "rounded" s_rounded ["word", "places"]) (D_are_apart : Dfn K mg "are_apart" "are_apart" s_are_apart ["word"]) (D_weight : Dfn K mg "weight" "weight" s_weight ["word"]) (D__law_cell : Dfn K mg "_law_cell" "_law_cell" s__law_cell ["script", "k"]) (D__law_source : Dfn K mg "_law_source" "_law_source" s__law_source ["cell", "k"]) (D__law_pick : Dfn K mg "_law_pick" "_law_pick" s__law_pick ["source", "many"]) (D__law_same : Dfn K mg "_law_same" "_law_same" s__law_same ["told", "due"]) (D__law_all_same : Dfn K mg "_law_all_same" "_law_all_same" s__law_all_same ["rows"]) (D__law_great : Dfn K mg "_law_great" "_law_great" s__law_great ["source"]) (D__law_power : Dfn K mg "_law_power" "_law_power" s__law_power ["base", "e"]) (D__law_digits : Dfn K mg "_law_digits" "_law_digits" s__law_digits ["base", "n"]) (D__law_sign : Dfn K mg "_law_sign" "_law_sign" s__law_sign ["one", "other"]) (D__law_scaled : Dfn K mg "_law_scaled" "_law_scaled" s__law_scaled ["base", "word", "factor"]) (D__law_carries : Dfn K mg "_law_carries" "_law_carries" s__law_carries ["base", "one", "other"]) (D__law_below : Dfn K mg "_law_below" "_law_below" s__law_below ["size", "n"]) (D__law_below_carries : Dfn K mg "_law_below_carries" "_law_below_carries" s__law_below_carries ["size", "one", "other"]) (D__law_ones : Dfn K mg "_law_ones" "_law_ones" s__law_ones ["base", "n"]) (D__law_kept : Dfn K mg "_law_kept" "_law_kept" s__law_kept ["hands", "copies"]) (D__law_plain_right : Dfn K mg "_law_plain_right" "_law_plain_right" s__law_plain_right ["source"]) (D__law_signed_right : Dfn K mg "_law_signed_right" "_law_signed_right" s__law_signed_right ["source"]) (D__law_ones_right : Dfn K mg "_law_ones_right" "_law_ones_right" s__law_ones_right ["source"]) (D__law_right : Dfn K mg "_law_right" "_law_right" s__law_right ["source"]) :
    ∃ fd : FuncData, (∀ (s : Shared) (v : Value), BindsTo s fd ⟨[v], []⟩ [("script", v)]) ∧ ∀ base : Heap, K.In base → base.Ns mainGlobals mg → FnOk l.prog w K mg base CX0 10 fa fd ["script"] (spScript K) := by
  have e := hfa.symm.trans (PySem.W.mg_of X G a)
  cases e
  exact ⟨_, fun s v => .of_eq rfl, fun base _ _ => (law_of (fun_mk lk c k) T D_power D_checked D_natural D_base_of D_digits D_are_digits_bases D_checked_digits D_value_bases D_added_bases D_less D_scaled D_in_other D_compared_bases D_blocks D_unblocked D_are_digits_bijective D_value_bijective D_following D_ahead D_compared_bijective D_added_bijective D_below_base D_value_signed D_are_below D_below_added D_balanced_base D_are_balanced D_turned D_rounded D_are_apart D_weight D__law_cell D__law_source D__law_pick D__law_same D__law_all_same D__law_great D__law_power D__law_digits D__law_sign D__law_scaled D__law_carries D__law_below D__law_below_carries D__law_ones D__law_kept D__law_plain_right D__law_signed_right D__law_ones_right D__law_right).imp script_ok⟩
theorem walk {l : PySem.W.OpenLaw} {q : Program} {loose : List Str} {XP : (Str → Option Value) → Heap → Prop} {YP : World → Heap → Prop} {d : DefRec} {K : Params → PySem.W.Frag} (hn : l.most = some 63) (hdf : d.params.defaults = [])
    (hY : ∀ (w : World) (h : Heap), YP w h → (K w.params).In h)
    (F : ∀ (w : World) (mg : Str → Option Value) (fa : Addr) (h : Heap), (K w.params).In h → h.Ns mainGlobals mg → mg d.name = some (.ref fa) →
      ∃ fd : FuncData, (∀ (s : Shared) (u : Value), BindsTo s fd ⟨[u], []⟩ [("script", u)]) ∧ ∀ base : Heap, (K w.params).In base → base.Ns mainGlobals mg → FnOk l.prog w (K w.params) mg base CX0 10 fa fd ["script"] (spScript (K w.params))) :
    PySem.W.WalkO q loose XP YP l.row.toRowW d [] (fun f vs => PySem.call f vs) :=
  L2.walk_of (n := 63) (k := 10) (x := "script") (CX := fun _ => CX0) (sp := fun w => spScript (K w.params)) hn (by decide) hdf ⟨rfl, by decide, by decide⟩ hY F (fun _ _ a ns hl _ hS => ⟨a, ns, rfl, hS, hl, fun _ => rfl⟩) fun _ _ _ _ _ z => z
end Fl

end

open PySem PySem.W PyProof.Rows L2
set_option maxRecDepth 100000 in
set_option maxHeartbeats 0 in
theorem PySem.Challenge.cw_notewhole_k00_whole_lists_of_digits_holds : PySem.Challenge.rw_notewhole_k00_whole_lists_of_digits.Holds := by
  w_on; o_law; k_head; (case hw => w_witness2)
  k_fill
  refine Fl.walk (l := PySem.Challenge.rw_notewhole_k00_whole_lists_of_digits) rfl rfl (fun w h Y => PySem.W.kIn_of Y) ?F
  case F =>
    intro w mg fa h KX G hmg
    refine' Fl.all_mk KX G hmg ?a ?l ?c ?k ?T ?D_power ?D_checked ?D_natural ?D_base_of ?D_digits ?D_are_digits_bases ?D_checked_digits ?D_value_bases ?D_added_bases ?D_less ?D_scaled ?D_in_other ?D_compared_bases ?D_blocks ?D_unblocked ?D_are_digits_bijective ?D_value_bijective ?D_following ?D_ahead ?D_compared_bijective ?D_added_bijective ?D_below_base ?D_value_signed ?D_are_below ?D_below_added ?D_balanced_base ?D_are_balanced ?D_turned ?D_rounded ?D_are_apart ?D_weight ?D__law_cell ?D__law_source ?D__law_pick ?D__law_same ?D__law_all_same ?D__law_great ?D__law_power ?D__law_digits ?D__law_sign ?D__law_scaled ?D__law_carries ?D__law_below ?D__law_below_carries ?D__law_ones ?D__law_kept ?D__law_plain_right ?D__law_signed_right ?D__law_ones_right ?D__law_right
    (case a => k_is); (case l => k_is); (case c => k_is); (case k => k_is)
    case T =>
      refine' ⟨PySem.W.mg_none_of KX G ?z_abs, Fl.glob_of (PySem.W.mg_of KX G ?g_LIMIT) ?e_LIMIT, PySem.W.mg_none_of KX G ?z_tuple, PySem.W.mg_none_of KX G ?z_reversed, PySem.W.mg_none_of KX G ?z_any, PySem.W.mg_none_of KX G ?z_len, PySem.W.mg_none_of KX G ?z_max, PySem.W.mg_none_of KX G ?z_zip, PySem.W.mg_none_of KX G ?z_range, PySem.W.mg_none_of KX G ?z_list, PySem.W.mg_none_of KX G ?z_int, PySem.W.mg_none_of KX G ?z_isinstance, PySem.W.mg_none_of KX G ?z_bool, PySem.W.mg_none_of KX G ?z_str, PySem.W.mg_none_of KX G ?z_min⟩
      (case z_abs => k_is)
      (case g_LIMIT => k_is); (case e_LIMIT => decide +kernel)
      (case z_tuple => k_is)
      (case z_reversed => k_is)
      (case z_any => k_is)
      (case z_len => k_is)
      (case z_max => k_is)
      (case z_zip => k_is)
      (case z_range => k_is)
      (case z_list => k_is)
      (case z_int => k_is)
      (case z_isinstance => k_is)
      (case z_bool => k_is)
      (case z_str => k_is)
      (case z_min => k_is)
    (case D_power => refine' Fl.dfn_power KX G ?a ?l ?c ?k; (case a => k_is); (case l => k_is); (case c => k_is); (case k => k_is))
    (case D_checked => refine' Fl.dfn_checked KX G ?a ?l ?c ?k; (case a => k_is); (case l => k_is); (case c => k_is); (case k => k_is))
    (case D_natural => refine' Fl.dfn_natural KX G ?a ?l ?c ?k; (case a => k_is); (case l => k_is); (case c => k_is); (case k => k_is))
    (case D_base_of => refine' Fl.dfn_base_of KX G ?a ?l ?c ?k; (case a => k_is); (case l => k_is); (case c => k_is); (case k => k_is))
    (case D_digits => refine' Fl.dfn_digits KX G ?a ?l ?c ?k; (case a => k_is); (case l => k_is); (case c => k_is); (case k => k_is))
    (case D_are_digits_bases => refine' Fl.dfn_are_digits_bases KX G ?a ?l ?c ?k; (case a => k_is); (case l => k_is); (case c => k_is); (case k => k_is))
    (case D_checked_digits => refine' Fl.dfn_checked_digits KX G ?a ?l ?c ?k; (case a => k_is); (case l => k_is); (case c => k_is); (case k => k_is))
    (case D_value_bases => refine' Fl.dfn_value_bases KX G ?a ?l ?c ?k; (case a => k_is); (case l => k_is); (case c => k_is); (case k => k_is))
    (case D_added_bases => refine' Fl.dfn_added_bases KX G ?a ?l ?c ?k; (case a => k_is); (case l => k_is); (case c => k_is); (case k => k_is))
    (case D_less => refine' Fl.dfn_less KX G ?a ?l ?c ?k; (case a => k_is); (case l => k_is); (case c => k_is); (case k => k_is))
    (case D_scaled => refine' Fl.dfn_scaled KX G ?a ?l ?c ?k; (case a => k_is); (case l => k_is); (case c => k_is); (case k => k_is))
    (case D_in_other => refine' Fl.dfn_in_other KX G ?a ?l ?c ?k; (case a => k_is); (case l => k_is); (case c => k_is); (case k => k_is))
    (case D_compared_bases => refine' Fl.dfn_compared_bases KX G ?a ?l ?c ?k; (case a => k_is); (case l => k_is); (case c => k_is); (case k => k_is))
    (case D_blocks => refine' Fl.dfn_blocks KX G ?a ?l ?c ?k; (case a => k_is); (case l => k_is); (case c => k_is); (case k => k_is))
    (case D_unblocked => refine' Fl.dfn_unblocked KX G ?a ?l ?c ?k; (case a => k_is); (case l => k_is); (case c => k_is); (case k => k_is))
    (case D_are_digits_bijective => refine' Fl.dfn_are_digits_bijective KX G ?a ?l ?c ?k; (case a => k_is); (case l => k_is); (case c => k_is); (case k => k_is))
    (case D_value_bijective => refine' Fl.dfn_value_bijective KX G ?a ?l ?c ?k; (case a => k_is); (case l => k_is); (case c => k_is); (case k => k_is))
    (case D_following => refine' Fl.dfn_following KX G ?a ?l ?c ?k; (case a => k_is); (case l => k_is); (case c => k_is); (case k => k_is))
    (case D_ahead => refine' Fl.dfn_ahead KX G ?a ?l ?c ?k; (case a => k_is); (case l => k_is); (case c => k_is); (case k => k_is))
    (case D_compared_bijective => refine' Fl.dfn_compared_bijective KX G ?a ?l ?c ?k; (case a => k_is); (case l => k_is); (case c => k_is); (case k => k_is))
    (case D_added_bijective => refine' Fl.dfn_added_bijective KX G ?a ?l ?c ?k; (case a => k_is); (case l => k_is); (case c => k_is); (case k => k_is))
    (case D_below_base => refine' Fl.dfn_below_base KX G ?a ?l ?c ?k; (case a => k_is); (case l => k_is); (case c => k_is); (case k => k_is))
    (case D_value_signed => refine' Fl.dfn_value_signed KX G ?a ?l ?c ?k; (case a => k_is); (case l => k_is); (case c => k_is); (case k => k_is))
    (case D_are_below => refine' Fl.dfn_are_below KX G ?a ?l ?c ?k; (case a => k_is); (case l => k_is); (case c => k_is); (case k => k_is))
    (case D_below_added => refine' Fl.dfn_below_added KX G ?a ?l ?c ?k; (case a => k_is); (case l => k_is); (case c => k_is); (case k => k_is))
    (case D_balanced_base => refine' Fl.dfn_balanced_base KX G ?a ?l ?c ?k; (case a => k_is); (case l => k_is); (case c => k_is); (case k => k_is))
    (case D_are_balanced => refine' Fl.dfn_are_balanced KX G ?a ?l ?c ?k; (case a => k_is); (case l => k_is); (case c => k_is); (case k => k_is))
    (case D_turned => refine' Fl.dfn_turned KX G ?a ?l ?c ?k; (case a => k_is); (case l => k_is); (case c => k_is); (case k => k_is))
    (case D_rounded => refine' Fl.dfn_rounded KX G ?a ?l ?c ?k; (case a => k_is); (case l => k_is); (case c => k_is); (case k => k_is))
    (case D_are_apart => refine' Fl.dfn_are_apart KX G ?a ?l ?c ?k; (case a => k_is); (case l => k_is); (case c => k_is); (case k => k_is))
    (case D_weight => refine' Fl.dfn_weight KX G ?a ?l ?c ?k; (case a => k_is); (case l => k_is); (case c => k_is); (case k => k_is))
    (case D__law_cell => refine' Fl.dfn__law_cell KX G ?a ?l ?c ?k; (case a => k_is); (case l => k_is); (case c => k_is); (case k => k_is))
    (case D__law_source => refine' Fl.dfn__law_source KX G ?a ?l ?c ?k; (case a => k_is); (case l => k_is); (case c => k_is); (case k => k_is))
    (case D__law_pick => refine' Fl.dfn__law_pick KX G ?a ?l ?c ?k; (case a => k_is); (case l => k_is); (case c => k_is); (case k => k_is))
    (case D__law_same => refine' Fl.dfn__law_same KX G ?a ?l ?c ?k; (case a => k_is); (case l => k_is); (case c => k_is); (case k => k_is))
    (case D__law_all_same => refine' Fl.dfn__law_all_same KX G ?a ?l ?c ?k; (case a => k_is); (case l => k_is); (case c => k_is); (case k => k_is))
    (case D__law_great => refine' Fl.dfn__law_great KX G ?a ?l ?c ?k; (case a => k_is); (case l => k_is); (case c => k_is); (case k => k_is))
    (case D__law_power => refine' Fl.dfn__law_power KX G ?a ?l ?c ?k; (case a => k_is); (case l => k_is); (case c => k_is); (case k => k_is))
    (case D__law_digits => refine' Fl.dfn__law_digits KX G ?a ?l ?c ?k; (case a => k_is); (case l => k_is); (case c => k_is); (case k => k_is))
    (case D__law_sign => refine' Fl.dfn__law_sign KX G ?a ?l ?c ?k; (case a => k_is); (case l => k_is); (case c => k_is); (case k => k_is))
    (case D__law_scaled => refine' Fl.dfn__law_scaled KX G ?a ?l ?c ?k; (case a => k_is); (case l => k_is); (case c => k_is); (case k => k_is))
    (case D__law_carries => refine' Fl.dfn__law_carries KX G ?a ?l ?c ?k; (case a => k_is); (case l => k_is); (case c => k_is); (case k => k_is))
    (case D__law_below => refine' Fl.dfn__law_below KX G ?a ?l ?c ?k; (case a => k_is); (case l => k_is); (case c => k_is); (case k => k_is))
    (case D__law_below_carries => refine' Fl.dfn__law_below_carries KX G ?a ?l ?c ?k; (case a => k_is); (case l => k_is); (case c => k_is); (case k => k_is))
    (case D__law_ones => refine' Fl.dfn__law_ones KX G ?a ?l ?c ?k; (case a => k_is); (case l => k_is); (case c => k_is); (case k => k_is))
    (case D__law_kept => refine' Fl.dfn__law_kept KX G ?a ?l ?c ?k; (case a => k_is); (case l => k_is); (case c => k_is); (case k => k_is))
    (case D__law_plain_right => refine' Fl.dfn__law_plain_right KX G ?a ?l ?c ?k; (case a => k_is); (case l => k_is); (case c => k_is); (case k => k_is))
    (case D__law_signed_right => refine' Fl.dfn__law_signed_right KX G ?a ?l ?c ?k; (case a => k_is); (case l => k_is); (case c => k_is); (case k => k_is))
    (case D__law_ones_right => refine' Fl.dfn__law_ones_right KX G ?a ?l ?c ?k; (case a => k_is); (case l => k_is); (case c => k_is); (case k => k_is))
    (case D__law_right => refine' Fl.dfn__law_right KX G ?a ?l ?c ?k; (case a => k_is); (case l => k_is); (case c => k_is); (case k => k_is))
