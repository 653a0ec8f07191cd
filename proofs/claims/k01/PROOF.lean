import PyProof.Rows.All
import Wide.All
import OpenK.AllK
import Wide.FinOn
import HandS.ForMost
import HandS.Exc
import HandS.ExcInit
import HandS.TryMany
import HandS.CallSlots
import HandS.Wide
import HandS.WideBits
import HandS.Slots
import HandS.EndBits
import HandS.IsInst
import HandS.Flow
import HandS.Walk
import HandS.Gcd
import HandS.Conv
import HandS.Style
import HandS.Deep
import HandS.SortInts
import HandS.TupAny
import HandS.ForExc
import HandS.MakeKwOnly
import HandS.ExcField
import HandS.ExcIs
import KE.SortData
import PySem.Challenge.RW_copyrates_k01_ways_heads_and_shut_lots
set_option Elab.async false
set_option linter.all false
set_option maxRecDepth 100000
set_option maxHeartbeats 4000000
namespace DL
open PySem L2

/-- a value as plain data: tuples are trees, what may change stands in a store -/
inductive D where
  | non | bl (b : Bool) | int (i : Int) | str (x : Str) | tup (xs : List D) | ref (n : Nat) | scr (xs : List Int)
  deriving Inhabited

mutual
def D.beq : D → D → Bool
  | .non, .non => true
  | .bl a, .bl b => a == b
  | .int a, .int b => a == b
  | .str a, .str b => a == b
  | .tup a, .tup b => D.beqs a b
  | .ref a, .ref b => a == b
  | .scr a, .scr b => a == b
  | _, _ => false
def D.beqs : List D → List D → Bool
  | [], [] => true
  | a :: as, b :: bs => D.beq a b && D.beqs as bs
  | _, _ => false
end
mutual
theorem D.beq_iff : ∀ {a b : D}, D.beq a b = true ↔ a = b
  | .non, b => by cases b <;> simp [D.beq]
  | .bl x, b => by cases b <;> simp [D.beq]
  | .int x, b => by cases b <;> simp [D.beq]
  | .str x, b => by cases b <;> simp [D.beq]
  | .tup xs, b => by
    cases b with
    | tup ys => simp only [D.beq, D.tup.injEq]; exact D.beqs_iff
    | _ => simp [D.beq]
  | .ref x, b => by cases b <;> simp [D.beq]
  | .scr x, b => by cases b <;> simp [D.beq]
theorem D.beqs_iff : ∀ {a b : List D}, D.beqs a b = true ↔ a = b
  | [], b => by cases b <;> simp [D.beqs]
  | x :: xs, b => by
    cases b with
    | nil => simp [D.beqs]
    | cons y ys => simp only [D.beqs, Bool.and_eq_true, List.cons.injEq]; rw [D.beq_iff, D.beqs_iff]
end
instance : DecidableEq D := fun a b => if h : D.beq a b = true then isTrue (D.beq_iff.mp h) else isFalse fun e => h (D.beq_iff.mpr e)

/-- an object that may change -/
inductive SO where
  | lst (xs : List D)
  | dic (kvs : List (Key × D))
  | sl (C : Nat) (vs : List (Option D))
  | ins (C : Nat) (fs : List (Str × D))
abbrev Sto := List SO
/-- an exception: its class by number, its one field -/
structure Exc where
  c : Nat
  f : Str
  v : D
inductive R (α : Type) where
  | ok (a : α) (S : Sto)
  | ex (e : Exc) (S : Sto)
  | bad
abbrev Env := List (Option D)
inductive Rs where
  | nx (τ : Env) (S : Sto)
  | rt (d : D) (S : Sto)
  | bk (τ : Env) (S : Sto)
  | ct (τ : Env) (S : Sto)
  | ex (e : Exc) (τ : Env) (S : Sto)
  | bad
abbrev DenE := Env → Sto → R D
abbrev DenT := Env → Sto → R Bool
abbrev DenA := Env → Sto → R (List D)
abbrev DenS := Env → Sto → Rs

/-! ### what stands for what -/
/-- a list that no one writes -/
def SqF (K : PySem.W.Frag) (H : Hp) (a : Addr) (xs : List V) : Prop := (∃ o, H a = some (.frz o (.lst xs))) ∨
    ∃ (o : Obj) (its : Array Value) (n : Nat), K.lookup a = some o ∧ o.cls = .type "list" ∧ o.dict = none ∧ o.data = .seq its n ∧ its.size ≤ sizeLine ∧ Vals xs its.toList
theorem SqF.seq {K : PySem.W.Frag} {H : Hp} {a : Addr} {xs : List V} (h : SqF K H a xs) : SqL K H a xs := by
  rcases h with h | h
  · exact .inl (.inr h)
  · exact .inr h
theorem SqF.of {K : PySem.W.Frag} {H : Hp} {a : Addr} {xs : List V} (o : Only H) (h : SqL K H a xs) : SqF K H a xs := by
  rcases h with (h | h) | h
  · rcases o a with e | ⟨_, _, e⟩
    · rw [e] at h; cases h
    · rw [e] at h; cases h
  · exact .inl h
  · exact .inr h
mutual
inductive RV (K : PySem.W.Frag) (H : Hp) (ι : List Addr) : D → V → Prop where
  | non : RV K H ι .non .non
  | bl {b : Bool} : RV K H ι (.bl b) (.bl b)
  | int {i : Int} : RV K H ι (.int i) (.int i)
  | str {x : Str} : RV K H ι (.str x) (.str x)
  | tup {xs : List D} {vs : List V} {a : Addr} : H a = some (.tup vs) → RVs K H ι xs vs → RV K H ι (.tup xs) (.ref a)
  | ref {n : Nat} {a : Addr} : ι[n]? = some a → RV K H ι (.ref n) (.ref a)
  | scr {ns : List Int} {a : Addr} : SqF K H a (ns.map V.int) → RV K H ι (.scr ns) (.ref a)
inductive RVs (K : PySem.W.Frag) (H : Hp) (ι : List Addr) : List D → List V → Prop where
  | nil : RVs K H ι [] []
  | cons {x : D} {v : V} {xs : List D} {vs : List V} : RV K H ι x v → RVs K H ι xs vs → RVs K H ι (x :: xs) (v :: vs)
end

structure Le (H : Hp) (ι : List Addr) (H' : Hp) (ι' : List Addr) : Prop where
  pre : ∃ ext, ι' = ι ++ ext
  tup : ∀ a xs, H a = some (.tup xs) → H' a = some (.tup xs)
  frz : ∀ a o u, H a = some (.frz o u) → H' a = some (.frz o u)
  frm : ∀ a o, H a = some o → a ∉ ι → ∃ o', H' a = some o' ∧ a ∉ ι' ∧ ((∀ x, o ≠ .own x) → o' = o)
theorem Le.refl {H : Hp} {ι : List Addr} : Le H ι H ι := ⟨⟨[], by simp⟩, fun _ _ h => h, fun _ _ _ h => h, fun _ o h n => ⟨o, h, n, fun _ => rfl⟩⟩
theorem Le.trans {H H1 H2 : Hp} {ι ι1 ι2 : List Addr} (a : Le H ι H1 ι1) (b : Le H1 ι1 H2 ι2) : Le H ι H2 ι2 := by
  obtain ⟨e1, rfl⟩ := a.pre
  obtain ⟨e2, rfl⟩ := b.pre
  refine ⟨⟨e1 ++ e2, by simp⟩, fun c xs h => b.tup c xs (a.tup c xs h), fun c o xs h => b.frz c o xs (a.frz c o xs h), fun c o h n => ?_⟩
  obtain ⟨o1, h1, n1, w1⟩ := a.frm c o h n
  obtain ⟨o2, h2, n2, w2⟩ := b.frm c o1 h1 n1
  exact ⟨o2, h2, n2, fun w => by rw [w2 (by rw [w1 w]; exact w), w1 w]⟩
theorem Le.get {H H' : Hp} {ι ι' : List Addr} (l : Le H ι H' ι') {n : Nat} {a : Addr} (h : ι[n]? = some a) : ι'[n]? = some a := by
  obtain ⟨e, rfl⟩ := l.pre
  rw [List.getElem?_append_left (List.getElem?_eq_some_iff.mp h).1]; exact h
/-- what data leans on -/
structure Lt (H : Hp) (ι : List Addr) (H' : Hp) (ι' : List Addr) : Prop where
  pre : ∃ ext, ι' = ι ++ ext
  tup : ∀ a xs, H a = some (.tup xs) → H' a = some (.tup xs)
  frz : ∀ a o u, H a = some (.frz o u) → H' a = some (.frz o u)
theorem Le.lt {H H' : Hp} {ι ι' : List Addr} (l : Le H ι H' ι') : Lt H ι H' ι' := ⟨l.pre, l.tup, l.frz⟩
theorem Lt.get {H H' : Hp} {ι ι' : List Addr} (l : Lt H ι H' ι') {n : Nat} {a : Addr} (h : ι[n]? = some a) : ι'[n]? = some a := by
  obtain ⟨e, rfl⟩ := l.pre
  rw [List.getElem?_append_left (List.getElem?_eq_some_iff.mp h).1]; exact h
mutual
theorem RV.keep {K : PySem.W.Frag} {H H' : Hp} {ι ι' : List Addr} (l : Lt H ι H' ι') : ∀ {d : D} {v : V}, RV K H ι d v → RV K H' ι' d v
  | _, _, .non => .non
  | _, _, .bl => .bl
  | _, _, .int => .int
  | _, _, .str => .str
  | _, _, .tup h r => .tup (l.tup _ _ h) (RVs.keep l r)
  | _, _, .ref h => .ref (l.get h)
  | _, _, .scr h => .scr (h.elim (fun ⟨o, e⟩ => .inl ⟨o, l.frz _ _ _ e⟩) .inr)
theorem RVs.keep {K : PySem.W.Frag} {H H' : Hp} {ι ι' : List Addr} (l : Lt H ι H' ι') : ∀ {d : List D} {v : List V}, RVs K H ι d v → RVs K H' ι' d v
  | _, _, .nil => .nil
  | _, _, .cons r s => .cons (RV.keep l r) (RVs.keep l s)
end
mutual
theorem RV.mono {K : PySem.W.Frag} {H H' : Hp} {ι ι' : List Addr} (l : Le H ι H' ι') : ∀ {d : D} {v : V}, RV K H ι d v → RV K H' ι' d v
  | _, _, .non => .non
  | _, _, .bl => .bl
  | _, _, .int => .int
  | _, _, .str => .str
  | _, _, .tup h r => .tup (l.tup _ _ h) (RVs.mono l r)
  | _, _, .ref h => .ref (l.get h)
  | _, _, .scr h => .scr (h.elim (fun ⟨o, e⟩ => .inl ⟨o, l.frz _ _ _ e⟩) .inr)
theorem RVs.mono {K : PySem.W.Frag} {H H' : Hp} {ι ι' : List Addr} (l : Le H ι H' ι') : ∀ {d : List D} {v : List V}, RVs K H ι d v → RVs K H' ι' d v
  | _, _, .nil => .nil
  | _, _, .cons r s => .cons (RV.mono l r) (RVs.mono l s)
end
section
variable {K : PySem.W.Frag} {H : Hp} {ι : List Addr} {xs ys : List D} {vs ws : List V}
theorem RVs.length : ∀ {xs : List D} {vs : List V}, RVs K H ι xs vs → xs.length = vs.length
  | _, _, .nil => rfl
  | _, _, .cons _ s => by simp [RVs.length s]
theorem RVs.get : ∀ {xs : List D} {vs : List V} {i : Nat} {x : D}, RVs K H ι xs vs → xs[i]? = some x → ∃ v, vs[i]? = some v ∧ RV K H ι x v
  | _, _, _, _, .nil, e => by simp at e
  | _, _, 0, _, .cons r _, e => by simp at e; subst e; exact ⟨_, rfl, r⟩
  | _, _, i + 1, x, .cons _ t, e => by
    obtain ⟨u, h1, h2⟩ := RVs.get (i := i) (x := x) t (by simpa using e)
    exact ⟨u, by simpa using h1, h2⟩
theorem RVs.get' : ∀ {xs : List D} {vs : List V} {i : Nat} {v : V}, RVs K H ι xs vs → vs[i]? = some v → ∃ x, xs[i]? = some x ∧ RV K H ι x v
  | _, _, _, _, .nil, e => by simp at e
  | _, _, 0, _, .cons r _, e => by simp at e; subst e; exact ⟨_, rfl, r⟩
  | _, _, i + 1, x, .cons _ t, e => by
    obtain ⟨u, h1, h2⟩ := RVs.get' (i := i) (v := x) t (by simpa using e)
    exact ⟨u, by simpa using h1, h2⟩
theorem RVs.append : ∀ {xs ys : List D} {vs ws : List V}, RVs K H ι xs vs → RVs K H ι ys ws → RVs K H ι (xs ++ ys) (vs ++ ws)
  | _, _, _, _, .nil, s => s
  | _, _, _, _, .cons r t, s => .cons r (RVs.append t s)
theorem RVs.one {x : D} {v : V} (r : RV K H ι x v) : RVs K H ι [x] [v] := .cons r .nil
theorem RVs.set : ∀ {xs : List D} {vs : List V} (i : Nat) {x : D} {v : V}, RVs K H ι xs vs → RV K H ι x v → RVs K H ι (xs.set i x) (vs.set i v)
  | _, _, _, _, _, .nil, _ => .nil
  | _, _, 0, _, _, .cons _ t, r => .cons r t
  | _, _, i + 1, _, _, .cons q t, r => .cons q (RVs.set i t r)
theorem RVs.take : ∀ {xs : List D} {vs : List V} (n : Nat), RVs K H ι xs vs → RVs K H ι (xs.take n) (vs.take n)
  | _, _, 0, _ => .nil
  | _, _, _ + 1, .nil => .nil
  | _, _, n + 1, .cons r t => .cons r (RVs.take n t)
theorem RVs.drop : ∀ {xs : List D} {vs : List V} (n : Nat), RVs K H ι xs vs → RVs K H ι (xs.drop n) (vs.drop n)
  | _, _, 0, r => r
  | _, _, _ + 1, .nil => .nil
  | _, _, n + 1, .cons _ t => RVs.drop n t
theorem RVs.reverse : ∀ {xs : List D} {vs : List V}, RVs K H ι xs vs → RVs K H ι xs.reverse vs.reverse
  | _, _, .nil => .nil
  | _, _, .cons r t => by rw [List.reverse_cons, List.reverse_cons]; exact (RVs.reverse t).append (.one r)
theorem RVs.dropLast (h : RVs K H ι xs vs) : RVs K H ι xs.dropLast vs.dropLast := by
  rw [List.dropLast_eq_take, List.dropLast_eq_take, h.length]; exact h.take _
theorem RVs.eraseIdx : ∀ {xs : List D} {vs : List V} (i : Nat), RVs K H ι xs vs → RVs K H ι (xs.eraseIdx i) (vs.eraseIdx i)
  | _, _, _, .nil => .nil
  | _, _, 0, .cons _ t => t
  | _, _, i + 1, .cons r t => .cons r (RVs.eraseIdx i t)
theorem RVs.rep : ∀ (k : Nat) {xs : List D} {vs : List V}, RVs K H ι xs vs → RVs K H ι (List.replicate k xs).flatten (List.replicate k vs).flatten
  | 0, _, _, _ => .nil
  | k + 1, _, _, h => by rw [List.replicate_succ, List.replicate_succ, List.flatten_cons, List.flatten_cons]; exact h.append (RVs.rep k h)
theorem RV.int_inv {i : Int} {v : V} (r : RV K H ι (.int i) v) : v = .int i := by cases r; rfl
theorem RV.bl_inv {i : Bool} {v : V} (r : RV K H ι (.bl i) v) : v = .bl i := by cases r; rfl
theorem RV.str_inv {i : Str} {v : V} (r : RV K H ι (.str i) v) : v = .str i := by cases r; rfl
theorem RV.non_inv {v : V} (r : RV K H ι .non v) : v = .non := by cases r; rfl
theorem RV.tup_inv {v : V} (r : RV K H ι (.tup xs) v) : ∃ a vs, v = .ref a ∧ H a = some (.tup vs) ∧ RVs K H ι xs vs := by cases r with | tup h s => exact ⟨_, _, rfl, h, s⟩
theorem RV.ref_inv {n : Nat} {v : V} (r : RV K H ι (.ref n) v) : ∃ a, v = .ref a ∧ ι[n]? = some a := by cases r with | ref h => exact ⟨_, rfl, h⟩
end

/-- the environment's slots -/
def RW (K : PySem.W.Frag) (H : Hp) (ι : List Addr) (τ : Env) (σ : St) : Prop := τ.length = σ.length ∧ ∀ (i : Nat) (d : D), τ[i]? = some (some d) → ∃ v, σ[i]? = some (some v) ∧ RV K H ι d v
theorem RW.keep {K : PySem.W.Frag} {H H' : Hp} {ι ι' : List Addr} {τ : Env} {σ : St} (l : Lt H ι H' ι') (r : RW K H ι τ σ) : RW K H' ι' τ σ :=
  ⟨r.1, fun i d h => let ⟨v, e, q⟩ := r.2 i d h; ⟨v, e, q.keep l⟩⟩
theorem RW.mono {K : PySem.W.Frag} {H H' : Hp} {ι ι' : List Addr} {τ : Env} {σ : St} (l : Le H ι H' ι') (r : RW K H ι τ σ) : RW K H' ι' τ σ :=
  ⟨r.1, fun i d h => let ⟨v, e, q⟩ := r.2 i d h; ⟨v, e, q.mono l⟩⟩
theorem RW.set {K : PySem.W.Frag} {H : Hp} {ι : List Addr} {τ : Env} {σ : St} (i : Nat) {d : D} {v : V} (r : RW K H ι τ σ) (q : RV K H ι d v) : RW K H ι (τ.set i (some d)) (σ.set i (some v)) := by
  refine ⟨by simp [r.1], fun j x h => ?_⟩
  by_cases e : i = j
  · subst e
    by_cases hl : i < τ.length
    · rw [List.getElem?_set_self hl] at h
      have e : d = x := Option.some.inj (Option.some.inj h)
      subst e
      exact ⟨v, List.getElem?_set_self (r.1 ▸ hl), q⟩
    · rw [List.getElem?_eq_none (by simp; omega)] at h; cases h
  · rw [List.getElem?_set_ne e] at h ⊢
    exact r.2 j x h

/-- what an except suite knows: the slot of its name, the exception, its dict -/
structure XI where
  i : Nat
  a : Addr
  d : Addr
  e : Exc
/-- the classes by number; within an except suite its exception -/
structure G where
  cls : Nat → Addr
  x : Option XI := none
def G.free (c : G) (j : Nat) : Prop := ∀ x, c.x = some x → x.i ≠ j
def RE (K : PySem.W.Frag) (c : G) (H : Hp) (ι : List Addr) (τ : Env) (σ : St) : Prop := RW K H ι τ σ ∧ ∀ x, c.x = some x → σ[x.i]? = some (some (.ref x.a))
theorem RE.mono {K : PySem.W.Frag} {c : G} {H H' : Hp} {ι ι' : List Addr} {τ : Env} {σ : St} (l : Le H ι H' ι') (r : RE K c H ι τ σ) : RE K c H' ι' τ σ := ⟨r.1.mono l, r.2⟩
theorem RE.set {K : PySem.W.Frag} {c : G} {H : Hp} {ι : List Addr} {τ : Env} {σ : St} (i : Nat) {d : D} {v : V} (r : RE K c H ι τ σ) (q : RV K H ι d v) (hx : c.free i) : RE K c H ι (τ.set i (some d)) (σ.set i (some v)) :=
  ⟨r.1.set i q, fun x h => by rw [List.getElem?_set_ne (Ne.symm (hx x h))]; exact r.2 x h⟩
def isLs : HO → Bool
  | .lst _ => true
  | .dK _ => true
  | _ => false
section
variable (K : PySem.W.Frag) (cls : G)
def RKV (H : Hp) (ι : List Addr) {κ : Type} : List (κ × D) → List (κ × V) → Prop := Paired fun (p : κ × D) (q : κ × V) => p.1 = q.1 ∧ RV K H ι p.2 q.2
def RO (H : Hp) (ι : List Addr) (a : Addr) : SO → Prop
  | .lst xs => ∃ vs, H a = some (.lst vs) ∧ RVs K H ι xs vs
  | .dic kvs => ∃ ks, H a = some (.dK ks) ∧ RKV K H ι kvs ks
  | .sl C vs => ∃ dx ws, SlX.Slt H a (cls.cls C) dx ws ∧ (∃ u, H dx = some u ∧ (u = .own a ∨ u = .xd [])) ∧ dx ∉ ι ∧ dx ≠ a ∧ RW K H ι vs ws
  | .ins C fs => ∃ dx gs, H a = some (.ins (cls.cls C) dx gs) ∧ RKV K H ι fs gs
structure Rep (H : Hp) (ι : List Addr) (S : Sto) : Prop where
  len : ι.length = S.length
  nd : ι.Nodup
  obj : ∀ (n : Nat) o a, S[n]? = some o → ι[n]? = some a → RO K cls H ι a o
  xd : ∀ x, cls.x = some x → x.d ∉ ι ∧ ∃ v, H x.d = some (.xd [(x.e.f, v)]) ∧ RV K H ι x.e.v v
/-- an exception's class and dict -/
def RX (H : Hp) (ι : List Addr) (e : Exc) (c : Value) (od : Option Addr) : Prop := c = .ref (cls.cls e.c) ∧ ∃ d v, od = some d ∧ H d = some (.xd [(e.f, v)]) ∧ RV K H ι e.v v

def PostE {α β : Type} (rel : Hp → List Addr → α → β → Prop) (H : Hp) (ι : List Addr) (σ : St) (W : WX) (Q : β → Hp → Prop) : R α → Prop
  | .ok d S' => ∀ ι' H' v, Le H ι H' ι' → Rep K cls H' ι' S' → rel H' ι' d v → Q v H'
  | .ex e S' => ∀ ι' H' c od, Le H ι H' ι' → Rep K cls H' ι' S' → RX K cls H' ι' e c od → W c od σ H'
  | .bad => False
def rd {α β : Type} (rel : Hp → List Addr → α → β → Prop) (d : Env → Sto → R α) (W : WX) (σ : St) (H : Hp) (Q : β → Hp → Prop) : Prop := ∃ ι S τ, Rep K cls H ι S ∧ RE K cls H ι τ σ ∧ PostE K cls rel H ι σ W Q (d τ S)
abbrev rdE (d : DenE) (W : WX) : TE := rd K cls (RV K) d W
abbrev rdT (d : DenT) (W : WX) : TT := rd K cls (fun _ _ a b => a = b) d W
abbrev rdA (d : DenA) (W : WX) : TA := rd K cls (RVs K) d W
def PostS (H : Hp) (ι : List Addr) (W : WX) (E : Ends) : Rs → Prop
  | .nx τ' S' => ∀ ι' H' σ', Le H ι H' ι' → Rep K cls H' ι' S' → RE K cls H' ι' τ' σ' → E.nx σ' H'
  | .rt d S' => ∀ ι' H' v, Le H ι H' ι' → Rep K cls H' ι' S' → RV K H' ι' d v → E.rt v H'
  | .bk τ' S' => ∀ ι' H' σ', Le H ι H' ι' → Rep K cls H' ι' S' → RE K cls H' ι' τ' σ' → E.bk σ' H'
  | .ct τ' S' => ∀ ι' H' σ', Le H ι H' ι' → Rep K cls H' ι' S' → RE K cls H' ι' τ' σ' → E.ct σ' H'
  | .ex e τ' S' => ∀ ι' H' σ' c od, Le H ι H' ι' → Rep K cls H' ι' S' → RE K cls H' ι' τ' σ' → RX K cls H' ι' e c od → W c od σ' H'
  | .bad => False
def rdS (d : DenS) (W : WX) : TS := fun E σ H => ∃ ι S τ, Rep K cls H ι S ∧ RE K cls H ι τ σ ∧ PostS K cls H ι W E (d τ S)
end

theorem PE.imp {X : Cx} {e : Expr} {t t' : TE} (h : PE X e t) (i : ∀ σ H Q, t' σ H Q → t σ H Q) : PE X e t' := ⟨fun pins s σ H Q I q => h.run pins s σ H Q I (i σ H Q q)⟩
theorem PT.imp {X : Cx} {e : Expr} {t t' : TT} (h : PT X e t) (i : ∀ σ H Q, t' σ H Q → t σ H Q) : PT X e t' := ⟨fun pins s σ H Q I q => h.run pins s σ H Q I (i σ H Q q)⟩
theorem PW.imp {X : Cx} {e : Expr} {t t' : TT} (h : PW X e t) (i : ∀ σ H Q, t' σ H Q → t σ H Q) : PW X e t' := ⟨fun wh pins s σ H Q I q => h.run wh pins s σ H Q I (i σ H Q q)⟩
theorem PA.imp {X : Cx} {e : List Expr} {t t' : TA} (h : PA X e t) (i : ∀ σ H Q, t' σ H Q → t σ H Q) : PA X e t' := ⟨fun p pins s σ H Q I q => h.run p pins s σ H Q I (i σ H Q q)⟩
theorem PS.imp {X : Cx} {e : Stmt} {t t' : TS} (h : PS X e t) (i : ∀ E σ H, t' E σ H → t E σ H) : PS X e t' := ⟨fun pins s σ H E I q => h.run pins s σ H E I (i E σ H q)⟩
theorem PSs.imp {X : Cx} {e : List Stmt} {t t' : TS} (h : PSs X e t) (i : ∀ E σ H, t' E σ H → t E σ H) : PSs X e t' := ⟨fun pins s σ H E I q => h.run pins s σ H E I (i E σ H q)⟩

/-- the wish: exceptions reach W, loops may end; a suite's exception is pinned -/
structure Wk (c : G) (X : Cx) (W : WX) : Prop where
  tk : Takes X W
  po : PassesOwn (model X.prog X.w) X.A X.env X.xe
  px : ∀ x, c.x = some x → ∃ oe : Obj, (x.a, oe) ∈ X.pn ∧ Zc (.ref (c.cls x.e.c)) (some x.d) oe ∧ ∃ vs, oe.data = .fields vs
structure DE (c : G) (X : Cx) (e : Expr) (d : DenE) : Prop where
  run : ∀ pn xe W, Wk c (X.tr pn xe) W → PE (X.tr pn xe) e (rdE X.K c d W)
structure DT (c : G) (X : Cx) (e : Expr) (d : DenT) : Prop where
  run : ∀ pn xe W, Wk c (X.tr pn xe) W → PT (X.tr pn xe) e (rdT X.K c d W)
structure DW (c : G) (X : Cx) (e : Expr) (d : DenT) : Prop where
  run : ∀ pn xe W, Wk c (X.tr pn xe) W → PW (X.tr pn xe) e (rdT X.K c d W)
structure DA (c : G) (X : Cx) (e : List Expr) (d : DenA) : Prop where
  run : ∀ pn xe W, Wk c (X.tr pn xe) W → PA (X.tr pn xe) e (rdA X.K c d W)
structure DS (c : G) (X : Cx) (e : Stmt) (d : DenS) : Prop where
  run : ∀ pn xe W, Wk c (X.tr pn xe) W → PS (X.tr pn xe) e (rdS X.K c d W)
structure DSs (c : G) (X : Cx) (e : List Stmt) (d : DenS) : Prop where
  run : ∀ pn xe W, Wk c (X.tr pn xe) W → PSs (X.tr pn xe) e (rdS X.K c d W)

/-- what is written -/
def wri : HO → Bool
  | .tup _ => false
  | .frz _ _ => false
  | _ => true

/-! ### the store turns with the heap -/
section
variable {K : PySem.W.Frag} {cls : G} {H H' : Hp} {ι ι' : List Addr} {S : Sto} {a p : Addr} {o : SO} {n : Nat}
theorem RKV.keep {κ : Type} (l : Lt H ι H' ι') {ks : List (κ × D)} {vs : List (κ × V)} (r : RKV K H ι ks vs) : RKV K H' ι' ks vs := Paired.mapP r fun _ _ q => ⟨q.1, q.2.keep l⟩
theorem RKV.mono {κ : Type} (l : Le H ι H' ι') {ks : List (κ × D)} {vs : List (κ × V)} (r : RKV K H ι ks vs) : RKV K H' ι' ks vs := Paired.mapP r fun _ _ q => ⟨q.1, q.2.mono l⟩
/-- one object, where the heap has what it leans on -/
theorem RO.keep (r : RO K cls H ι a o) (l0 : Lt H ι H' ι') (k : ∀ u, H a = some u → H' a = some u) (hn : ∀ b u, b ∉ ι → H b = some u → isLs u = false → H' b = some u ∧ b ∉ ι') : RO K cls H' ι' a o := by
  cases o with
  | lst xs => obtain ⟨vs, e, q⟩ := r; exact ⟨vs, k _ e, q.keep l0⟩
  | dic kvs => obtain ⟨ks, e, q⟩ := r; exact ⟨ks, k _ e, q.keep l0⟩
  | ins C fs => obtain ⟨dx, gs, e, q⟩ := r; exact ⟨dx, gs, k _ e, q.keep l0⟩
  | sl C vs =>
    obtain ⟨dx, ws, s, ⟨u, hd, hu⟩, n1, n2, q⟩ := r
    have hl : isLs u = false := by rcases hu with rfl | rfl <;> rfl
    have z := hn dx u n1 hd hl
    rcases s with ⟨e, rfl⟩ | ⟨e, ed⟩
    · exact ⟨dx, [], .inl ⟨k _ e, rfl⟩, ⟨u, z.1, hu⟩, z.2, n2, q.keep l0⟩
    · rw [hd] at ed
      cases ed
      exact ⟨dx, ws, .inr ⟨k _ e, z.1⟩, ⟨_, z.1, hu⟩, z.2, n2, q.keep l0⟩
theorem Rep.there (r : Rep K cls H ι S) (h : a ∈ ι) : ∃ (n : Nat) (o : SO), ι[n]? = some a ∧ S[n]? = some o ∧ RO K cls H ι a o := by
  obtain ⟨n, hn, e⟩ := List.mem_iff_getElem.mp h
  have hs : n < S.length := by rw [← r.len]; exact hn
  have e1 : ι[n]? = some a := by rw [List.getElem?_eq_getElem hn, e]
  exact ⟨n, S[n], e1, List.getElem?_eq_getElem hs, r.obj n _ a (List.getElem?_eq_getElem hs) e1⟩
theorem RO.tr (r : RO K cls H ι a o) : ∃ u, H a = some u ∧ wri u = true := by
  cases o with
  | lst xs => obtain ⟨vs, e, q⟩ := r; exact ⟨_, e, rfl⟩
  | dic kvs => obtain ⟨ks, e, q⟩ := r; exact ⟨_, e, rfl⟩
  | ins C fs => obtain ⟨dx, gs, e, q⟩ := r; exact ⟨_, e, rfl⟩
  | sl C vs =>
    obtain ⟨dx, ws, s, h, n1, n2, q⟩ := r
    rcases s with ⟨e, rfl⟩ | ⟨e, ed⟩
    · exact ⟨_, e, rfl⟩
    · exact ⟨_, e, rfl⟩
theorem Rep.nin (r : Rep K cls H ι S) (h : H a = none) : a ∉ ι := fun hm => by
  obtain ⟨n, o, _, _, q⟩ := r.there hm
  obtain ⟨u, e, _⟩ := q.tr
  rw [h] at e; cases e
theorem Rep.inj (r : Rep K cls H ι S) {m : Nat} (h1 : ι[n]? = some a) (h2 : ι[m]? = some a) : n = m := by
  obtain ⟨l1, e1⟩ := List.getElem?_eq_some_iff.mp h1
  obtain ⟨l2, e2⟩ := List.getElem?_eq_some_iff.mp h2
  exact (List.getElem_inj r.nd).mp (e1.trans e2.symm)
/-- the addresses of the store are not free: a script's may be untracked, so this asks it -/
theorem upd_tr {o : HO} {b : Addr} {u : HO} (hp : H p = none) (h : H b = some u) : upd H p o b = some u := by rw [upd_ne (ne_of_none h hp)]; exact h
theorem Rep.xd_le (r : Rep K cls H ι S) (l : Le H ι H' ι') : ∀ x, cls.x = some x → x.d ∉ ι' ∧ ∃ v, H' x.d = some (.xd [(x.e.f, v)]) ∧ RV K H' ι' x.e.v v := fun x h => by
  obtain ⟨n, v, e, q⟩ := r.xd x h
  obtain ⟨o', e', n', w⟩ := l.frm _ _ e n
  have z := w (fun _ z => nomatch z)
  subst z
  exact ⟨n', v, e', q.mono l⟩
/-- a new object that the store does not know (a tuple) -/
theorem Le.new {o : HO} (hp : H p = none) : Le H ι (upd H p o) ι :=
  ⟨⟨[], by simp⟩, fun _ _ h => upd_tr hp h, fun _ _ _ h => upd_tr hp h, fun _ o h n => ⟨o, upd_tr hp h, n, fun _ => rfl⟩⟩
theorem Rep.new {u : HO} (r : Rep K cls H ι S) (hp : H p = none) : Rep K cls (upd H p u) ι S :=
  ⟨r.len, r.nd, fun n o a h1 h2 => (r.obj n o a h1 h2).keep (Le.new hp).lt (fun _ e => upd_tr hp e) fun _ _ n e _ => ⟨upd_tr hp e, n⟩, r.xd_le (.new hp)⟩
/-- a new object that the store knows -/
theorem Le.push {o : HO} (hp : H p = none) : Le H ι (upd H p o) (ι ++ [p]) :=
  ⟨⟨[p], rfl⟩, fun _ _ h => upd_tr hp h, fun _ _ _ h => upd_tr hp h, fun b o h n => ⟨o, upd_tr hp h, by simp only [List.mem_append, List.mem_singleton, not_or]; exact ⟨n, ne_of_none h hp⟩, fun _ => rfl⟩⟩
theorem Rep.push {u : HO} (r : Rep K cls H ι S) (hp : H p = none) (q : RO K cls (upd H p u) (ι ++ [p]) p o) : Rep K cls (upd H p u) (ι ++ [p]) (S ++ [o]) := by
  refine ⟨by simp [r.len], ?_, fun n o' a h1 h2 => ?_, r.xd_le (.push hp)⟩
  · rw [List.nodup_append]
    refine ⟨r.nd, by simp, fun b hb c hc e => ?_⟩
    simp only [List.mem_singleton] at hc
    subst hc; subst e
    exact r.nin hp hb
  · by_cases hlt : n < S.length
    · rw [List.getElem?_append_left hlt] at h1
      rw [List.getElem?_append_left (r.len ▸ hlt)] at h2
      exact (r.obj n o' a h1 h2).keep (Le.push hp).lt (fun _ e => upd_tr hp e) fun b _ n e _ => ⟨upd_tr hp e, by simp only [List.mem_append, List.mem_singleton, not_or]; exact ⟨n, ne_of_none e hp⟩⟩
    · have e : n = S.length := by
        have := (List.getElem?_eq_some_iff.mp h1).1
        simp at this; omega
      subst e
      rw [List.getElem?_append_right (Nat.le_refl _)] at h1
      rw [List.getElem?_append_right (by rw [r.len]; exact Nat.le_refl _), r.len] at h2
      simp at h1 h2
      subst h1; subst h2
      exact q
/-- an object of the store is written -/
theorem Le.write {u v : HO} (ha : H a = some v) (hnt : wri v = true) (hi : a ∈ ι) : Le H ι (upd H a u) ι :=
  ⟨⟨[], by simp⟩, fun b xs h => by rw [upd_ne (ne_of h ha fun e => by rw [← e] at hnt; cases hnt)]; exact h, fun b o xs h => by rw [upd_ne (ne_of h ha fun e => by rw [← e] at hnt; cases hnt)]; exact h, fun b o h n => ⟨o, by rw [upd_ne (fun e => n (by rw [e]; exact hi))]; exact h, n, fun _ => rfl⟩⟩
theorem Rep.write {u v : HO} (r : Rep K cls H ι S) (hn : ι[n]? = some a) (ha : H a = some v) (hnt : wri v = true) (q : RO K cls (upd H a u) ι a o) : Rep K cls (upd H a u) ι (S.set n o) := by
  have hi : a ∈ ι := List.mem_of_getElem? hn
  refine ⟨by simp [r.len], r.nd, fun m o' b h1 h2 => ?_, r.xd_le (.write ha hnt hi)⟩
  by_cases e : n = m
  · subst e
    rw [hn] at h2
    cases h2
    rw [List.getElem?_set_self (by rw [← r.len]; exact (List.getElem?_eq_some_iff.mp hn).1)] at h1
    cases h1
    exact q
  · rw [List.getElem?_set_ne e] at h1
    have hb : b ≠ a := fun z => e (r.inj hn (z ▸ h2))
    exact (r.obj m o' b h1 h2).keep (Le.write ha hnt hi).lt (fun _ e => by rw [upd_ne hb]; exact e) fun c _ n e _ => ⟨by rw [upd_ne (fun z => n (by rw [z]; exact hi))]; exact e, n⟩
theorem Rep.lst {xs : List D} (r : Rep K cls H ι S) (hs : S[n]? = some (.lst xs)) (hn : ι[n]? = some a) : ∃ vs, H a = some (.lst vs) ∧ RVs K H ι xs vs := r.obj n _ a hs hn
theorem Rep.get {n : Nat} (r : Rep K cls H ι S) (hs : S[n]? = some o) : ∃ a, ι[n]? = some a := by
  have := (List.getElem?_eq_some_iff.mp hs).1
  rw [← r.len] at this
  exact ⟨_, List.getElem?_eq_getElem this⟩
/-- a list that the store does not know is written: a comprehension's -/
theorem Le.away {Hb : Hp} {ιb : List Addr} {u : HO} (l : Le Hb ιb H ι) (hn : Hb p = none) : Le Hb ιb (upd H p u) ι where
  pre := l.pre
  tup := fun a xs h => by rw [upd_ne (ne_of_none h hn)]; exact l.tup a xs h
  frz := fun a o xs h => by rw [upd_ne (ne_of_none h hn)]; exact l.frz a o xs h
  frm := fun a o h n => by
    obtain ⟨o', e, n', w⟩ := l.frm a o h n
    exact ⟨o', by rw [upd_ne (ne_of_none h hn)]; exact e, n', w⟩
theorem lt_ls {v u : HO} (h : H p = some v) (hv : isLs v = true) : Lt H ι (upd H p u) ι where
  pre := ⟨[], by simp⟩
  tup := fun a xs e => by rw [upd_ne (ne_of e h fun z => by rw [← z] at hv; cases hv)]; exact e
  frz := fun a o xs e => by rw [upd_ne (ne_of e h fun z => by rw [← z] at hv; cases hv)]; exact e
theorem lt_lst {xs : List V} {u : HO} (h : H p = some (.lst xs)) : Lt H ι (upd H p u) ι := lt_ls h rfl
theorem Rep.awayG {v u : HO} (r : Rep K cls H ι S) (h : H p = some v) (hv : isLs v = true) (hp : p ∉ ι) : Rep K cls (upd H p u) ι S := by
  refine ⟨r.len, r.nd, fun n o a h1 h2 => (r.obj n o a h1 h2).keep (lt_ls h hv) (fun w e => ?_) fun b w n e hl => ⟨?_, n⟩, fun x hx => ?_⟩
  · have hne : a ≠ p := fun z => hp (by rw [← z]; exact List.mem_of_getElem? h2)
    rw [upd_ne hne]; exact e
  · rw [upd_ne (ne_of e h fun z => by rw [z, hv] at hl; cases hl)]; exact e
  · obtain ⟨n, y, e, q⟩ := r.xd x hx
    exact ⟨n, y, by rw [upd_ne (ne_of e h fun z => by rw [← z] at hv; cases hv)]; exact e, q.keep (lt_ls h hv)⟩
theorem Rep.away {xs : List V} {u : HO} (r : Rep K cls H ι S) (h : H p = some (.lst xs)) (hp : p ∉ ι) : Rep K cls (upd H p u) ι S := r.awayG h rfl hp
/-- .. and taken into the store -/
theorem Rep.adoptG {v : HO} (r : Rep K cls H ι S) (h : H p = some v) (hv : isLs v = true) (hp : p ∉ ι) (q : RO K cls H (ι ++ [p]) p o) : Rep K cls H (ι ++ [p]) (S ++ [o]) := by
  have L : Lt H ι H (ι ++ [p]) := ⟨⟨_, rfl⟩, fun _ _ e => e, fun _ _ _ e => e⟩
  refine ⟨by simp [r.len], ?_, fun n o' a h1 h2 => ?_, fun x hx => ?_⟩
  · rw [List.nodup_append]
    refine ⟨r.nd, by simp, fun b hb c hc e => ?_⟩
    simp only [List.mem_singleton] at hc
    subst hc; subst e
    exact hp hb
  · by_cases hlt : n < S.length
    · rw [List.getElem?_append_left hlt] at h1
      rw [List.getElem?_append_left (r.len ▸ hlt)] at h2
      exact (r.obj n o' a h1 h2).keep L (fun _ e => e) fun b _ n e hl => ⟨e, by simp only [List.mem_append, List.mem_singleton, not_or]; exact ⟨n, ne_of e h fun z => by rw [z, hv] at hl; cases hl⟩⟩
    · have e : n = S.length := by
        have := (List.getElem?_eq_some_iff.mp h1).1
        simp at this; omega
      subst e
      rw [List.getElem?_append_right (Nat.le_refl _)] at h1
      rw [List.getElem?_append_right (by rw [r.len]; exact Nat.le_refl _), r.len] at h2
      simp at h1 h2
      subst h1; subst h2
      exact q
  · obtain ⟨n, y, e, q⟩ := r.xd x hx
    exact ⟨by simp only [List.mem_append, List.mem_singleton, not_or]; exact ⟨n, ne_of e h fun z => by rw [← z] at hv; cases hv⟩, y, e, q.keep L⟩
theorem Rep.adopt {xs : List D} {vs : List V} (r : Rep K cls H ι S) (h : H p = some (.lst vs)) (hp : p ∉ ι) (q : RVs K H ι xs vs) : Rep K cls H (ι ++ [p]) (S ++ [.lst xs]) :=
  r.adoptG h rfl hp ⟨vs, h, q.keep ⟨⟨_, rfl⟩, fun _ _ e => e, fun _ _ _ e => e⟩⟩
theorem Le.adopt {Hb : Hp} {ιb : List Addr} (l : Le Hb ιb H ι) (hn : Hb p = none) : Le Hb ιb H (ι ++ [p]) where
  pre := by obtain ⟨e, rfl⟩ := l.pre; exact ⟨e ++ [p], by simp⟩
  tup := l.tup
  frz := l.frz
  frm := fun a o h n => by
    obtain ⟨o', e, n', w⟩ := l.frm a o h n
    exact ⟨o', e, by simp only [List.mem_append, List.mem_singleton, not_or]; exact ⟨n', ne_of_none h hn⟩, w⟩
end
end DL

set_option Elab.async false
set_option linter.all false
set_option maxRecDepth 100000
set_option maxHeartbeats 4000000
namespace DL
open PySem L2

def R.bind {α β : Type} (r : R α) (f : α → Sto → R β) : R β := match r with
  | .ok x S => f x S
  | .ex e S => .ex e S
  | .bad => .bad
@[simp] theorem R.bind_ok {α β : Type} (x : α) (S : Sto) (f : α → Sto → R β) : R.bind (.ok x S) f = f x S := rfl
@[simp] theorem R.bind_ex {α β : Type} (e : Exc) (S : Sto) (f : α → Sto → R β) : R.bind (.ex e S) f = .ex e S := rfl
@[simp] theorem R.bind_bad {α β : Type} (f : α → Sto → R β) : R.bind .bad f = .bad := rfl

section
variable {K : PySem.W.Frag} {cls : G} {H H' : Hp} {ι ι' : List Addr} {S : Sto} {σ : St} {W : WX}
theorem PostE.le {α β : Type} {rel : Hp → List Addr → α → β → Prop} {Q : β → Hp → Prop} {r : R α} (l : Le H ι H' ι') (h : PostE K cls rel H ι σ W Q r) : PostE K cls rel H' ι' σ W Q r := by
  cases r with
  | ok x S => exact fun ι2 H2 v l2 => h ι2 H2 v (l.trans l2)
  | ex e S => exact fun ι2 H2 v od l2 => h ι2 H2 v od (l.trans l2)
  | bad => exact h
theorem PostS.le {E : Ends} {r : Rs} (l : Le H ι H' ι') (h : PostS K cls H ι W E r) : PostS K cls H' ι' W E r := by
  cases r with
  | nx τ S => exact fun ι2 H2 v l2 => h ι2 H2 v (l.trans l2)
  | rt τ S => exact fun ι2 H2 v l2 => h ι2 H2 v (l.trans l2)
  | bk τ S => exact fun ι2 H2 v l2 => h ι2 H2 v (l.trans l2)
  | ct τ S => exact fun ι2 H2 v l2 => h ι2 H2 v (l.trans l2)
  | ex e τ S => exact fun ι2 H2 v c od l2 => h ι2 H2 v c od (l.trans l2)
  | bad => exact h
/-- an answer in the same heap -/
theorem PostE.here {α β : Type} {rel : Hp → List Addr → α → β → Prop} {Q : β → Hp → Prop} {x : α} {v : β} (h : PostE K cls rel H ι σ W Q (.ok x S)) (r : Rep K cls H ι S) (q : rel H ι x v) : Q v H := h ι H v .refl r q
/-- one part, then the rest -/
theorem rd_go {α α' β β' : Type} {rel : Hp → List Addr → α → α' → Prop} {rel' : Hp → List Addr → β → β' → Prop} {d : Env → Sto → R α} {τ : Env} {f : α → Sto → R β} {Q : β' → Hp → Prop} {Q' : α' → Hp → Prop}
    (r : Rep K cls H ι S) (re : RE K cls H ι τ σ) (p : PostE K cls rel' H ι σ W Q ((d τ S).bind f))
    (k : ∀ ι1 H1 S1 x v, Le H ι H1 ι1 → Rep K cls H1 ι1 S1 → RE K cls H1 ι1 τ σ → rel H1 ι1 x v → PostE K cls rel' H1 ι1 σ W Q (f x S1) → Q' v H1) : rd K cls rel d W σ H Q' := by
  refine ⟨ι, S, τ, r, re, ?_⟩
  cases q : d τ S with
  | ok x S1 =>
    rw [q] at p
    exact fun ι1 H1 v l r1 rv => k ι1 H1 S1 x v l r1 (re.mono l) rv (PostE.le l p)
  | ex x S1 => rw [q] at p; exact p
  | bad => rw [q] at p; exact p
end

/-- operations by values -/
def Op1 (K : PySem.W.Frag) (c : G) (r : V → Hp → VK → Prop) (f : D → Sto → R D) : Prop := ∀ (H : Hp) (ι : List Addr) (S : Sto) (x : D) (v : V) (σ : St) (W : WX) (Q : VK), Rep K c H ι S → RV K H ι x v → PostE K c (RV K) H ι σ W Q (f x S) → r v H Q
def Op2 (K : PySem.W.Frag) (c : G) (r : R2) (f : D → D → Sto → R D) : Prop := ∀ (H : Hp) (ι : List Addr) (S : Sto) (x y : D) (v u : V) (σ : St) (W : WX) (Q : VK), Rep K c H ι S → RV K H ι x v → RV K H ι y u → PostE K c (RV K) H ι σ W Q (f x y S) → r v u H Q
def OpN (K : PySem.W.Frag) (c : G) (r : List V → Hp → VK → Prop) (f : List D → Sto → R D) : Prop := ∀ (H : Hp) (ι : List Addr) (S : Sto) (x : List D) (v : List V) (σ : St) (W : WX) (Q : VK), Rep K c H ι S → RVs K H ι x v → PostE K c (RV K) H ι σ W Q (f x S) → r v H Q

section
variable {c : G} {X : Cx} {e a b : Expr} {es : List Expr} {da db : DenE} {pos : Pos}

/-! ### names, constants -/
def dVar (i : Nat) : DenE := fun τ S => match τ[i]? with
  | some (some d) => .ok d S
  | _ => .bad
def dC (d : D) : DenE := fun _ S => .ok d S
theorem de_var (i : Nat) {x : Str} (hN : X.N[i]? = some x := by rfl) (hv : Vis X.env.scope x := by first | exact Or.inl rfl | exact Or.inr (Or.inl rfl) | exact Or.inr (Or.inr rfl)) (hd : (x == ("__debug__" : Str)) = false := by decide)
    (hcd : (x == ("__classdict__" : Str)) = false := by decide) : DE c X (.Name x pos) (dVar i) := by
  refine ⟨fun pn xe W _ => PE.imp (pe_var (X := X.tr pn xe) hN hv hd hcd) fun σ H Q h => ?_⟩
  obtain ⟨ι, S, τ, r, re, p⟩ := h
  unfold dVar at p
  split at p
  · rename_i d hd
    obtain ⟨v, hv, rv⟩ := re.1.2 i d hd
    exact ⟨v, hv, p.here r rv⟩
  · exact p.elim
theorem de_c {d : D} {v : V} (hv : ∀ K H ι, RV K H ι d v) (h : ∀ pn xe, PE (X.tr pn xe) e (tC v)) : DE c X e (dC d) := by
  refine ⟨fun pn xe W _ => PE.imp (h pn xe) fun σ H Q h => ?_⟩
  obtain ⟨ι, S, τ, r, re, p⟩ := h
  exact p.here r (hv _ _ _)
theorem de_int {i : Int} {j} : DE c X (.Constant (.int i) j pos) (dC (.int i)) := de_c (fun _ _ _ => .int) fun _ _ => pe_int
theorem de_bl {i : Bool} {j} : DE c X (.Constant (.bool i) j pos) (dC (.bl i)) := de_c (fun _ _ _ => .bl) fun _ _ => pe_bl
theorem de_non {j} : DE c X (.Constant .none j pos) (dC .non) := de_c (fun _ _ _ => .non) fun _ _ => pe_non
theorem de_str {i : Str} {j} : DE c X (.Constant (.str i) j pos) (dC (.str i)) := de_c (fun _ _ _ => .str) fun _ _ => pe_str

/-! ### operators -/
def dOp (f : D → D → Sto → R D) (da db : DenE) : DenE := fun τ S => (da τ S).bind fun x S1 => (db τ S1).bind fun y S2 => f x y S2
def dUn (f : D → Sto → R D) (da : DenE) : DenE := fun τ S => (da τ S).bind f
theorem rd_two {r : R2} {f : D → D → Sto → R D} {K : PySem.W.Frag} {σ : St} {H : Hp} {Q : VK} {W : WX} (hf : Op2 K c r f) (h : rdE K c (dOp f da db) W σ H Q) : tOp r (rdE K c da W) (rdE K c db W) σ H Q := by
  obtain ⟨ι, S, τ2, rp, re, p⟩ := h
  refine rd_go rp re p fun ι2 H1 S2 x2 v l1 r2 re2 rv2 p2 => ?_
  exact rd_go r2 re2 p2 fun ι3 H3 S3 y u l3 r3 re3 ru p3 => hf H3 ι3 S3 x2 y v u σ W Q r3 (rv2.mono l3) ru p3
theorem rd_one {r : V → Hp → VK → Prop} {f : D → Sto → R D} {K : PySem.W.Frag} {σ : St} {H : Hp} {Q : VK} {W : WX} (hf : Op1 K c r f) (h : rdE K c (dUn f da) W σ H Q) : tUn r (rdE K c da W) σ H Q := by
  obtain ⟨ι, S, τ2, rp, re, p⟩ := h
  refine rd_go rp re p fun ι2 H1 S2 x2 v l1 r2 re2 rv2 p2 => ?_
  exact hf H1 ι2 S2 x2 v σ W Q r2 rv2 p2
theorem de_op {op : Operator} {r : R2} {f : D → D → Sto → R D} (ho : ∀ pn xe, OpR (X.tr pn xe) (binaryOp op) r) (hf : Op2 X.K c r f) (ha : DE c X a da) (hb : DE c X b db) : DE c X (.BinOp a op b pos) (dOp f da db) :=
  ⟨fun pn xe W w => PE.imp (pe_op (ho pn xe) (ha.run pn xe W w) (hb.run pn xe W w)) fun _ _ _ h => rd_two hf h⟩
theorem de_cmp {op : CmpOp} {r : R2} {f : D → D → Sto → R D} (ho : ∀ pn xe, OpR (X.tr pn xe) (compareOp op) r) (hf : Op2 X.K c r f) (ha : DE c X a da) (hb : DE c X b db) (hm : behindInMarks op b = false) : DE c X (.Compare a [op] [b] pos) (dOp f da db) :=
  ⟨fun pn xe W w => PE.imp (pe_cmpR (ho pn xe) (ha.run pn xe W w) (hb.run pn xe W w) hm) fun _ _ _ h => rd_two hf h⟩
theorem de_un {op : UnaryOp} {r : V → Hp → VK → Prop} {f : D → Sto → R D} (ho : ∀ pn xe, UnR (X.tr pn xe) (unaryOp op) r) (hf : Op1 X.K c r f) (ha : DE c X a da) : DE c X (.UnaryOp op a pos) (dUn f da) :=
  ⟨fun pn xe W w => PE.imp (pe_un (ho pn xe) (ha.run pn xe W w)) fun _ _ _ h => rd_one hf h⟩
theorem de_ix {r : R2} {f : D → D → Sto → R D} (ho : ∀ pn xe, IxR (X.tr pn xe) r) (hf : Op2 X.K c r f) (ha : DE c X a da) (hb : DE c X b db) (hs : PlainIx b := by exact fun _ _ => rfl) : DE c X (.Subscript a b pos) (dOp f da db) :=
  ⟨fun pn xe W w => PE.imp (pe_ix (ho pn xe) (ha.run pn xe W w) (hb.run pn xe W w) hs) fun _ _ _ h => rd_two hf h⟩

/-! ### tests -/
/-- a value that must be a bool -/
def asB (x : D) (S : Sto) : R Bool := match x with
  | .bl b => .ok b S
  | _ => .bad
def dB (d : DenE) : DenT := fun τ S => (d τ S).bind asB
theorem rd_bool {K : PySem.W.Frag} {σ : St} {H : Hp} {Q : Bool → Hp → Prop} {W : WX} {d : DenE} (h : rdT K c (dB d) W σ H Q) : rdE K c d W σ H fun x H1 => ∃ k, x = .bl k ∧ Q k H1 := by
  obtain ⟨ι, S, τ2, rp, re, p⟩ := h
  refine rd_go rp re p fun ι2 H1 S2 x2 v l1 r2 re2 rv2 p2 => ?_
  cases x2 with
  | bl b => exact ⟨b, rv2.bl_inv, p2.here r2 rfl⟩
  | _ => exact p2.elim
theorem dt_cmp {op : CmpOp} {r : R2} {f : D → D → Sto → R D} (ho : ∀ pn xe, OpR (X.tr pn xe) (compareOp op) r) (hf : Op2 X.K c r f) (ha : DE c X a da) (hb : DE c X b db) (hm : behindInMarks op b = false) : DT c X (.Compare a [op] [b] pos) (dB (dOp f da db)) :=
  ⟨fun pn xe W w => PT.imp (pt_cmpR (ho pn xe) (ha.run pn xe W w) (hb.run pn xe W w) hm) fun σ H Q h => by
    have h2 := rd_bool h
    exact rd_two (Q := fun x H1 => ∃ k, x = .bl k ∧ Q k H1) hf h2⟩
/-- a value's truth -/
def truD (x : D) (S : Sto) : R Bool := match x with
  | .non => .ok false S
  | .bl b => .ok b S
  | .int i => .ok (i != 0) S
  | .str y => if y.length ≤ sizeLine then .ok ((y.length : Int) != 0) S else .bad
  | .tup xs => .ok (!xs.isEmpty) S
  | .ref n => match S[n]? with
    | some (.lst xs) => .ok (!xs.isEmpty) S
    | some (.dic kvs) => .ok (!kvs.isEmpty) S
    | _ => .bad
  | .scr xs => .ok (!xs.isEmpty) S
def dTru (d : DenE) : DenT := fun τ S => (d τ S).bind truD
theorem RVs.emp {K : PySem.W.Frag} {H : Hp} {ι : List Addr} {xs : List D} {vs : List V} (r : RVs K H ι xs vs) : xs.isEmpty = vs.isEmpty := by cases r <;> rfl
theorem RKV.emp {K : PySem.W.Frag} {H : Hp} {ι : List Addr} {κ : Type} {xs : List (κ × D)} {vs : List (κ × V)} (r : RKV K H ι xs vs) : xs.isEmpty = vs.isEmpty := by cases r <;> rfl
theorem truD_ok {K : PySem.W.Frag} {H : Hp} {ι : List Addr} {S : Sto} {x : D} {v : V} {σ : St} {W : WX} {Q : Bool → Hp → Prop} (r : Rep K c H ι S) (rv : RV K H ι x v) (p : PostE K c (fun _ _ a b => a = b) H ι σ W Q (truD x S)) : ∃ k, TruV K v H k ∧ Q k H := by
  cases x with
  | non => cases rv; exact ⟨false, rfl, p.here r rfl⟩
  | bl b => cases rv; exact ⟨b, rfl, p.here r rfl⟩
  | int i => cases rv; exact ⟨_, rfl, p.here r rfl⟩
  | str y =>
    cases rv
    simp only [truD] at p
    split at p
    · rename_i h; exact ⟨_, ⟨h, rfl⟩, p.here r rfl⟩
    · exact p.elim
  | tup xs =>
    obtain ⟨a, vs, rfl, h, q⟩ := rv.tup_inv
    exact ⟨_, .inr (.inl ⟨vs, SqT.of h, rfl⟩), by rw [← q.emp]; exact p.here r rfl⟩
  | scr ns =>
    cases rv with
    | scr h =>
      refine ⟨_, .inl ⟨_, h.seq, rfl⟩, ?_⟩
      have e : (ns.map V.int).isEmpty = ns.isEmpty := by cases ns <;> rfl
      rw [e]; exact p.here r rfl
  | ref n =>
    obtain ⟨a, rfl, h⟩ := rv.ref_inv
    simp only [truD] at p
    split at p
    · rename_i xs hs
      obtain ⟨vs, e, q⟩ := r.obj n _ a hs h
      exact ⟨_, .inl ⟨vs, SqL.of e, rfl⟩, by rw [← q.emp]; exact p.here r rfl⟩
    · rename_i kvs hs
      obtain ⟨vs, e, q⟩ := r.obj n _ a hs h
      exact ⟨_, .inr (.inr ⟨vs, e, rfl⟩), by rw [← RKV.emp q]; exact p.here r rfl⟩
    · exact p.elim
theorem rd_tru {K : PySem.W.Frag} {σ : St} {H : Hp} {Q : Bool → Hp → Prop} {W : WX} {d : DenE} (h : rdT K c (dTru d) W σ H Q) : rdE K c d W σ H fun x H1 => ∃ k, TruV K x H1 k ∧ Q k H1 := by
  obtain ⟨ι, S, τ2, rp, re, p⟩ := h
  refine rd_go rp re p fun ι2 H1 S2 x2 v l1 r2 re2 rv2 p2 => ?_
  exact truD_ok r2 rv2 p2
theorem dt_truth (ha : DE c X a da) (he : ∀ whole, isTrue a X.env whole = (do let v ← whole; standAt a.pos; holding [v] (truthy v)) := by exact fun _ => rfl) : DT c X a (dTru da) :=
  ⟨fun pn xe W w => PT.imp (pt_truth (ha.run pn xe W w) he) fun σ H Q h => rd_tru h⟩
def dNotT (d : DenT) : DenT := fun τ S => (d τ S).bind fun b S1 => .ok (!b) S1
theorem dt_not {d : DenT} (ha : DT c X a d) : DT c X (.UnaryOp .Not a pos) (dNotT d) := by
  refine ⟨fun pn xe W w => PT.imp (pt_not (ha.run pn xe W w)) fun σ H Q h => ?_⟩
  obtain ⟨ι, S, τ2, rp, re, p⟩ := h
  refine rd_go rp re p fun ι2 H1 S2 x2 v l1 r2 re2 rv2 p2 => ?_
  subst rv2
  exact p2.here r2 rfl
def dAnd (d d' : DenT) : DenT := fun τ S => (d τ S).bind fun b S1 => if b = true then d' τ S1 else .ok false S1
def dOr (d d' : DenT) : DenT := fun τ S => (d τ S).bind fun b S1 => if b = true then .ok true S1 else d' τ S1
theorem rd_and {K : PySem.W.Frag} {σ : St} {H : Hp} {Q : Bool → Hp → Prop} {W : WX} {d d' : DenT} (h : rdT K c (dAnd d d') W σ H Q) : tAnd (rdT K c d W) (rdT K c d' W) σ H Q := by
  obtain ⟨ι, S, τ2, rp, re, p⟩ := h
  refine rd_go rp re p fun ι2 H1 S2 x2 v l1 r2 re2 rv2 p2 => ?_
  subst rv2
  cases x2 with
  | true => exact ⟨ι2, S2, τ2, r2, re2, p2⟩
  | false => exact p2.here r2 rfl
theorem rd_or {K : PySem.W.Frag} {σ : St} {H : Hp} {Q : Bool → Hp → Prop} {W : WX} {d d' : DenT} (h : rdT K c (dOr d d') W σ H Q) : tOr (rdT K c d W) (rdT K c d' W) σ H Q := by
  obtain ⟨ι, S, τ2, rp, re, p⟩ := h
  refine rd_go rp re p fun ι2 H1 S2 x2 v l1 r2 re2 rv2 p2 => ?_
  subst rv2
  cases x2 with
  | false => exact ⟨ι2, S2, τ2, r2, re2, p2⟩
  | true => exact p2.here r2 rfl
theorem dw_and1 {d : DenT} (ha : DT c X a d) : DW c X (.BoolOp .And [a] pos) d := ⟨fun pn xe W w => pw_and1 (ha.run pn xe W w)⟩
theorem dw_or1 {d : DenT} (ha : DT c X a d) : DW c X (.BoolOp .Or [a] pos) d := ⟨fun pn xe W w => pw_or1 (ha.run pn xe W w)⟩
theorem dw_and {d d' : DenT} (ha : DT c X a d) (hb : DW c X (.BoolOp .And (b :: es) pos) d') : DW c X (.BoolOp .And (a :: b :: es) pos) (dAnd d d') := ⟨fun pn xe W w => PW.imp (pw_and (ha.run pn xe W w) (hb.run pn xe W w)) fun _ _ _ h => rd_and h⟩
theorem dw_or {d d' : DenT} (ha : DT c X a d) (hb : DW c X (.BoolOp .Or (b :: es) pos) d') : DW c X (.BoolOp .Or (a :: b :: es) pos) (dOr d d') := ⟨fun pn xe W w => PW.imp (pw_or (ha.run pn xe W w) (hb.run pn xe W w)) fun _ _ _ h => rd_or h⟩
theorem DW.dt {d : DenT} (h : DW c X a d) : DT c X a d := ⟨fun pn xe W w => (h.run pn xe W w).pt⟩
/-- as values: each part a bool -/
def dAndV (d d' : DenE) : DenE := fun τ S => (d τ S).bind fun x S1 => (asB x S1).bind fun b S2 => if b = true then d' τ S2 else .ok (.bl false) S2
def dOrV (d d' : DenE) : DenE := fun τ S => (d τ S).bind fun x S1 => (asB x S1).bind fun b S2 => if b = true then .ok (.bl true) S2 else d' τ S2
theorem rd_andV {K : PySem.W.Frag} {σ : St} {H : Hp} {Q : VK} {W : WX} {d d' : DenE} (h : rdE K c (dAndV d d') W σ H Q) : tAndV (rdE K c d W) (rdE K c d' W) σ H Q := by
  obtain ⟨ι, S, τ2, rp, re, p⟩ := h
  refine rd_go rp re p fun ι2 H1 S2 x2 v l1 r2 re2 rv2 p2 => ?_
  cases x2 with
  | bl b =>
    refine ⟨b, rv2.bl_inv, ?_⟩
    cases b with
    | true => exact ⟨ι2, S2, τ2, r2, re2, p2⟩
    | false => exact p2.here r2 .bl
  | _ => exact p2.elim
theorem rd_orV {K : PySem.W.Frag} {σ : St} {H : Hp} {Q : VK} {W : WX} {d d' : DenE} (h : rdE K c (dOrV d d') W σ H Q) : tOrV (rdE K c d W) (rdE K c d' W) σ H Q := by
  obtain ⟨ι, S, τ2, rp, re, p⟩ := h
  refine rd_go rp re p fun ι2 H1 S2 x2 v l1 r2 re2 rv2 p2 => ?_
  cases x2 with
  | bl b =>
    refine ⟨b, rv2.bl_inv, ?_⟩
    cases b with
    | false => exact ⟨ι2, S2, τ2, r2, re2, p2⟩
    | true => exact p2.here r2 .bl
  | _ => exact p2.elim
theorem de_one {op} (ha : DE c X a da) : DE c X (.BoolOp op [a] pos) da := ⟨fun pn xe W w => pe_one (ha.run pn xe W w)⟩
theorem de_and (ha : DE c X a da) (hb : DE c X (.BoolOp .And (b :: es) pos) db) : DE c X (.BoolOp .And (a :: b :: es) pos) (dAndV da db) := ⟨fun pn xe W w => PE.imp (pe_and (ha.run pn xe W w) (hb.run pn xe W w)) fun _ _ _ h => rd_andV h⟩
theorem de_or (ha : DE c X a da) (hb : DE c X (.BoolOp .Or (b :: es) pos) db) : DE c X (.BoolOp .Or (a :: b :: es) pos) (dOrV da db) := ⟨fun pn xe W w => PE.imp (pe_or (ha.run pn xe W w) (hb.run pn xe W w)) fun _ _ _ h => rd_orV h⟩
/-- not x as a value -/
def dNotV (d : DenE) : DenE := fun τ S => (d τ S).bind fun x S1 => (truD x S1).bind fun b S2 => .ok (.bl (!b)) S2
theorem truD_same {x : D} {S : Sto} : (∃ b, truD x S = .ok b S) ∨ truD x S = .bad := by
  cases x with
  | str y => unfold truD; dsimp only; split <;> first | exact .inr rfl | exact .inl ⟨_, rfl⟩
  | ref n => unfold truD; dsimp only; split <;> first | exact .inr rfl | exact .inl ⟨_, rfl⟩
  | _ => exact .inl ⟨_, rfl⟩
theorem de_not (ha : DE c X a da) : DE c X (.UnaryOp .Not a pos) (dNotV da) := by
  refine ⟨fun pn xe W w => PE.imp (pe_notT (ha.run pn xe W w)) fun σ H Q h => ?_⟩
  obtain ⟨ι, S, τ2, rp, re, p⟩ := h
  refine rd_go rp re p fun ι2 H1 S2 x2 v l1 r2 re2 rv2 p2 => ?_
  refine truD_ok (Q := fun k H => Q (.bl (!k)) H) (σ := σ) (W := W) r2 rv2 ?_
  rcases truD_same (x := x2) (S := S2) with ⟨b, e⟩ | e
  · rw [e] at p2 ⊢
    intro ι3 H3 k l3 r3 ek
    subst ek
    exact p2 ι3 H3 _ l3 r3 .bl
  · rw [e] at p2; exact p2.elim
def dIf (t : DenT) (da db : DenE) : DenE := fun τ S => (t τ S).bind fun b S1 => if b = true then da τ S1 else db τ S1
theorem de_if {t : DenT} {e0 : Expr} (ht : DT c X e0 t) (ha : DE c X a da) (hb : DE c X b db) : DE c X (.IfExp e0 a b pos) (dIf t da db) := by
  refine ⟨fun pn xe W w => PE.imp (pe_ifExp (ht.run pn xe W w) (ha.run pn xe W w) (hb.run pn xe W w)) fun σ H Q h => ?_⟩
  obtain ⟨ι, S, τ2, rp, re, p⟩ := h
  refine rd_go rp re p fun ι2 H1 S2 x2 v l1 r2 re2 rv2 p2 => ?_
  subst rv2
  cases x2 with
  | true => exact ⟨ι2, S2, τ2, r2, re2, p2⟩
  | false => exact ⟨ι2, S2, τ2, r2, re2, p2⟩
/-- a < b < c -/
def dChain (f g : D → D → Sto → R D) (da db dc : DenE) : DenE := fun τ S => (da τ S).bind fun x S1 => (db τ S1).bind fun y S2 => (f x y S2).bind fun k S3 => (asB k S3).bind fun b S4 => if b = true then (dc τ S4).bind fun z S5 => g y z S5 else .ok (.bl false) S4

/-! ### lists of expressions -/
def dNil : DenA := fun _ S => .ok [] S
def dCons (da : DenE) (dr : DenA) : DenA := fun τ S => (da τ S).bind fun x S1 => (dr τ S1).bind fun xs S2 => .ok (x :: xs) S2
theorem da_nil : DA c X [] dNil := ⟨fun pn xe W w => PA.imp pa_nil fun σ H Q h => let ⟨ι, S, τ, rp, re, p⟩ := h; p.here rp .nil⟩
theorem da_cons {dr : DenA} (ha : DE c X e da) (hr : DA c X es dr) (hs : starEach (e :: es) X.env = (false, eval e X.env) :: starEach es X.env := by rfl) : DA c X (e :: es) (dCons da dr) := by
  refine ⟨fun pn xe W w => PA.imp (pa_cons (ha.run pn xe W w) (hr.run pn xe W w) hs) fun σ H Q h => ?_⟩
  obtain ⟨ι, S, τ2, rp, re, p⟩ := h
  refine rd_go rp re p fun ι2 H1 S2 x2 v l1 r2 re2 rv2 p2 => ?_
  exact rd_go r2 re2 p2 fun ι3 H3 S3 y u l3 r3 re3 ru p3 => p3.here r3 (.cons (rv2.mono l3) ru)
theorem rd_args {r : List V → Hp → VK → Prop} {f : List D → Sto → R D} {dd : DenA} {K : PySem.W.Frag} {σ : St} {H : Hp} {Q : VK} {W : WX} (hf : OpN K c r f) (h : rdE K c (fun τ S => (dd τ S).bind f) W σ H Q) : rdA K c dd W σ H fun vs H1 => r vs H1 Q := by
  obtain ⟨ι, S, τ2, rp, re, p⟩ := h
  refine rd_go rp re p fun ι2 H1 S2 x2 v l1 r2 re2 rv2 p2 => ?_
  exact hf H1 ι2 S2 x2 v σ W Q r2 rv2 p2
def dArgs (f : List D → Sto → R D) (da : DenA) : DenE := fun τ S => (da τ S).bind f
def mkTup (xs : List D) (S : Sto) : R D := if xs.length ≤ 1000 then .ok (.tup xs) S else .bad
def mkLst (xs : List D) (S : Sto) : R D := if xs.length ≤ 1000 then .ok (.ref S.length) (S ++ [.lst xs]) else .bad
theorem le1000 {n : Nat} (h : n ≤ 1000) : n ≤ sizeLine := by rw [sizeLine_eq]; omega
theorem post_tup {K : PySem.W.Frag} {H : Hp} {ι : List Addr} {S : Sto} {xs : List D} {vs : List V} {σ : St} {W : WX} {Q : VK} {p : Addr} (r : Rep K c H ι S) (rv : RVs K H ι xs vs) (h : PostE K c (RV K) H ι σ W Q (.ok (.tup xs) S)) (hp : H p = none) : Q (.ref p) (upd H p (.tup vs)) :=
  h ι _ _ (.new hp) (r.new hp) (.tup upd_same (rv.mono (.new hp)))
theorem post_lst {K : PySem.W.Frag} {H : Hp} {ι : List Addr} {S : Sto} {xs : List D} {vs : List V} {σ : St} {W : WX} {Q : VK} {p : Addr} (r : Rep K c H ι S) (rv : RVs K H ι xs vs) (h : PostE K c (RV K) H ι σ W Q (.ok (.ref S.length) (S ++ [.lst xs]))) (hp : H p = none) : Q (.ref p) (upd H p (.lst vs)) :=
  h (ι ++ [p]) _ _ (.push hp) (r.push hp ⟨vs, upd_same, rv.mono (.push hp)⟩) (.ref (by rw [List.getElem?_append_right (by rw [r.len]; exact Nat.le_refl _), r.len]; simp))
theorem de_tup {dd : DenA} {x1} (h : DA c X es dd) : DE c X (.Tuple es x1 pos) (dArgs mkTup dd) := by
  refine ⟨fun pn xe W w => PE.imp (pe_tup (h.run pn xe W w)) fun σ H Q h => ?_⟩
  refine rd_args (r := fun xs H1 Q => xs.length ≤ sizeLine ∧ ∀ p, H1 p = none → Q (.ref p) (upd H1 p (.tup xs))) (fun H ι S xs vs σ W Q r rv p => ?_) h
  unfold mkTup at p
  split at p
  · rename_i hl
    exact ⟨by rw [← rv.length]; exact le1000 hl, fun a ha => post_tup r rv p ha⟩
  · exact p.elim
theorem de_lst {dd : DenA} (h : DA c X es dd) : DE c X (.List es pos) (dArgs mkLst dd) := by
  refine ⟨fun pn xe W w => PE.imp (pe_lst (h.run pn xe W w)) fun σ H Q h => ?_⟩
  refine rd_args (r := fun xs H1 Q => xs.length ≤ sizeLine ∧ ∀ p, H1 p = none → Q (.ref p) (upd H1 p (.lst xs))) (fun H ι S xs vs σ W Q r rv p => ?_) h
  unfold mkLst at p
  split at p
  · rename_i hl
    exact ⟨by rw [← rv.length]; exact le1000 hl, fun a ha => post_lst r rv p ha⟩
  · exact p.elim
/-! ### built-in functions and types -/
theorem de_callB {x : Str} {id : String} {r : List V → Hp → VK → Prop} {f : List D → Sto → R D} {dd : DenA} {p : Pos} (hc : ∀ pn xe, CallR (X.tr pn xe) (.builtin id) r) (hf : OpN X.K c r f) (hm : X.mg x = none) (hv : bootBuiltins x = some (.builtin id)) (ha : DA c X (e :: es) dd) (hg : Gl X x := by rfl)
    (hn : x ≠ "__name__" := by decide) (hdb : (x == ("__debug__" : Str)) = false := by decide) (he : starEach (e :: es) X.env = (false, eval e X.env) :: starEach es X.env := by rfl) (hpl : (backTo pos (starEach es X.env)).any (·.1) = false := by rfl) :
    DE c X (.Call (.Name x p) (e :: es) [] pos) (dArgs f dd) :=
  ⟨fun pn xe W w => PE.imp (pe_callB (hc pn xe) hg hm hv (ha.run pn xe W w) hn hdb he hpl) fun σ H Q h => rd_args hf h⟩
theorem de_callTy {x : Str} {T : String} {r : List V → Hp → VK → Prop} {f : List D → Sto → R D} {dd : DenA} {p : Pos} (hc : ∀ pn xe, CallR (X.tr pn xe) (.type T) r) (hf : OpN X.K c r f) (hm : X.mg x = none) (hv : bootBuiltins x = some (.type T)) (ha : DA c X (e :: es) dd) (hg : Gl X x := by rfl)
    (hn : x ≠ "__name__" := by decide) (hdb : (x == ("__debug__" : Str)) = false := by decide) (he : starEach (e :: es) X.env = (false, eval e X.env) :: starEach es X.env := by rfl) (hpl : (backTo pos (starEach es X.env)).any (·.1) = false := by rfl) :
    DE c X (.Call (.Name x p) (e :: es) [] pos) (dArgs f dd) :=
  ⟨fun pn xe W w => PE.imp (pe_callTy (hc pn xe) hg hm hv (ha.run pn xe W w) hn hdb he hpl) fun σ H Q h => rd_args hf h⟩
end
end DL

set_option Elab.async false
set_option linter.all false
set_option maxRecDepth 100000
set_option maxHeartbeats 4000000
namespace DL
open PySem L2

/-! ### ints -/
def iop (C : Int → Int → Bool) (g : Int → Int → D) (x y : D) (S : Sto) : R D := match x, y with
  | .int i, .int j => if C i j then .ok (g i j) S else .bad
  | _, _ => .bad
def iop0 (g : Int → Int → D) (x y : D) (S : Sto) : R D := match x, y with
  | .int i, .int j => .ok (g i j) S
  | _, _ => .bad
@[simp] theorem iop_int (C : Int → Int → Bool) (g : Int → Int → D) (i j : Int) (S : Sto) : iop C g (.int i) (.int j) S = if C i j then .ok (g i j) S else .bad := rfl
@[simp] theorem iop0_int (g : Int → Int → D) (i j : Int) (S : Sto) : iop0 g (.int i) (.int j) S = .ok (g i j) S := rfl
section
variable {K : PySem.W.Frag} {c : G} {X : Cx} {e a b : Expr} {da db : DenE} {pos : Pos}
theorem op2_int {C : Int → Int → Prop} {Cb : Int → Int → Bool} {g : Int → Int → V} {gd : Int → Int → D} (hC : ∀ i j, Cb i j = true → C i j) (hg : ∀ i j K H ι, RV K H ι (gd i j) (g i j)) : Op2 K c (rI C g) (iop Cb gd) := by
  intro H ι S x y v u σ W Q r rv ru p
  unfold iop at p
  split at p
  · split at p
    · rename_i h; exact ⟨_, _, rv.int_inv, ru.int_inv, hC _ _ h, p.here r (hg _ _ _ _ _)⟩
    · exact p.elim
  · exact p.elim
theorem op2_int0 {g : Int → Int → V} {gd : Int → Int → D} (hg : ∀ i j K H ι, RV K H ι (gd i j) (g i j)) : Op2 K c (rI0 g) (iop0 gd) := by
  intro H ι S x y v u σ W Q r rv ru p
  unfold iop0 at p
  split at p
  · exact ⟨_, _, rv.int_inv, ru.int_inv, p.here r (hg _ _ _ _ _)⟩
  · exact p.elim
def mulOk (i j : Int) : Bool := decide ((Builtin.Int.intBits i : Int) + (Builtin.Int.intBits j : Int) ≤ 134217728)
def divOk (_ j : Int) : Bool := decide (0 < j ∧ j.natAbs.log2 < 9000)
def powOk (i j : Int) : Bool := decide (0 ≤ j ∧ j ≤ 1000000 ∧ i.natAbs < 18446744073709551616)
abbrev oSub := iop0 fun i j => .int (i - j)
abbrev oFdiv := iop divOk fun i j => .int (i / j)
abbrev oMod := iop (fun _ j => decide (0 < j)) fun i j => .int (i % j)
abbrev oPow := iop powOk fun i j => .int (i ^ j.toNat)
abbrev oShl := iop powOk fun i j => .int (i * 2 ^ j.toNat)
abbrev oShr := iop (fun _ j => decide (0 ≤ j)) fun i j => .int (i / 2 ^ j.toNat)
abbrev oAnd := iop0 fun i j => .int (Builtin.bitAnd i j)
abbrev oOr := iop0 fun i j => .int (Builtin.bitOr i j)
abbrev oXor := iop0 fun i j => .int (Builtin.bitXor i j)
abbrev oLt := iop0 fun i j => .bl (decide (i < j))
abbrev oLe := iop0 fun i j => .bl (decide (i ≤ j))
abbrev oGt := iop0 fun i j => .bl (decide (j < i))
abbrev oGe := iop0 fun i j => .bl (decide (j ≤ i))
theorem powOk_ok {i j : Int} (h : powOk i j = true) : CPow i j := by
  have h := of_decide_eq_true h
  exact ⟨h.1, h.2.1, by have e : (2:Nat) ^ 64 = 18446744073709551616 := by decide
                        rw [e]; exact h.2.2⟩
theorem de_sub (ha : DE c X a da) (hb : DE c X b db) : DE c X (.BinOp a .Sub b pos) (dOp oSub da db) := de_op (fun _ _ => op_sub) (op2_int0 fun _ _ _ _ _ => .int) ha hb
theorem de_fdiv (ha : DE c X a da) (hb : DE c X b db) : DE c X (.BinOp a .FloorDiv b pos) (dOp oFdiv da db) := de_op (fun _ _ => op_fdivW) (op2_int (fun i j h => show CDivW i j from of_decide_eq_true (p := 0 < j ∧ j.natAbs.log2 < 9000) h) fun _ _ _ _ _ => .int) ha hb
theorem de_mod (ha : DE c X a da) (hb : DE c X b db) : DE c X (.BinOp a .Mod b pos) (dOp oMod da db) := de_op (fun _ _ => op_mod) (op2_int (fun _ _ h => of_decide_eq_true h) fun _ _ _ _ _ => .int) ha hb
theorem de_pow (ha : DE c X a da) (hb : DE c X b db) : DE c X (.BinOp a .Pow b pos) (dOp oPow da db) := de_op (fun _ _ => op_pow) (op2_int (fun _ _ h => powOk_ok h) fun _ _ _ _ _ => .int) ha hb
theorem de_shl (ha : DE c X a da) (hb : DE c X b db) : DE c X (.BinOp a .LShift b pos) (dOp oShl da db) := de_op (fun _ _ => op_shl) (op2_int (fun _ _ h => powOk_ok h) fun _ _ _ _ _ => .int) ha hb
theorem de_shr (ha : DE c X a da) (hb : DE c X b db) : DE c X (.BinOp a .RShift b pos) (dOp oShr da db) := de_op (fun _ _ => op_shr) (op2_int (fun _ _ h => of_decide_eq_true h) fun _ _ _ _ _ => .int) ha hb
theorem de_band (ha : DE c X a da) (hb : DE c X b db) : DE c X (.BinOp a .BitAnd b pos) (dOp oAnd da db) := de_op (fun _ _ => op_and) (op2_int0 fun _ _ _ _ _ => .int) ha hb
theorem de_bor (ha : DE c X a da) (hb : DE c X b db) : DE c X (.BinOp a .BitOr b pos) (dOp oOr da db) := de_op (fun _ _ => op_or) (op2_int0 fun _ _ _ _ _ => .int) ha hb
theorem de_bxor (ha : DE c X a da) (hb : DE c X b db) : DE c X (.BinOp a .BitXor b pos) (dOp oXor da db) := de_op (fun _ _ => op_xor) (op2_int0 fun _ _ _ _ _ => .int) ha hb
def uop (g : Int → D) (x : D) (S : Sto) : R D := match x with
  | .int i => .ok (g i) S
  | _ => .bad
@[simp] theorem uop_int (g : Int → D) (i : Int) (S : Sto) : uop g (.int i) S = .ok (g i) S := rfl
theorem op1_int {g : Int → V} {gd : Int → D} (hg : ∀ i K H ι, RV K H ι (gd i) (g i)) : Op1 K c (rU g) (uop gd) := by
  intro H ι S x v σ W Q r rv p
  unfold uop at p
  split at p
  · exact ⟨_, rv.int_inv, p.here r (hg _ _ _ _)⟩
  · exact p.elim
abbrev oNeg := uop fun i => .int (-i)
abbrev oInv := uop fun i => .int (Builtin.bitNot i)
theorem de_neg (ha : DE c X a da) : DE c X (.UnaryOp .USub a pos) (dUn oNeg da) := de_un (fun _ _ => un_neg) (op1_int fun _ _ _ _ => .int) ha
theorem de_inv (ha : DE c X a da) : DE c X (.UnaryOp .Invert a pos) (dUn oInv da) := de_un (fun _ _ => un_inv) (op1_int fun _ _ _ _ => .int) ha

/-! ### sequences -/
def lstOf (S : Sto) (x : D) : Option (List D) := match x with
  | .ref n => match S[n]? with
    | some (.lst xs) => some xs
    | _ => none
  | _ => none
def seqOf (S : Sto) (x : D) : Option (List D) := match x with
  | .ref n => match S[n]? with
    | some (.lst xs) => some xs
    | _ => none
  | .tup xs => some xs
  | .scr ns => some (ns.map .int)
  | _ => none
section
variable {H : Hp} {ι : List Addr} {S : Sto} {x : D} {v : V} {xs : List D}
theorem lstOf_ok (r : Rep K c H ι S) (rv : RV K H ι x v) (h : lstOf S x = some xs) : ∃ n l vs, x = .ref n ∧ v = .ref l ∧ S[n]? = some (.lst xs) ∧ ι[n]? = some l ∧ H l = some (.lst vs) ∧ RVs K H ι xs vs := by
  unfold lstOf at h
  split at h
  · obtain ⟨l, rfl, hn⟩ := rv.ref_inv
    split at h
    · rename_i hs
      cases h
      obtain ⟨vs, e, q⟩ := r.obj _ _ l hs hn
      exact ⟨_, l, vs, rfl, rfl, hs, hn, e, q⟩
    · cases h
  · cases h
theorem rvs_ints (H : Hp) (ι : List Addr) : ∀ ns : List Int, RVs K H ι (ns.map .int) (ns.map V.int)
  | [] => .nil
  | _ :: r => .cons .int (rvs_ints H ι r)
theorem seqOf_ok (r : Rep K c H ι S) (rv : RV K H ι x v) (h : seqOf S x = some xs) : ∃ l vs, v = .ref l ∧ (SqL K H l vs ∨ SqT K H l vs) ∧ RVs K H ι xs vs := by
  unfold seqOf at h
  split at h
  · obtain ⟨l, rfl, hn⟩ := rv.ref_inv
    split at h
    · rename_i hs
      cases h
      obtain ⟨vs, e, q⟩ := r.obj _ _ l hs hn
      exact ⟨l, vs, rfl, .inl (SqL.of e), q⟩
    · cases h
  · cases h
    obtain ⟨l, vs, rfl, e, q⟩ := rv.tup_inv
    exact ⟨l, vs, rfl, .inr (SqT.of e), q⟩
  · cases h
    cases rv with
    | scr h => exact ⟨_, _, rfl, .inl h.seq, rvs_ints _ _ _⟩
  · cases h
end
/-- a new list -/
def newL (xs : List D) (S : Sto) : R D := .ok (.ref S.length) (S ++ [.lst xs])
def bigL : Nat := 16777216
theorem bigL_eq : bigL = sizeLine := by rw [sizeLine_eq]; rfl
def oAdd (x y : D) (S : Sto) : R D := match x, y with
  | .int i, .int j => .ok (.int (i + j)) S
  | .str i, .str j => if i.length + j.length ≤ bigL then .ok (.str (i ++ j)) S else .bad
  | .tup xs, .tup ys => if xs ≠ [] ∧ xs.length + ys.length ≤ bigL then .ok (.tup (xs ++ ys)) S else .bad
  | .ref n, .ref m => match lstOf S (.ref n), lstOf S (.ref m) with
    | some xs, some ys => if xs.length + ys.length ≤ bigL then newL (xs ++ ys) S else .bad
    | _, _ => .bad
  | _, _ => .bad
@[simp] theorem oAdd_int (i j : Int) (S : Sto) : oAdd (.int i) (.int j) S = .ok (.int (i + j)) S := rfl
abbrev rAdd4 (K : PySem.W.Frag) : R2 := fun x y H Q => rI0 (fun i j => .int (i + j)) x y H Q ∨ ((fun x y H (Q : VK) => ∃ i j, x = V.str i ∧ y = V.str j ∧ i.length + j.length ≤ sizeLine ∧ Q (.str (i ++ j)) H) x y H Q ∨ (rCatT K x y H Q ∨ rCat x y H Q))
theorem op_add4 {X : Cx} : OpR X (binaryOp .Add) (rAdd4 X.K) := op_add.or (op_add_str.or (op_catT.or op_cat))
theorem op2_add : Op2 K c (rAdd4 K) oAdd := by
  intro H ι S x y v u σ W Q r rv ru p
  unfold oAdd at p
  split at p
  · exact .inl ⟨_, _, rv.int_inv, ru.int_inv, p.here r .int⟩
  · split at p
    · rename_i h; exact .inr (.inl ⟨_, _, rv.str_inv, ru.str_inv, by rw [← bigL_eq]; exact h, p.here r .str⟩)
    · exact p.elim
  · split at p
    · rename_i h
      obtain ⟨l, vs, rfl, e, q⟩ := rv.tup_inv
      obtain ⟨m, ws, rfl, e', q'⟩ := ru.tup_inv
      refine .inr (.inr (.inl ⟨l, m, vs, ws, rfl, rfl, SqT.of e, SqT.of e', fun z => ?_, by rw [← bigL_eq, ← q.length, ← q'.length]; exact h.2, ⟨fun e0 => ?_, fun _ a ha => post_tup r (q.append q') p ha⟩⟩))
      · subst z
        cases q
        exact h.1 rfl
      · subst e0
        have q3 := q.append q'
        rw [List.append_nil] at q3
        exact p.here r (.tup e q3)
    · exact p.elim
  · split at p
    · rename_i h1 h2
      split at p
      · rename_i hl
        obtain ⟨_, l, vs, e0, rfl, _, _, e, q⟩ := lstOf_ok r rv h1
        obtain ⟨_, m, ws, e0', rfl, _, _, e', q'⟩ := lstOf_ok r ru h2
        exact .inr (.inr (.inr ⟨l, m, vs, ws, rfl, rfl, e, e', by rw [← bigL_eq, ← q.length, ← q'.length]; exact hl, fun a ha => post_lst r (q.append q') p ha⟩))
      · exact p.elim
    · exact p.elim
  · exact p.elim
theorem de_add (ha : DE c X a da) (hb : DE c X b db) : DE c X (.BinOp a .Add b pos) (dOp oAdd da db) := de_op (fun _ _ => op_add4) op2_add ha hb
def oMul (x y : D) (S : Sto) : R D := match x, y with
  | .int i, .int j => if mulOk i j then .ok (.int (i * j)) S else .bad
  | .ref n, .int k => match lstOf S (.ref n) with
    | some xs => if -1000000 ≤ k ∧ k ≤ 1000000 ∧ xs.length * k.toNat ≤ bigL then newL (List.replicate k.toNat xs).flatten S else .bad
    | _ => .bad
  | _, _ => .bad
@[simp] theorem oMul_int (i j : Int) (S : Sto) : oMul (.int i) (.int j) S = if mulOk i j then .ok (.int (i * j)) S else .bad := rfl
theorem op2_mul : Op2 K c (fun x y H Q => rI CMulX (fun i j => .int (i * j)) x y H Q ∨ rRep x y H Q) oMul := by
  intro H ι S x y v u σ W Q r rv ru p
  unfold oMul at p
  split at p
  · split at p
    · rename_i h; exact .inl ⟨_, _, rv.int_inv, ru.int_inv, show CMulX _ _ from of_decide_eq_true (p := _ ≤ (134217728 : Int)) h, p.here r .int⟩
    · exact p.elim
  · split at p
    · rename_i h1
      split at p
      · rename_i hl
        obtain ⟨_, l, vs, e0, rfl, _, _, e, q⟩ := lstOf_ok r rv h1
        rw [ru.int_inv]
        refine .inr ⟨l, _, vs, rfl, rfl, e, by omega, by omega, by rw [← bigL_eq, ← q.length]; exact hl.2.2, fun a ha => post_lst r (q.rep _) p ha⟩
      · exact p.elim
    · exact p.elim
  · exact p.elim
theorem de_mul (ha : DE c X a da) (hb : DE c X b db) : DE c X (.BinOp a .Mult b pos) (dOp oMul da db) := de_op (fun _ _ => op_mulX.or op_rep) op2_mul ha hb

/-- xs[i] of a list, a tuple, a text -/
def oIx (x y : D) (S : Sto) : R D := match y with
  | .int i => match seqOf S x with
    | some xs => match atI xs i with
      | some d => .ok d S
      | none => .bad
    | none => .bad
  | _ => .bad
theorem RVs.atI {H : Hp} {ι : List Addr} {xs : List D} {vs : List V} {i : Int} {d : D} (q : RVs K H ι xs vs) (h : L2.atI xs i = some d) : ∃ v, L2.atI vs i = some v ∧ RV K H ι d v := by
  unfold L2.atI at h ⊢
  rw [q.length] at h
  cases e : ixN vs.length i with
  | none => rw [e] at h; cases h
  | some j =>
    rw [e] at h
    exact q.get h
theorem op2_ix : Op2 K c (rIx K) oIx := by
  intro H ι S x y v u σ W Q r rv ru p
  unfold oIx at p
  split at p
  · split at p
    · rename_i hs
      split at p
      · rename_i hd
        obtain ⟨l, vs, rfl, hq, q⟩ := seqOf_ok r rv hs
        obtain ⟨w, hw, rw'⟩ := q.atI hd
        rcases hq with hq | hq
        · exact .inl ⟨l, vs, _, w, rfl, ru.int_inv, hq, hw, p.here r rw'⟩
        · exact .inr (.inl ⟨l, vs, _, w, rfl, ru.int_inv, hq, hw, p.here r rw'⟩)
      · exact p.elim
    · exact p.elim
  · exact p.elim
theorem de_item (ha : DE c X a da) (hb : DE c X b db) (hs : PlainIx b := by exact fun _ _ => rfl) : DE c X (.Subscript a b pos) (dOp oIx da db) := de_ix (fun _ _ => ix_seq) op2_ix ha hb hs

/-! ### == and != -/
def toPy (S : Sto) : Nat → D → Option PyData
  | _, .non => some .none
  | _, .bl b => some (.bool b)
  | _, .int i => some (.int i)
  | _, .str x => some (.str x)
  | k + 1, .tup xs => (xs.mapM (toPy S k)).map .tuple
  | k + 1, .ref n => match S[n]? with
    | some (.lst xs) => (xs.mapM (toPy S k)).map .list
    | _ => none
  | _, .scr ns => some (.list (ns.map .int))
  | _, _ => none
theorem mapM_ok {H : Hp} {ι : List Addr} {f : D → Option PyData} (hf : ∀ x v d, RV K H ι x v → f x = some d → Dp K H v d) : ∀ {xs : List D} {vs : List V} {ds : List PyData}, RVs K H ι xs vs → xs.mapM f = some ds → DpAll K H vs ds
  | [], _, ds, .nil, h => by simp at h; subst h; exact .nil
  | x :: xs, _, ds, .cons r s, h => by
    simp only [List.mapM_cons, Option.bind_eq_bind, Option.bind_eq_some_iff] at h
    obtain ⟨d, h1, ds', h2, h3⟩ := h
    cases h3
    exact .cons (hf _ _ _ r h1) (mapM_ok hf s h2)
theorem dp_ints (H : Hp) : ∀ ns : List Int, DpAll K H (ns.map V.int) (ns.map .int)
  | [] => .nil
  | _ :: r => .cons (.int _) (dp_ints H r)
theorem toPy_ok {H : Hp} {ι : List Addr} {S : Sto} (r : Rep K c H ι S) : ∀ (k : Nat) (x : D) (v : V) (d : PyData), RV K H ι x v → toPy S k x = some d → Dp K H v d := by
  intro k
  induction k with
  | zero =>
    intro x v d rv h
    cases x with
    | non => rw [rv.non_inv]; unfold toPy at h; cases h; exact .non
    | bl b => rw [rv.bl_inv]; unfold toPy at h; cases h; exact .bl _
    | int b => rw [rv.int_inv]; unfold toPy at h; cases h; exact .int _
    | str b => rw [rv.str_inv]; unfold toPy at h; cases h; exact .str _
    | scr ns => unfold toPy at h; cases h; cases rv with | scr h => exact .lst h.seq (dp_ints _ _)
    | tup _ => unfold toPy at h; cases h
    | ref _ => unfold toPy at h; cases h
  | succ k ih =>
    intro x v d rv h
    cases x with
    | non => rw [rv.non_inv]; unfold toPy at h; cases h; exact .non
    | bl b => rw [rv.bl_inv]; unfold toPy at h; cases h; exact .bl _
    | int b => rw [rv.int_inv]; unfold toPy at h; cases h; exact .int _
    | str b => rw [rv.str_inv]; unfold toPy at h; cases h; exact .str _
    | scr ns => unfold toPy at h; cases h; cases rv with | scr h => exact .lst h.seq (dp_ints _ _)
    | tup xs =>
      unfold toPy at h
      simp only [Option.map_eq_some_iff] at h
      obtain ⟨ds, h1, rfl⟩ := h
      obtain ⟨a, vs, rfl, e, q⟩ := rv.tup_inv
      exact .tup (SqT.of e) (mapM_ok ih q h1)
    | ref n =>
      unfold toPy at h
      obtain ⟨a, rfl, hn⟩ := rv.ref_inv
      split at h
      · rename_i xs hs
        simp only [Option.map_eq_some_iff] at h
        obtain ⟨ds, h1, rfl⟩ := h
        obtain ⟨vs, e, q⟩ := r.obj _ _ a hs hn
        exact .lst (SqL.of e) (mapM_ok ih q h1)
      · cases h
def eqG (neg : Bool) (x y : D) (S : Sto) : R D := match toPy S 64 x, toPy S 64 y with
  | some d, some e => if SeqAt.shaped d && SeqAt.shaped e then .ok (.bl (neg != PyData.eqv d e)) S else .bad
  | _, _ => .bad
/-- ints ahead, then whatever is data -/
def oEq (x y : D) (S : Sto) : R D := match x, y with
  | .int i, .int j => .ok (.bl (decide (i = j))) S
  | .bl i, .bl j => .ok (.bl (decide (i = j))) S
  | .str i, .str j => .ok (.bl (decide (i = j))) S
  | x, y => eqG false x y S
def oNe (x y : D) (S : Sto) : R D := match x, y with
  | .int i, .int j => .ok (.bl (!decide (i = j))) S
  | .bl i, .bl j => .ok (.bl (!decide (i = j))) S
  | .str i, .str j => .ok (.bl (!decide (i = j))) S
  | x, y => eqG true x y S
@[simp] theorem oEq_int (i j : Int) (S : Sto) : oEq (.int i) (.int j) S = .ok (.bl (decide (i = j))) S := rfl
@[simp] theorem oEq_bl (i j : Bool) (S : Sto) : oEq (.bl i) (.bl j) S = .ok (.bl (decide (i = j))) S := rfl
@[simp] theorem oEq_str (i j : Str) (S : Sto) : oEq (.str i) (.str j) S = .ok (.bl (decide (i = j))) S := rfl
@[simp] theorem oNe_int (i j : Int) (S : Sto) : oNe (.int i) (.int j) S = .ok (.bl (!decide (i = j))) S := rfl
@[simp] theorem oNe_bl (i j : Bool) (S : Sto) : oNe (.bl i) (.bl j) S = .ok (.bl (!decide (i = j))) S := rfl
@[simp] theorem oNe_str (i j : Str) (S : Sto) : oNe (.str i) (.str j) S = .ok (.bl (!decide (i = j))) S := rfl
theorem eqG_ok {H : Hp} {ι : List Addr} {S : Sto} {x y : D} {v u : V} {σ : St} {W : WX} {Q : VK} {neg : Bool} (r : Rep K c H ι S) (rv : RV K H ι x v) (ru : RV K H ι y u) (p : PostE K c (RV K) H ι σ W Q (eqG neg x y S)) :
    ∃ d e, Dp K H v d ∧ Dp K H u e ∧ SeqAt.shaped d = true ∧ SeqAt.shaped e = true ∧ Q (.bl (neg != PyData.eqv d e)) H := by
  unfold eqG at p
  split at p
  · rename_i d e h1 h2
    split at p
    · rename_i hs
      rw [Bool.and_eq_true] at hs
      exact ⟨d, e, toPy_ok r 64 x v d rv h1, toPy_ok r 64 y u e ru h2, hs.1, hs.2, p.here r .bl⟩
    · exact p.elim
  · exact p.elim
theorem op2_eq : Op2 K c (fun x y H Q => rEq x y H Q ∨ rEqD K x y H Q) oEq := by
  intro H ι S x y v u σ W Q r rv ru p
  unfold oEq at p
  split at p
  · rw [rv.int_inv, ru.int_inv]; exact .inl ⟨rfl, by simpa using p.here r .bl⟩
  · rw [rv.bl_inv, ru.bl_inv]; exact .inl ⟨rfl, by simpa using p.here r .bl⟩
  · rw [rv.str_inv, ru.str_inv]; exact .inl ⟨rfl, by simpa using p.here r .bl⟩
  · obtain ⟨d, e, h1, h2, h3, h4, q⟩ := eqG_ok r rv ru p
    exact .inr ⟨d, e, h1, h2, h3, h4, by simpa using q⟩
theorem op2_ne : Op2 K c (fun x y H Q => rNe x y H Q ∨ rNeD K x y H Q) oNe := by
  intro H ι S x y v u σ W Q r rv ru p
  unfold oNe at p
  split at p
  · rw [rv.int_inv, ru.int_inv]; exact .inl ⟨rfl, by simpa using p.here r .bl⟩
  · rw [rv.bl_inv, ru.bl_inv]; exact .inl ⟨rfl, by simpa using p.here r .bl⟩
  · rw [rv.str_inv, ru.str_inv]; exact .inl ⟨rfl, by simpa using p.here r .bl⟩
  · obtain ⟨d, e, h1, h2, h3, h4, q⟩ := eqG_ok r rv ru p
    exact .inr ⟨d, e, h1, h2, h3, h4, by simpa using q⟩
abbrev Un64 (X : Cx) : Prop := X.A.units + 64 < cLine
theorem de_eq (hu : Un64 X) (ha : DE c X a da) (hb : DE c X b db) : DE c X (.Compare a [.Eq] [b] pos) (dOp oEq da db) := de_cmp (fun pn xe => op_eq.or (op_eqD (X := X.tr pn xe) hu)) op2_eq ha hb (nobehind _ (by decide) (by decide))
theorem de_ne (hu : Un64 X) (ha : DE c X a da) (hb : DE c X b db) : DE c X (.Compare a [.NotEq] [b] pos) (dOp oNe da db) := de_cmp (fun pn xe => op_ne.or (op_neD (X := X.tr pn xe) hu)) op2_ne ha hb (nobehind _ (by decide) (by decide))
theorem dt_eq (hu : Un64 X) (ha : DE c X a da) (hb : DE c X b db) : DT c X (.Compare a [.Eq] [b] pos) (dB (dOp oEq da db)) := dt_cmp (fun pn xe => op_eq.or (op_eqD (X := X.tr pn xe) hu)) op2_eq ha hb (nobehind _ (by decide) (by decide))
theorem dt_ne (hu : Un64 X) (ha : DE c X a da) (hb : DE c X b db) : DT c X (.Compare a [.NotEq] [b] pos) (dB (dOp oNe da db)) := dt_cmp (fun pn xe => op_ne.or (op_neD (X := X.tr pn xe) hu)) op2_ne ha hb (nobehind _ (by decide) (by decide))
theorem de_lt (ha : DE c X a da) (hb : DE c X b db) : DE c X (.Compare a [.Lt] [b] pos) (dOp oLt da db) := de_cmp (fun pn xe => op_lt) (op2_int0 fun _ _ _ _ _ => .bl) ha hb (nobehind _ (by decide) (by decide))
theorem de_le (ha : DE c X a da) (hb : DE c X b db) : DE c X (.Compare a [.LtE] [b] pos) (dOp oLe da db) := de_cmp (fun pn xe => op_le) (op2_int0 fun _ _ _ _ _ => .bl) ha hb (nobehind _ (by decide) (by decide))
theorem de_gt (ha : DE c X a da) (hb : DE c X b db) : DE c X (.Compare a [.Gt] [b] pos) (dOp oGt da db) := de_cmp (fun pn xe => op_gt) (op2_int0 fun _ _ _ _ _ => .bl) ha hb (nobehind _ (by decide) (by decide))
theorem de_ge (ha : DE c X a da) (hb : DE c X b db) : DE c X (.Compare a [.GtE] [b] pos) (dOp oGe da db) := de_cmp (fun pn xe => op_ge) (op2_int0 fun _ _ _ _ _ => .bl) ha hb (nobehind _ (by decide) (by decide))
theorem dt_lt (ha : DE c X a da) (hb : DE c X b db) : DT c X (.Compare a [.Lt] [b] pos) (dB (dOp oLt da db)) := dt_cmp (fun pn xe => op_lt) (op2_int0 fun _ _ _ _ _ => .bl) ha hb (nobehind _ (by decide) (by decide))
theorem dt_le (ha : DE c X a da) (hb : DE c X b db) : DT c X (.Compare a [.LtE] [b] pos) (dB (dOp oLe da db)) := dt_cmp (fun pn xe => op_le) (op2_int0 fun _ _ _ _ _ => .bl) ha hb (nobehind _ (by decide) (by decide))
theorem dt_gt (ha : DE c X a da) (hb : DE c X b db) : DT c X (.Compare a [.Gt] [b] pos) (dB (dOp oGt da db)) := dt_cmp (fun pn xe => op_gt) (op2_int0 fun _ _ _ _ _ => .bl) ha hb (nobehind _ (by decide) (by decide))
theorem dt_ge (ha : DE c X a da) (hb : DE c X b db) : DT c X (.Compare a [.GtE] [b] pos) (dB (dOp oGe da db)) := dt_cmp (fun pn xe => op_ge) (op2_int0 fun _ _ _ _ _ => .bl) ha hb (nobehind _ (by decide) (by decide))
/-- is None -/
def isNon : D → Bool
  | .non => true
  | _ => false
def oIsN (neg : Bool) (x y : D) (S : Sto) : R D := match y with
  | .non => .ok (.bl (neg != isNon x)) S
  | _ => .bad
theorem isN_bool {H : Hp} {ι : List Addr} {x : D} {v : V} (rv : RV K H ι x v) : isNon x = decide (v = .non) := by
  cases rv <;> simp [isNon]
theorem op2_isN : Op2 K c (fun x y H Q => y = .non ∧ Q (.bl (decide (x = .non))) H) (oIsN false) := by
  intro H ι S x y v u σ W Q r rv ru p
  unfold oIsN at p
  split at p
  · rw [isN_bool rv] at p
    exact ⟨ru.non_inv, by simpa using p.here r .bl⟩
  · exact p.elim
theorem op2_notN : Op2 K c (fun x y H Q => y = .non ∧ Q (.bl (!decide (x = .non))) H) (oIsN true) := by
  intro H ι S x y v u σ W Q r rv ru p
  unfold oIsN at p
  split at p
  · rw [isN_bool rv] at p
    exact ⟨ru.non_inv, by simpa using p.here r .bl⟩
  · exact p.elim
theorem de_isN (ha : DE c X a da) (hb : DE c X b db) : DE c X (.Compare a [.Is] [b] pos) (dOp (oIsN false) da db) := de_cmp (fun pn xe => op_isN) op2_isN ha hb (nobehind _ (by decide) (by decide))
theorem de_notN (ha : DE c X a da) (hb : DE c X b db) : DE c X (.Compare a [.IsNot] [b] pos) (dOp (oIsN true) da db) := de_cmp (fun pn xe => op_notN) op2_notN ha hb (nobehind _ (by decide) (by decide))
theorem dt_isN (ha : DE c X a da) (hb : DE c X b db) : DT c X (.Compare a [.Is] [b] pos) (dB (dOp (oIsN false) da db)) := dt_cmp (fun pn xe => op_isN) op2_isN ha hb (nobehind _ (by decide) (by decide))
theorem dt_notN (ha : DE c X a da) (hb : DE c X b db) : DT c X (.Compare a [.IsNot] [b] pos) (dB (dOp (oIsN true) da db)) := dt_cmp (fun pn xe => op_notN) op2_notN ha hb (nobehind _ (by decide) (by decide))
/-! ### in -/
def flatD : D → Option V
  | .non => some .non
  | .bl b => some (.bl b)
  | .int b => some (.int b)
  | .str b => some (.str b)
  | _ => none
theorem flatD_ok {H : Hp} {ι : List Addr} {x : D} {v w : V} (rv : RV K H ι x v) (h : flatD x = some w) : v = w ∧ flatV v = true := by
  cases rv <;> cases h <;> exact ⟨rfl, rfl⟩
theorem flats_ok {H : Hp} {ι : List Addr} : ∀ {xs : List D} {vs ws : List V}, RVs K H ι xs vs → xs.mapM flatD = some ws → vs = ws ∧ vs.all flatV = true
  | [], _, ws, .nil, h => by simp at h; subst h; exact ⟨rfl, rfl⟩
  | x :: xs, _, ws, .cons r s, h => by
    simp only [List.mapM_cons, Option.bind_eq_bind, Option.bind_eq_some_iff] at h
    obtain ⟨d, h1, ds', h2, h3⟩ := h
    cases h3
    obtain ⟨e1, f1⟩ := flatD_ok r h1
    obtain ⟨e2, f2⟩ := flats_ok s h2
    subst e1; subst e2
    exact ⟨rfl, by simp [f1, f2]⟩
def oIn (neg : Bool) (x y : D) (S : Sto) : R D := match flatD x, (seqOf S y).bind fun ys => ys.mapM flatD with
  | some v, some vs => .ok (.bl (if neg then !inV v vs else inV v vs)) S
  | _, _ => .bad
theorem op2_in {neg : Bool} : Op2 K c (rIn K neg) (oIn neg) := by
  intro H ι S x y v u σ W Q r rv ru p
  unfold oIn at p
  split at p
  · rename_i w ws h1 h2
    rw [Option.bind_eq_some_iff] at h2
    obtain ⟨ys, h2, h3⟩ := h2
    obtain ⟨l, vs, rfl, hq, q⟩ := seqOf_ok r ru h2
    obtain ⟨e1, f1⟩ := flatD_ok rv h1
    obtain ⟨e2, f2⟩ := flats_ok q h3
    subst e1; subst e2
    exact ⟨l, vs, rfl, hq, f1, f2, p.here r .bl⟩
  · exact p.elim
end
end DL

set_option Elab.async false
set_option linter.all false
set_option maxRecDepth 100000
set_option maxHeartbeats 4000000
namespace DL
open PySem L2
section
variable {K : PySem.W.Frag} {c : G} {X : Cx} {e a b : Expr} {es : List Expr} {da db : DenE} {pos : Pos}
theorem de_in (ha : DE c X a da) (hb : DE c X b db) (hm : behindInMarks .In b = false := by rfl) : DE c X (.Compare a [.In] [b] pos) (dOp (oIn false) da db) := de_cmp (fun pn xe => op_in_seq) op2_in ha hb hm
theorem de_notin (ha : DE c X a da) (hb : DE c X b db) (hm : behindInMarks .NotIn b = false := by rfl) : DE c X (.Compare a [.NotIn] [b] pos) (dOp (oIn true) da db) := de_cmp (fun pn xe => op_notIn_seq) op2_in ha hb hm
theorem dt_in (ha : DE c X a da) (hb : DE c X b db) (hm : behindInMarks .In b = false := by rfl) : DT c X (.Compare a [.In] [b] pos) (dB (dOp (oIn false) da db)) := dt_cmp (fun pn xe => op_in_seq) op2_in ha hb hm
theorem dt_notin (ha : DE c X a da) (hb : DE c X b db) (hm : behindInMarks .NotIn b = false := by rfl) : DT c X (.Compare a [.NotIn] [b] pos) (dB (dOp (oIn true) da db)) := dt_cmp (fun pn xe => op_notIn_seq) op2_in ha hb hm
/-- a < b < c, the answers bools -/
theorem de_chain {op op' : CmpOp} {r r' : R2} {f g : D → D → Sto → R D} {e2 : Expr} {dc : DenE} (ho : ∀ pn xe, OpR (X.tr pn xe) (compareOp op) r) (ho' : ∀ pn xe, OpR (X.tr pn xe) (compareOp op') r') (hf : Op2 X.K c r f) (hg : Op2 X.K c r' g) (ha : DE c X a da) (hb : DE c X b db) (hc : DE c X e2 dc)
    (hm : lastMarks [op, op'] [b, e2] = false := by rfl) : DE c X (.Compare a [op, op'] [b, e2] pos) (dChain f g da db dc) := by
  refine ⟨fun pn xe W w => PE.imp (pe_chain (ho pn xe) (ho' pn xe) (ha.run pn xe W w) (hb.run pn xe W w) (hc.run pn xe W w) hm) fun σ H Q h => ?_⟩
  obtain ⟨ι, S, τ, rp, re, p⟩ := h
  refine rd_go rp re p fun ι1 H1 S1 x v l1 r1 re1 rv p1 => rd_go r1 re1 p1 fun ι2 H2 S2 y u l2 r2 re2 ru p2 => ?_
  refine hf H2 ι2 S2 x y v u σ W _ r2 (rv.mono l2) ru ?_
  cases q : f x y S2 with
  | bad => rw [q] at p2; exact p2
  | ex x S1 => rw [q] at p2; exact p2
  | ok k S3 =>
    rw [q] at p2
    intro ι3 H3 z l3 r3 rk
    cases k with
    | bl k =>
      refine ⟨k, rk.bl_inv, ?_⟩
      cases k with
      | false => exact p2 ι3 H3 _ l3 r3 .bl
      | true => exact rd_go r3 (re2.mono l3) (PostE.le l3 p2) fun ι4 H4 S4 z w l4 r4 re4 rw' p4 => hg H4 ι4 S4 y z u w σ W Q r4 (ru.mono (l3.trans l4)) rw' p4
    | _ => exact p2.elim
theorem dt_chain {op op' : CmpOp} {r r' : R2} {f g : D → D → Sto → R D} {e2 : Expr} {dc : DenE} (ho : ∀ pn xe, OpR (X.tr pn xe) (compareOp op) r) (ho' : ∀ pn xe, OpR (X.tr pn xe) (compareOp op') r') (hf : Op2 X.K c r f) (hg : Op2 X.K c r' g) (ha : DE c X a da) (hb : DE c X b db) (hc : DE c X e2 dc)
    (hm : lastMarks [op, op'] [b, e2] = false := by rfl) : DT c X (.Compare a [op, op'] [b, e2] pos) (dB (dChain f g da db dc)) := by
  refine ⟨fun pn xe W w => PT.imp (L2.pt_chain (ho pn xe) (ho' pn xe) (ha.run pn xe W w) (hb.run pn xe W w) (hc.run pn xe W w) hm) fun σ H Q h => ?_⟩
  have h := rd_bool h
  obtain ⟨ι, S, τ, rp, re, p⟩ := h
  refine rd_go rp re p fun ι1 H1 S1 x v l1 r1 re1 rv p1 => rd_go r1 re1 p1 fun ι2 H2 S2 y u l2 r2 re2 ru p2 => ?_
  refine hf H2 ι2 S2 x y v u σ W _ r2 (rv.mono l2) ru ?_
  cases q : f x y S2 with
  | bad => rw [q] at p2; exact p2
  | ex x S1 => rw [q] at p2; exact p2
  | ok k S3 =>
    rw [q] at p2
    intro ι3 H3 z l3 r3 rk
    cases k with
    | bl k =>
      refine ⟨k, rk.bl_inv, ?_⟩
      cases k with
      | false =>
        obtain ⟨k, e, q⟩ := p2 ι3 H3 _ l3 r3 .bl
        cases e
        exact ⟨_, rfl, q⟩
      | true => exact rd_go r3 (re2.mono l3) (PostE.le l3 p2) fun ι4 H4 S4 z w l4 r4 re4 rw' p4 => hg H4 ι4 S4 y z u w σ W _ r4 (ru.mono (l3.trans l4)) rw' p4
    | _ => exact p2.elim

/-! ### slices -/
def dNoPart : Env → Sto → R (Option Int) := fun _ S => .ok none S
def asI (x : D) (S : Sto) : R (Option Int) := match x with
  | .int i => .ok (some i) S
  | _ => .bad
def dPart (d : DenE) : Env → Sto → R (Option Int) := fun τ S => (d τ S).bind asI
structure DO (c : G) (X : Cx) (e : Option Expr) (d : Env → Sto → R (Option Int)) : Prop where
  run : ∀ pn xe W, Wk c (X.tr pn xe) W → ∃ t : TO, PO (X.tr pn xe) e t ∧ ∀ σ H Q, rd X.K c (fun _ _ a b => a = b) d W σ H Q → t σ H Q
theorem do_none : DO c X none dNoPart := ⟨fun pn xe W w => ⟨_, po_none, fun σ H Q h => let ⟨ι, S, τ, rp, re, p⟩ := h; p.here rp rfl⟩⟩
theorem do_some (h : DE c X e da) : DO c X (some e) (dPart da) := ⟨fun pn xe W w => ⟨_, po_some (h.run pn xe W w), fun σ H Q h => by
  obtain ⟨ι, S, τ, rp, re, p⟩ := h
  refine rd_go rp re p fun ι1 H1 S1 x v l1 r1 re1 rv p1 => ?_
  cases x with
  | int i => exact ⟨i, rv.int_inv, p1.here r1 rfl⟩
  | _ => exact p1.elim⟩⟩
def cutD (xs : List D) (lo hi : Option Int) : List D := (xs.drop (HT.sIx xs.length 0 lo)).take (HT.sIx xs.length xs.length hi - HT.sIx xs.length 0 lo)
def oSl (x : D) (lo hi : Option Int) (S : Sto) : R D := match x with
  | .ref n => match lstOf S (.ref n) with
    | some xs => newL (cutD xs lo hi) S
    | none => .bad
  | .tup xs => .ok (.tup (cutD xs lo hi)) S
  | _ => .bad
def dSl (da : DenE) (dl dh : Env → Sto → R (Option Int)) : DenE := fun τ S => (da τ S).bind fun x S1 => (dl τ S1).bind fun l S2 => (dh τ S2).bind fun h S3 => oSl x l h S3
theorem RVs.cut {H : Hp} {ι : List Addr} {xs : List D} {vs : List V} (q : RVs K H ι xs vs) (lo hi : Option Int) : RVs K H ι (cutD xs lo hi) (cutV vs lo hi) := by
  unfold cutD cutV
  rw [q.length]
  exact (q.drop _).take _
def bothSl (K : PySem.W.Frag) : V → Option Int → Option Int → Hp → VK → Prop := fun x lo hi H Q => rSlL K x lo hi H Q ∨ rSlA K x lo hi H Q
theorem de_slice {lo hi : Option Expr} {dl dh : Env → Sto → R (Option Int)} {p2 : Pos} (ha : DE c X a da) (hl : DO c X lo dl) (hh : DO c X hi dh) : DE c X (.Subscript a (.Slice lo hi none p2) pos) (dSl da dl dh) := by
  refine ⟨fun pn xe W w => ?_⟩
  obtain ⟨tl, h1, i1⟩ := hl.run pn xe W w
  obtain ⟨th, h2, i2⟩ := hh.run pn xe W w
  refine PE.imp (pe_slice (sl_list.or sl_tupA) (ha.run pn xe W w) h1 h2) fun σ H Q h => ?_
  obtain ⟨ι, S, τ, rp, re, p⟩ := h
  refine rd_go rp re p fun ι1 H1 S1 x v l1 r1 re1 rv p1 => i1 _ _ _ (rd_go r1 re1 p1 fun ι2 H2 S2 l l' l2 r2 re2 el p2 => i2 _ _ _ (rd_go r2 re2 p2 fun ι3 H3 S3 h h' l3 r3 re3 eh p3 => ?_))
  subst el; subst eh
  have rv3 := rv.mono (l2.trans l3)
  unfold oSl at p3
  split at p3
  · split at p3
    · rename_i hx
      obtain ⟨_, l0, vs, e0, rfl, _, _, ee, q⟩ := lstOf_ok r3 rv3 hx
      exact .inl ⟨l0, vs, rfl, SqL.of ee, fun a ha => post_lst r3 (q.cut _ _) p3 ha⟩
    · exact p3.elim
  · rename_i xs0
    obtain ⟨l0, vs, rfl, ee, q⟩ := rv3.tup_inv
    refine .inr ⟨l0, vs, rfl, SqT.of ee, ?_⟩
    refine ⟨fun hw => ?_, fun _ a ha => post_tup r3 (q.cut _ _) p3 ha⟩
    have e2 : cutD xs0 l h = xs0 := by
      unfold cutD
      rw [q.length, hw.1, hw.2, List.drop_zero, Nat.sub_zero, ← q.length, List.take_length]
    rw [e2] at p3
    exact p3.here r3 rv3
  · exact p3.elim

/-! ### methods of lists -/
def isL (S : Sto) (x : D) : Bool := (lstOf S x).isSome
def dMeth (f : D → List D → Sto → R D) (da : DenE) (dd : DenA) : DenE := fun τ S => (da τ S).bind fun x S1 => if isL S1 x then (dd τ S1).bind fun xs S2 => f x xs S2 else .bad
def OpM (K : PySem.W.Frag) (c : G) (r : V → List V → Hp → VK → Prop) (f : D → List D → Sto → R D) : Prop := ∀ (H : Hp) (ι : List Addr) (S : Sto) (x : D) (xs : List D) (v : V) (vs : List V) (σ : St) (W : WX) (Q : VK), Rep K c H ι S → RV K H ι x v → RVs K H ι xs vs → PostE K c (RV K) H ι σ W Q (f x xs S) → r v vs H Q
theorem isL_ty {H : Hp} {ι : List Addr} {S : Sto} {x : D} {v : V} (r : Rep K c H ι S) (rv : RV K H ι x v) (h : isL S x = true) : tyV K "list" v H := by
  obtain ⟨xs, e⟩ := Option.isSome_iff_exists.mp h
  obtain ⟨_, l0, vs, e0, rfl, _, _, ee, q⟩ := lstOf_ok r rv e
  exact .inl ⟨rfl, _, SqL.of ee⟩
theorem de_meth {name : Str} {apos cpos : Pos} {id : String} {r : V → List V → Hp → VK → Prop} {f : D → List D → Sto → R D} {dd : DenA} (slot : Slot "list" name id) (hty : typeOf (.builtin id) = pure (.type "method_descriptor")) (hm : ∀ pn xe, MtR (X.tr pn xe) id r) (hf : OpM X.K c r f) (ho : DE c X a da) (ha : DA c X (e :: es) dd)
    (hbase : attributeBase a name X.env (eval a X.env) = eval a X.env := by rfl)
    (hfew : ((backTo cpos (starEach (e :: es) X.env)).all (fun x => !x.1) && (backToKw cpos (keywordEach [] X.env)).all (fun x => x.1.isSome)
      && decide ((e :: es).length + ([] : List Keyword).length + (if ([] : List Keyword).isEmpty then 0 else 1) < 30)) = true := by rfl)
    (hline : (apos.endLine == cpos.line) = true := by rfl) (hs : starEach (e :: es) X.env = (false, eval e X.env) :: starEach es X.env := by rfl) (hplain : (backTo cpos (starEach es X.env)).any (·.1) = false := by rfl) :
    DE c X (.Call (.Attribute a name apos) (e :: es) [] cpos) (dMeth f da dd) := by
  refine ⟨fun pn xe W w => PE.imp (pe_bm PySem.F.plainAttrs_list slot hty (hm pn xe) (ho.run pn xe W w) (ha.run pn xe W w) hbase hfew hline hs hplain) fun σ H Q h => ?_⟩
  obtain ⟨ι, S, τ, rp, re, p⟩ := h
  refine rd_go rp re p fun ι1 H1 S1 x v l1 r1 re1 rv p1 => ?_
  split at p1
  · rename_i hl
    exact ⟨isL_ty r1 rv hl, rd_go r1 re1 p1 fun ι2 H2 S2 xs vs l2 r2 re2 rvs p2 => hf H2 ι2 S2 x xs v vs σ W Q r2 (rv.mono l2) rvs p2⟩
  · exact p1.elim
theorem de_meth0 {name : Str} {apos cpos : Pos} {id : String} {r : V → List V → Hp → VK → Prop} {f : D → List D → Sto → R D} (slot : Slot "list" name id) (hty : typeOf (.builtin id) = pure (.type "method_descriptor")) (hm : ∀ pn xe, MtR (X.tr pn xe) id r) (hf : OpM X.K c r f) (ho : DE c X a da)
    (hbase : attributeBase a name X.env (eval a X.env) = eval a X.env := by rfl) (hline : (apos.endLine == cpos.line) = true := by rfl) :
    DE c X (.Call (.Attribute a name apos) [] [] cpos) (dMeth f da dNil) := by
  refine ⟨fun pn xe W w => PE.imp (pe_bm0 PySem.F.plainAttrs_list slot hty (hm pn xe) (ho.run pn xe W w) hbase hline) fun σ H Q h => ?_⟩
  obtain ⟨ι, S, τ, rp, re, p⟩ := h
  refine rd_go rp re p fun ι1 H1 S1 x v l1 r1 re1 rv p1 => ?_
  split at p1
  · rename_i hl
    exact ⟨isL_ty r1 rv hl, hf H1 ι1 S1 x [] v [] σ W Q r1 rv .nil p1⟩
  · exact p1.elim
/-- the list at n becomes ys -/
def setL (n : Nat) (ys : List D) (S : Sto) : Sto := S.set n (.lst ys)
theorem post_set {H : Hp} {ι : List Addr} {S : Sto} {ys : List D} {vs ws : List V} {σ : St} {W : WX} {Q : VK} {n : Nat} {l : Addr} {d : D} {v : V} (r : Rep K c H ι S) (hn : ι[n]? = some l) (hl : H l = some (.lst vs)) (rw' : RVs K H ι ys ws) (rd : RV K H ι d v) (h : PostE K c (RV K) H ι σ W Q (.ok d (setL n ys S))) : Q v (upd H l (.lst ws)) := by
  have L : Le H ι (upd H l (.lst ws)) ι := .write hl rfl (List.mem_of_getElem? hn)
  exact h ι _ _ L (r.write hn hl rfl ⟨ws, upd_same, rw'.mono L⟩) (rd.mono L)
def mAppend (x : D) (ys : List D) (S : Sto) : R D := match x, ys with
  | .ref n, [y] => match lstOf S (.ref n) with
    | some xs => if xs.length < bigL then .ok .non (setL n (xs ++ [y]) S) else .bad
    | none => .bad
  | _, _ => .bad
theorem opm_append : OpM K c rAppend mAppend := by
  intro H ι S x xs v vs σ W Q r rv rvs p
  unfold mAppend at p
  split at p
  · split at p
    · rename_i hx
      split at p
      · rename_i hlt
        obtain ⟨n, l0, us, e0, rfl, _, hn, ee, q⟩ := lstOf_ok r rv hx
        cases e0
        cases rvs with
        | cons ry rn =>
          cases rn
          exact ⟨l0, us, _, rfl, rfl, ee, by rw [← q.length, ← bigL_eq]; exact hlt, post_set r hn ee (q.append (.one ry)) .non p⟩
      · exact p.elim
    · exact p.elim
  · exact p.elim
theorem de_append {apos cpos : Pos} {dd : DenA} (ho : DE c X a da) (ha : DA c X (e :: es) dd)
    (hbase : attributeBase a "append" X.env (eval a X.env) = eval a X.env := by rfl)
    (hfew : ((backTo cpos (starEach (e :: es) X.env)).all (fun x => !x.1) && (backToKw cpos (keywordEach [] X.env)).all (fun x => x.1.isSome)
      && decide ((e :: es).length + ([] : List Keyword).length + (if ([] : List Keyword).isEmpty then 0 else 1) < 30)) = true := by rfl)
    (hline : (apos.endLine == cpos.line) = true := by rfl) (hs : starEach (e :: es) X.env = (false, eval e X.env) :: starEach es X.env := by rfl) (hplain : (backTo cpos (starEach es X.env)).any (·.1) = false := by rfl) :
    DE c X (.Call (.Attribute a "append" apos) (e :: es) [] cpos) (dMeth mAppend da dd) :=
  de_meth PySem.F.slot_list_append PySem.F.type_list_append (fun _ _ => mt_append) opm_append ho ha hbase hfew hline hs hplain
def mExtend (x : D) (ys : List D) (S : Sto) : R D := match x, ys with
  | .ref n, [.ref m] => match lstOf S (.ref n), lstOf S (.ref m) with
    | some xs, some zs => if xs.length + zs.length ≤ bigL then .ok .non (setL n (xs ++ zs) S) else .bad
    | _, _ => .bad
  | .ref n, [.tup zs] => match lstOf S (.ref n) with
    | some xs => if xs.length + zs.length ≤ bigL then .ok .non (setL n (xs ++ zs) S) else .bad
    | _ => .bad
  | _, _ => .bad
def mPop (x : D) (ys : List D) (S : Sto) : R D := match x, ys with
  | .ref n, [] => match lstOf S (.ref n) with
    | some xs => match xs[xs.length - 1]? with
      | some y => .ok y (setL n xs.dropLast S)
      | none => .bad
    | none => .bad
  | _, _ => .bad
theorem opm_pop : OpM K c rPop mPop := by
  intro H ι S x xs v vs σ W Q r rv rvs p
  unfold mPop at p
  split at p
  · split at p
    · rename_i hx
      split at p
      · rename_i y hy
        obtain ⟨n, l0, us, e0, rfl, _, hn, ee, q⟩ := lstOf_ok r rv hx
        cases e0
        cases rvs
        rw [q.length] at hy
        obtain ⟨w, hw, rw'⟩ := q.get hy
        exact ⟨l0, us, w, rfl, rfl, ee, hw, post_set r hn ee q.dropLast rw' p⟩
      · exact p.elim
    · exact p.elim
  · exact p.elim
theorem de_pop {apos cpos : Pos} (ho : DE c X a da) (hbase : attributeBase a "pop" X.env (eval a X.env) = eval a X.env := by rfl) (hline : (apos.endLine == cpos.line) = true := by rfl) :
    DE c X (.Call (.Attribute a "pop" apos) [] [] cpos) (dMeth mPop da dNil) := de_meth0 PySem.F.slot_list_pop PySem.F.type_list_pop (fun _ _ => mt_pop) opm_pop ho hbase hline
def mPopAt (x : D) (ys : List D) (S : Sto) : R D := match x, ys with
  | .ref n, [.int i] => match lstOf S (.ref n) with
    | some xs => if -1000000000 ≤ i ∧ i ≤ 1000000000 then match seqIndex? i xs.length with
      | some k => match xs[k]? with
        | some y => .ok y (setL n (xs.eraseIdx k) S)
        | none => .bad
      | none => .bad else .bad
    | none => .bad
  | _, _ => .bad
theorem opm_popAt : OpM K c rPopAt mPopAt := by
  intro H ι S x xs v vs σ W Q r rv rvs p
  unfold mPopAt at p
  split at p
  · split at p
    · rename_i hx
      split at p
      · rename_i hb
        split at p
        · rename_i k hk
          split at p
          · rename_i y hy
            obtain ⟨n, l0, us, e0, rfl, _, hn, ee, q⟩ := lstOf_ok r rv hx
            cases e0
            cases rvs with
            | cons ri rn =>
              cases rn
              obtain ⟨w, hw, rw'⟩ := q.get hy
              rw [ri.int_inv]
              rw [q.length] at hk
              exact ⟨l0, us, _, k, w, rfl, rfl, ee, by omega, by omega, hk, hw, post_set r hn ee (q.eraseIdx _) rw' p⟩
          · exact p.elim
        · exact p.elim
      · exact p.elim
    · exact p.elim
  · exact p.elim
theorem de_popAt {apos cpos : Pos} {dd : DenA} (ho : DE c X a da) (ha : DA c X (e :: es) dd)
    (hbase : attributeBase a "pop" X.env (eval a X.env) = eval a X.env := by rfl)
    (hfew : ((backTo cpos (starEach (e :: es) X.env)).all (fun x => !x.1) && (backToKw cpos (keywordEach [] X.env)).all (fun x => x.1.isSome)
      && decide ((e :: es).length + ([] : List Keyword).length + (if ([] : List Keyword).isEmpty then 0 else 1) < 30)) = true := by rfl)
    (hline : (apos.endLine == cpos.line) = true := by rfl) (hs : starEach (e :: es) X.env = (false, eval e X.env) :: starEach es X.env := by rfl) (hplain : (backTo cpos (starEach es X.env)).any (·.1) = false := by rfl) :
    DE c X (.Call (.Attribute a "pop" apos) (e :: es) [] cpos) (dMeth mPopAt da dd) :=
  de_meth PySem.F.slot_list_pop PySem.F.type_list_pop (fun _ _ => mt_popAt) opm_popAt ho ha hbase hfew hline hs hplain
def mReverse (x : D) (ys : List D) (S : Sto) : R D := match x, ys with
  | .ref n, [] => match lstOf S (.ref n) with
    | some xs => .ok .non (setL n xs.reverse S)
    | none => .bad
  | _, _ => .bad
theorem opm_reverse : OpM K c rReverse mReverse := by
  intro H ι S x xs v vs σ W Q r rv rvs p
  unfold mReverse at p
  split at p
  · split at p
    · rename_i hx
      obtain ⟨n, l0, us, e0, rfl, _, hn, ee, q⟩ := lstOf_ok r rv hx
      cases e0
      cases rvs
      exact ⟨l0, us, rfl, rfl, ee, post_set r hn ee q.reverse .non p⟩
    · exact p.elim
  · exact p.elim
theorem de_reverse {apos cpos : Pos} (ho : DE c X a da) (hbase : attributeBase a "reverse" X.env (eval a X.env) = eval a X.env := by rfl) (hline : (apos.endLine == cpos.line) = true := by rfl) :
    DE c X (.Call (.Attribute a "reverse" apos) [] [] cpos) (dMeth mReverse da dNil) := de_meth0 PySem.F.slot_list_reverse PySem.F.type_list_reverse (fun _ _ => mt_reverse) opm_reverse ho hbase hline

/-! ### x.bit_length() -/
abbrev oBits := uop fun i => .int (Builtin.Int.intBits i : Nat)
theorem de_bits {apos : Pos} (ho : DE c X a da) (hbase : attributeBase a "bit_length" X.env (eval a X.env) = eval a X.env := by rfl) (hline : (apos.endLine == pos.line) = true := by rfl) : DE c X (.Call (.Attribute a "bit_length" apos) [] [] pos) (dUn oBits da) :=
  ⟨fun pn xe W w => PE.imp (pe_bits (ho.run pn xe W w) hbase hline) fun σ H Q h => by
    exact rd_one (r := fun x H1 Q => ∃ i, x = .int i ∧ Q (.int (Builtin.Int.intBits i : Nat)) H1) (op1_int fun _ _ _ _ => .int) h⟩

/-! ### built-in functions -/
def fLen (xs : List D) (S : Sto) : R D := match xs with
  | [x] => match seqOf S x with
    | some ys => .ok (.int ys.length) S
    | none => match x with
      | .ref n => match S[n]? with
        | some (.dic kvs) => .ok (.int kvs.length) S
        | _ => .bad
      | _ => .bad
  | _ => .bad
def fLenSeq (xs : List D) (S : Sto) : R D := match xs with
  | [x] => match seqOf S x with
    | some ys => .ok (.int ys.length) S
    | none => .bad
  | _ => .bad
theorem opn_len : OpN K c (fun xs H Q => ∃ p ys, xs = [.ref p] ∧ (SqL K H p ys ∨ SqT K H p ys) ∧ Q (.int ys.length) H) fLenSeq := by
  intro H ι S x v σ W Q r rv p
  unfold fLenSeq at p
  split at p
  · split at p
    · rename_i hs
      cases rv with
      | cons r1 r2 =>
        cases r2
        obtain ⟨l, vs, rfl, hq, q⟩ := seqOf_ok r r1 hs
        exact ⟨l, vs, rfl, hq, by rw [← q.length]; exact p.here r .int⟩
    · exact p.elim
  · exact p.elim
def fInt (xs : List D) (S : Sto) : R D := match xs with
  | [.int i] => .ok (.int i) S
  | [.bl k] => .ok (.int (if k then 1 else 0)) S
  | _ => .bad
theorem opn_int : OpN K c (fun xs H Q => (∃ i, xs = [.int i] ∧ Q (.int i) H) ∨ ∃ k, xs = [.bl k] ∧ Q (.int (if k then 1 else 0)) H) fInt := by
  intro H ι S x v σ W Q r rv p
  unfold fInt at p
  split at p
  · cases rv with | cons r1 r2 => cases r2; rw [r1.int_inv]; exact .inl ⟨_, rfl, p.here r .int⟩
  · cases rv with | cons r1 r2 => cases r2; rw [r1.bl_inv]; exact .inr ⟨_, rfl, p.here r .int⟩
  · exact p.elim
def fAbs (xs : List D) (S : Sto) : R D := match xs with
  | [.int i] => .ok (.int (if i < 0 then -i else i)) S
  | _ => .bad
theorem opn_abs : OpN K c (fun xs H Q => ∃ i, xs = [.int i] ∧ Q (.int (if i < 0 then -i else i)) H) fAbs := by
  intro H ι S x v σ W Q r rv p
  unfold fAbs at p
  split at p
  · cases rv with | cons r1 r2 => cases r2; rw [r1.int_inv]; exact ⟨_, rfl, p.here r .int⟩
  · exact p.elim
def fMax2 (xs : List D) (S : Sto) : R D := match xs with
  | [.int i, .int j] => .ok (.int (if j > i then j else i)) S
  | _ => .bad
def fMin2 (xs : List D) (S : Sto) : R D := match xs with
  | [.int i, .int j] => .ok (.int (if j < i then j else i)) S
  | _ => .bad
theorem opn_max2 : OpN K c (fun xs H Q => ∃ i j, xs = [.int i, .int j] ∧ Q (.int (if j > i then j else i)) H) fMax2 := by
  intro H ι S x v σ W Q r rv p
  unfold fMax2 at p
  split at p
  · cases rv with | cons r1 r2 => cases r2 with | cons r2 r3 => cases r3; rw [r1.int_inv, r2.int_inv]; exact ⟨_, _, rfl, p.here r .int⟩
  · exact p.elim
theorem opn_min2 : OpN K c (fun xs H Q => ∃ i j, xs = [.int i, .int j] ∧ Q (.int (if j < i then j else i)) H) fMin2 := by
  intro H ι S x v σ W Q r rv p
  unfold fMin2 at p
  split at p
  · cases rv with | cons r1 r2 => cases r2 with | cons r2 r3 => cases r3; rw [r1.int_inv, r2.int_inv]; exact ⟨_, _, rfl, p.here r .int⟩
  · exact p.elim
/-- all ints, all bools -/
def intsOf : List D → Option (List Int)
  | [] => some []
  | .int i :: r => (intsOf r).map (i :: ·)
  | _ :: _ => none
def blsOf : List D → Option (List Bool)
  | [] => some []
  | .bl i :: r => (blsOf r).map (i :: ·)
  | _ :: _ => none
@[simp] theorem intsOf_map : ∀ ns : List Int, intsOf (ns.map .int) = some ns
  | [] => rfl
  | n :: r => by simp [intsOf, intsOf_map r]
@[simp] theorem blsOf_map : ∀ ns : List Bool, blsOf (ns.map .bl) = some ns
  | [] => rfl
  | n :: r => by simp [blsOf, blsOf_map r]
theorem intsOf_ok {H : Hp} {ι : List Addr} : ∀ {xs : List D} {vs : List V} {ns : List Int}, RVs K H ι xs vs → intsOf xs = some ns → vs = ns.map V.int
  | [], _, _, .nil, h => by cases h; rfl
  | .int i :: r, _, ns, .cons q s, h => by
    simp only [intsOf, Option.map_eq_some_iff] at h
    obtain ⟨ms, h1, rfl⟩ := h
    rw [q.int_inv, intsOf_ok s h1]; rfl
  | .non :: _, _, _, _, h => by cases h
  | .bl _ :: _, _, _, _, h => by cases h
  | .str _ :: _, _, _, _, h => by cases h
  | .tup _ :: _, _, _, _, h => by cases h
  | .ref _ :: _, _, _, _, h => by cases h
  | .scr _ :: _, _, _, _, h => by cases h
theorem blsOf_ok {H : Hp} {ι : List Addr} : ∀ {xs : List D} {vs : List V} {ns : List Bool}, RVs K H ι xs vs → blsOf xs = some ns → vs = ns.map V.bl
  | [], _, _, .nil, h => by cases h; rfl
  | .bl i :: r, _, ns, .cons q s, h => by
    simp only [blsOf, Option.map_eq_some_iff] at h
    obtain ⟨ms, h1, rfl⟩ := h
    rw [q.bl_inv, blsOf_ok s h1]; rfl
  | .non :: _, _, _, _, h => by cases h
  | .int _ :: _, _, _, _, h => by cases h
  | .str _ :: _, _, _, _, h => by cases h
  | .tup _ :: _, _, _, _, h => by cases h
  | .ref _ :: _, _, _, _, h => by cases h
  | .scr _ :: _, _, _, _, h => by cases h
def onInts (f : List Int → Sto → R D) (xs : List D) (S : Sto) : R D := match xs with
  | [x] => match (lstOf S x).bind intsOf with
    | some ns => f ns S
    | none => .bad
  | _ => .bad
def onBls (f : List Bool → Sto → R D) (xs : List D) (S : Sto) : R D := match xs with
  | [x] => match (lstOf S x).bind blsOf with
    | some ns => f ns S
    | none => .bad
  | _ => .bad
theorem onInts_ok {H : Hp} {ι : List Addr} {S : Sto} {xs : List D} {v : List V} {f : List Int → Sto → R D} {σ : St} {W : WX} {Q : VK} (r : Rep K c H ι S) (rv : RVs K H ι xs v) (p : PostE K c (RV K) H ι σ W Q (onInts f xs S)) :
    ∃ l ns, v = [.ref l] ∧ H l = some (.lst (ns.map V.int)) ∧ PostE K c (RV K) H ι σ W Q (f ns S) := by
  unfold onInts at p
  split at p
  · split at p
    · rename_i hs
      rw [Option.bind_eq_some_iff] at hs
      obtain ⟨ys, h1, h2⟩ := hs
      cases rv with
      | cons r1 r2 =>
        cases r2
        obtain ⟨n, l0, us, e0, rfl, _, hn, ee, q⟩ := lstOf_ok r r1 h1
        rw [intsOf_ok q h2] at ee
        exact ⟨l0, _, rfl, ee, p⟩
    · exact p.elim
  · exact p.elim
theorem onBls_ok {H : Hp} {ι : List Addr} {S : Sto} {xs : List D} {v : List V} {f : List Bool → Sto → R D} {σ : St} {W : WX} {Q : VK} (r : Rep K c H ι S) (rv : RVs K H ι xs v) (p : PostE K c (RV K) H ι σ W Q (onBls f xs S)) :
    ∃ l ns, v = [.ref l] ∧ H l = some (.lst (ns.map V.bl)) ∧ PostE K c (RV K) H ι σ W Q (f ns S) := by
  unfold onBls at p
  split at p
  · split at p
    · rename_i hs
      rw [Option.bind_eq_some_iff] at hs
      obtain ⟨ys, h1, h2⟩ := hs
      cases rv with
      | cons r1 r2 =>
        cases r2
        obtain ⟨n, l0, us, e0, rfl, _, hn, ee, q⟩ := lstOf_ok r r1 h1
        rw [blsOf_ok q h2] at ee
        exact ⟨l0, _, rfl, ee, p⟩
    · exact p.elim
  · exact p.elim
abbrev fSum := onInts fun ns S => .ok (.int ns.sum) S
abbrev fAll := onBls fun bs S => .ok (.bl (bs.all id)) S
abbrev fAny := onBls fun bs S => .ok (.bl (bs.any id)) S
theorem opn_sum : OpN K c (rSum K) fSum := by
  intro H ι S x v σ W Q r rv p
  obtain ⟨l, ns, rfl, e, p⟩ := onInts_ok r rv p
  exact ⟨l, ns, rfl, SqL.of e, p.here r .int⟩
theorem opn_all : OpN K c (rAll K) fAll := by
  intro H ι S x v σ W Q r rv p
  obtain ⟨l, ns, rfl, e, p⟩ := onBls_ok r rv p
  exact ⟨l, ns, rfl, SqL.of e, p.here r .bl⟩
theorem opn_any : OpN K c (rAny K) fAny := by
  intro H ι S x v σ W Q r rv p
  obtain ⟨l, ns, rfl, e, p⟩ := onBls_ok r rv p
  exact ⟨l, ns, rfl, SqL.of e, p.here r .bl⟩
def maxL : List Int → Int
  | [] => 0
  | [x] => x
  | x :: y :: r => if maxL (y :: r) > x then maxL (y :: r) else x
def minL : List Int → Int
  | [] => 0
  | [x] => x
  | x :: y :: r => if minL (y :: r) < x then minL (y :: r) else x
theorem maxL_mem : ∀ {ns : List Int}, 0 < ns.length → maxL ns ∈ ns ∧ ∀ y ∈ ns, y ≤ maxL ns
  | [], h => by simp at h
  | [x], _ => by simp [maxL]
  | x :: y :: r, _ => by
    obtain ⟨h1, h2⟩ := maxL_mem (ns := y :: r) (by simp)
    simp only [maxL]
    split
    · refine ⟨List.mem_cons_of_mem _ h1, fun z hz => ?_⟩
      rcases List.mem_cons.mp hz with rfl | hz
      · omega
      · exact h2 z hz
    · refine ⟨List.mem_cons_self, fun z hz => ?_⟩
      rcases List.mem_cons.mp hz with rfl | hz
      · omega
      · have := h2 z hz; omega
theorem minL_mem : ∀ {ns : List Int}, 0 < ns.length → minL ns ∈ ns ∧ ∀ y ∈ ns, minL ns ≤ y
  | [], h => by simp at h
  | [x], _ => by simp [minL]
  | x :: y :: r, _ => by
    obtain ⟨h1, h2⟩ := minL_mem (ns := y :: r) (by simp)
    simp only [minL]
    split
    · refine ⟨List.mem_cons_of_mem _ h1, fun z hz => ?_⟩
      rcases List.mem_cons.mp hz with rfl | hz
      · omega
      · exact h2 z hz
    · refine ⟨List.mem_cons_self, fun z hz => ?_⟩
      rcases List.mem_cons.mp hz with rfl | hz
      · omega
      · have := h2 z hz; omega
def fMax := onInts fun ns S => if 0 < ns.length then .ok (.int (maxL ns)) S else .bad
def fMin := onInts fun ns S => if 0 < ns.length then .ok (.int (minL ns)) S else .bad
theorem opn_max : OpN K c (rMax K) fMax := by
  intro H ι S x v σ W Q r rv p
  obtain ⟨l, ns, rfl, e, p⟩ := onInts_ok r rv p
  split at p
  · rename_i h
    obtain ⟨h1, h2⟩ := maxL_mem h
    refine ⟨l, ns, rfl, SqL.of e, h, fun m hm hy => ?_⟩
    have e : m = maxL ns := Int.le_antisymm (h2 m hm) (hy _ h1)
    subst e
    exact p.here r .int
  · exact p.elim
theorem opn_min : OpN K c (rMin K) fMin := by
  intro H ι S x v σ W Q r rv p
  obtain ⟨l, ns, rfl, e, p⟩ := onInts_ok r rv p
  split at p
  · rename_i h
    obtain ⟨h1, h2⟩ := minL_mem h
    refine ⟨l, ns, rfl, SqL.of e, h, fun m hm hy => ?_⟩
    have e : m = minL ns := Int.le_antisymm (hy _ h1) (h2 m hm)
    subst e
    exact p.here r .int
  · exact p.elim
/-- sorted, upwards -/
def ins1 (x : Int) : List Int → List Int
  | [] => [x]
  | y :: r => if x ≤ y then x :: y :: r else y :: ins1 x r
def isort : List Int → List Int
  | [] => []
  | x :: r => ins1 x (isort r)
theorem ins1_perm (x : Int) : ∀ ys, (ins1 x ys).Perm (x :: ys)
  | [] => .refl _
  | y :: r => by
    simp only [ins1]; split
    · exact .refl _
    · exact (List.Perm.cons y (ins1_perm x r)).trans (List.Perm.swap x y r)
theorem isort_perm : ∀ ys, (isort ys).Perm ys
  | [] => .refl _
  | x :: r => (ins1_perm x _).trans ((isort_perm r).cons x)
theorem ins1_sorted (x : Int) : ∀ {ys : List Int}, ys.Pairwise (· ≤ ·) → (ins1 x ys).Pairwise (· ≤ ·)
  | [], _ => by simp [ins1]
  | y :: r, h => by
    simp only [ins1]; split
    · rename_i hxy
      refine List.pairwise_cons.mpr ⟨fun z hz => ?_, h⟩
      rcases List.mem_cons.mp hz with rfl | hz
      · exact hxy
      · exact Int.le_trans hxy ((List.pairwise_cons.mp h).1 z hz)
    · rename_i hxy
      refine List.pairwise_cons.mpr ⟨fun z hz => ?_, ins1_sorted x (List.pairwise_cons.mp h).2⟩
      have hz' := (ins1_perm x r).mem_iff.mp hz
      rcases List.mem_cons.mp hz' with rfl | hz'
      · omega
      · exact (List.pairwise_cons.mp h).1 z hz'
theorem isort_sorted : ∀ ys : List Int, (isort ys).Pairwise (· ≤ ·)
  | [] => .nil
  | x :: r => ins1_sorted x (isort_sorted r)
theorem sorted_one {xs ys : List Int} (h1 : xs.Perm ys) (h2 : xs.Pairwise (· ≤ ·)) (h3 : ys.Pairwise (· ≤ ·)) : xs = ys := List.Perm.eq_of_pairwise (fun a b _ _ h h' => Int.le_antisymm h h') h2 h3 h1
def fSortedI := onInts fun ns S => newL ((isort ns).map .int) S
theorem opn_sortedI : OpN K c (rSortedI K) fSortedI := by
  intro H ι S x v σ W Q r rv p
  obtain ⟨l, ns, rfl, e, p⟩ := onInts_ok r rv p
  refine ⟨l, ns, rfl, SqL.of e, fun ns' a h1 h2 ha => ?_⟩
  have e : ns' = isort ns := sorted_one (h1.trans (isort_perm ns).symm) h2 (isort_sorted ns)
  subst e
  exact post_lst r (rvs_ints _ _ _) p ha
/-- list(xs), tuple(xs) -/
def fList (xs : List D) (S : Sto) : R D := match xs with
  | [x] => match seqOf S x with
    | some ys => newL ys S
    | none => .bad
  | _ => .bad
def fTuple (xs : List D) (S : Sto) : R D := match xs with
  | [x] => match lstOf S x with
    | some ys => .ok (.tup ys) S
    | none => match x with
      | .tup ys => .ok (.tup ys) S
      | _ => .bad
  | _ => .bad
theorem opn_list : OpN K c (fun xs H Q => ∃ p ys, xs = [.ref p] ∧ (SqL K H p ys ∨ SqT K H p ys) ∧ ∀ l, H l = none → Q (.ref l) (upd H l (.lst ys))) fList := by
  intro H ι S x v σ W Q r rv p
  unfold fList at p
  split at p
  · split at p
    · rename_i hs
      cases rv with
      | cons r1 r2 =>
        cases r2
        obtain ⟨l, vs, rfl, hq, q⟩ := seqOf_ok r r1 hs
        exact ⟨l, vs, rfl, hq, fun a ha => post_lst r q p ha⟩
    · exact p.elim
  · exact p.elim
theorem opn_tuple : OpN K c (fun xs H Q => ∃ p ys, xs = [.ref p] ∧ ((SqL K H p ys ∧ ∀ l, H l = none → Q (.ref l) (upd H l (.tup ys))) ∨ (SqT K H p ys ∧ Q (.ref p) H))) fTuple := by
  intro H ι S x v σ W Q r rv p
  unfold fTuple at p
  split at p
  · split at p
    · rename_i hs
      cases rv with
      | cons r1 r2 =>
        cases r2
        obtain ⟨n, l0, us, e0, rfl, _, hn, ee, q⟩ := lstOf_ok r r1 hs
        exact ⟨l0, us, rfl, .inl ⟨SqL.of ee, fun a ha => post_tup r q p ha⟩⟩
    · split at p
      · cases rv with
        | cons r1 r2 =>
          cases r2
          obtain ⟨l, vs, rfl, ee, q⟩ := r1.tup_inv
          exact ⟨l, vs, rfl, .inr ⟨SqT.of ee, p.here r r1⟩⟩
      · exact p.elim
  · exact p.elim
/-! ### isinstance of built-in types -/
def tyD (S : Sto) (x : D) : Option String := match x with
  | .non => some "NoneType"
  | .bl _ => some "bool"
  | .int _ => some "int"
  | .str _ => some "str"
  | .tup _ => some "tuple"
  | .scr _ => none
  | .ref n => match S[n]? with
    | some (.lst _) => some "list"
    | some (.dic _) => some "dict"
    | _ => none
def isB (t u : String) : Bool := t == u || (t == "bool" && u == "int")
def tyNames : List String := ["NoneType", "bool", "int", "str", "tuple", "list", "dict"]
def clNames : List String := ["int", "bool", "str", "tuple", "list"]
theorem kitB_isB : ∀ t ∈ tyNames, ∀ u ∈ clNames, kitB t u = some (isB t u) := by decide +kernel
theorem tyD_ok {H : Hp} {ι : List Addr} {S : Sto} {x : D} {v : V} {t : String} (r : Rep K c H ι S) (rv : RV K H ι x v) (h : tyD S x = some t) : TyX K H v (.type t) ∧ t ∈ tyNames := by
  unfold tyD at h
  split at h
  · cases h; rw [rv.non_inv]; exact ⟨.base .non, by decide⟩
  · cases h; rw [rv.bl_inv]; exact ⟨.base (.bl _), by decide⟩
  · cases h; rw [rv.int_inv]; exact ⟨.base (.int _), by decide⟩
  · cases h; rw [rv.str_inv]; exact ⟨.base (.str _), by decide⟩
  · cases h; obtain ⟨l, vs, rfl, e, q⟩ := rv.tup_inv; exact ⟨.base (.tup e), by decide⟩
  · cases h
  · obtain ⟨l, rfl, hn⟩ := rv.ref_inv
    split at h
    · rename_i hs; cases h; obtain ⟨vs, e, q⟩ := r.obj _ _ l hs hn; exact ⟨.base (.lst e), by decide⟩
    · rename_i hs; cases h; obtain ⟨vs, e, q⟩ := r.obj _ _ l hs hn; exact ⟨.base (.dK e), by decide⟩
    · cases h
def fIsi (us : List String) (x : D) (S : Sto) : R D := match tyD S x with
  | some t => if us.all (fun u => clNames.contains u) then .ok (.bl (us.any (isB t))) S else .bad
  | none => .bad
def tTyA : List String → TA
  | us => fun _ H Q => Q (us.map V.ty) H
theorem de_isi1 {p p1 : Pos} {u : Str} {u' : String} (ha : DE c X a da) (hi : X.mg "isinstance" = none) (hu : X.mg u = none) (hv : bootBuiltins u = some (.type u')) (hg : Gl X "isinstance" := by rfl) (hgu : Gl X u := by rfl) (hn : u ≠ "__name__" := by decide) (hd : (u == ("__debug__" : Str)) = false := by decide)
    (h1 : starEach [a, .Name u p1] X.env = (false, eval a X.env) :: starEach [.Name u p1] X.env := by rfl) (h2 : starEach [.Name u p1] X.env = (false, eval (.Name u p1) X.env) :: starEach [] X.env := by rfl) (hpl : (backTo pos (starEach [.Name u p1] X.env)).any (·.1) = false := by rfl) :
    DE c X (.Call (.Name "isinstance" p) [a, .Name u p1] [] pos) (dUn (fIsi [u']) da) := by
  refine ⟨fun pn xe W w => PE.imp (pe_callB call_isi hg hi (by decide +kernel) (pa_cons (ha.run pn xe W w) (pa_cons (pe_bltn (X := X.tr pn xe) (v := .ty u') hgu hu hv rfl hn hd) pa_nil h2) h1) (by decide) (by decide) h1 hpl) fun σ H Q h => ?_⟩
  refine rd_one (r := fun x H1 Q => rIsi X.K [x, .ty u'] H1 Q) (fun H ι S x v σ W Q r rv p => ?_) h
  unfold fIsi at p
  split at p
  · rename_i t ht
    split at p
    · rename_i hc
      obtain ⟨ty, hm⟩ := tyD_ok r rv ht
      have hk := kitB_isB t hm u' (by simpa using hc)
      exact ⟨v, .ty u', _, _, _, rfl, .ty u', ty, kit_ty hk, by simpa using p.here r .bl⟩
    · exact p.elim
  · exact p.elim
theorem de_isi2 {p p1 p2 p3 : Pos} {x1} {u w : Str} {u' w' : String} (ha : DE c X a da) (hi : X.mg "isinstance" = none) (hu : X.mg u = none) (hw : X.mg w = none) (hv : bootBuiltins u = some (.type u')) (hvw : bootBuiltins w = some (.type w')) (hg : Gl X "isinstance" := by rfl) (hgu : Gl X u := by rfl) (hgw : Gl X w := by rfl) (hn : u ≠ "__name__" := by decide) (hd : (u == ("__debug__" : Str)) = false := by decide) (hnw : w ≠ "__name__" := by decide) (hdw : (w == ("__debug__" : Str)) = false := by decide)
    (h1 : starEach [a, .Tuple [.Name u p1, .Name w p2] x1 p3] X.env = (false, eval a X.env) :: starEach [.Tuple [.Name u p1, .Name w p2] x1 p3] X.env := by rfl) (h2 : starEach [.Tuple [.Name u p1, .Name w p2] x1 p3] X.env = (false, eval (.Tuple [.Name u p1, .Name w p2] x1 p3) X.env) :: starEach [] X.env := by rfl)
    (h3 : starEach [.Name u p1, .Name w p2] X.env = (false, eval (.Name u p1) X.env) :: starEach [.Name w p2] X.env := by rfl) (h4 : starEach [.Name w p2] X.env = (false, eval (.Name w p2) X.env) :: starEach [] X.env := by rfl)
    (hpl : (backTo pos (starEach [.Tuple [.Name u p1, .Name w p2] x1 p3] X.env)).any (·.1) = false := by rfl) :
    DE c X (.Call (.Name "isinstance" p) [a, .Tuple [.Name u p1, .Name w p2] x1 p3] [] pos) (dUn (fIsi [u', w']) da) := by
  refine ⟨fun pn xe W w0 => PE.imp (pe_callB call_isiT hg hi (by decide +kernel) (pa_cons (ha.run pn xe W w0) (pa_cons (pe_tup (pa_cons (pe_bltn (X := X.tr pn xe) (v := .ty u') hgu hu hv rfl hn hd) (pa_cons (pe_bltn (X := X.tr pn xe) (v := .ty w') hgw hw hvw rfl hnw hdw) pa_nil h4) h3)) pa_nil h2) h1) (by decide) (by decide) h1 hpl) fun σ H Q h => ?_⟩
  refine rd_one (r := fun x H1 Q => 2 ≤ sizeLine ∧ ∀ p, H1 p = none → rIsiT X.K [x, .ref p] (upd H1 p (.tup [.ty u', .ty w'])) Q) (fun H ι S x v σ W Q r rv p => ?_) h
  unfold fIsi at p
  split at p
  · rename_i t ht
    split at p
    · rename_i hc
      obtain ⟨ty, hm⟩ := tyD_ok r rv ht
      have hc' : u' ∈ clNames ∧ w' ∈ clNames := by simpa using hc
      have hk := kitB_isB t hm u' hc'.1
      have hk' := kitB_isB t hm w' hc'.2
      refine ⟨by rw [sizeLine_eq]; decide, fun q hq => ?_⟩
      have L : Le H ι (upd H q (.tup [.ty u', .ty w'])) ι := .new hq
      obtain ⟨ty2, _⟩ := tyD_ok (r.new (u := .tup [.ty u', .ty w']) hq) (rv.mono L) ht
      refine ⟨v, q, [.ty u', .ty w'], _, [.type u', .type w'], _, rfl, upd_same, .cons (.ty _) (.cons (.ty _) .nil), ty2, ?_, p ι _ _ L (r.new hq) .bl⟩
      refine kitAny_cons (kit_ty hk) (fun h => ?_) fun h => ?_
      · have e3 : [u', w'].any (isB t) = isB t w' := by simp [h]
        rw [e3]
        exact kitAny_cons (kit_ty hk') (fun h2 => by rw [h2]; exact kitAny_nil) fun h2 => h2
      · simp [h]
    · exact p.elim
  · exact p.elim
end
end DL

set_option Elab.async false
set_option linter.all false
set_option maxRecDepth 100000
set_option maxHeartbeats 4000000
namespace DL
open PySem L2

def R.go {α : Type} (r : R α) (τ : Env) (k : α → Sto → Rs) : Rs := match r with
  | .ok x S => k x S
  | .ex e S => .ex e τ S
  | .bad => .bad
@[simp] theorem R.go_ok {α : Type} (x : α) (S : Sto) (τ : Env) (f : α → Sto → Rs) : R.go (.ok x S) τ f = f x S := rfl
@[simp] theorem R.go_ex {α : Type} (e : Exc) (S : Sto) (τ : Env) (f : α → Sto → Rs) : R.go (.ex e S) τ f = .ex e τ S := rfl
@[simp] theorem R.go_bad {α : Type} (τ : Env) (f : α → Sto → Rs) : R.go .bad τ f = .bad := rfl
section
variable {K : PySem.W.Frag} {cls : G} {H H' : Hp} {ι ι' : List Addr} {S : Sto} {σ : St} {W : WX}
theorem rds_go {α α' : Type} {rel : Hp → List Addr → α → α' → Prop} {d : DL.Env → Sto → R α} {τ : DL.Env} {f : α → Sto → Rs} {E : Ends} {Q' : α' → Hp → Prop}
    (r : Rep K cls H ι S) (re : RE K cls H ι τ σ) (p : PostS K cls H ι W E ((d τ S).go τ f))
    (k : ∀ ι1 H1 S1 x v, Le H ι H1 ι1 → Rep K cls H1 ι1 S1 → RE K cls H1 ι1 τ σ → rel H1 ι1 x v → PostS K cls H1 ι1 W E (f x S1) → Q' v H1) : rd K cls rel d W σ H Q' := by
  refine ⟨ι, S, τ, r, re, ?_⟩
  cases q : d τ S with
  | ok x S1 =>
    rw [q] at p
    exact fun ι1 H1 v l r1 rv => k ι1 H1 S1 x v l r1 (re.mono l) rv (PostS.le l p)
  | ex x S1 => rw [q] at p; exact fun ι1 H1 c od l r1 rx => p ι1 H1 σ c od l r1 (re.mono l) rx
  | bad => rw [q] at p; exact p
theorem PostS.nxt {E : Ends} {τ : DL.Env} (p : PostS K cls H ι W E (.nx τ S)) (r : Rep K cls H ι S) (re : RE K cls H ι τ σ) : E.nx σ H := p ι H σ .refl r re
end

section
variable {c : G} {X : Cx} {st : Stmt} {rest : List Stmt} {e a b : Expr} {es : List Expr} {da db : DenE} {d d' : DenS} {pos : Pos}
/-! ### blocks, small statements -/
def sNil : DenS := fun τ S => .nx τ S
def sSeq (d d' : DenS) : DenS := fun τ S => match d τ S with
  | .nx τ1 S1 => d' τ1 S1
  | r => r
theorem dss_nil : DSs c X [] sNil := ⟨fun pn xe W w => PSs.imp pss_nil fun E σ H h => let ⟨ι, S, τ, rp, re, p⟩ := h; p.nxt rp re⟩
theorem dss_cons (h1 : DS c X st d) (h2 : DSs c X rest d') : DSs c X (st :: rest) (sSeq d d') := by
  refine ⟨fun pn xe W w => PSs.imp (pss_cons (h1.run pn xe W w) (h2.run pn xe W w)) fun E σ H h => ?_⟩
  obtain ⟨ι, S, τ, rp, re, p⟩ := h
  refine ⟨ι, S, τ, rp, re, ?_⟩
  unfold sSeq at p
  cases q : d τ S with
  | nx τ1 S1 => rw [q] at p; exact fun ι1 H1 σ1 l r1 re1 => ⟨ι1, S1, τ1, r1, re1, PostS.le l p⟩
  | rt x S1 => rw [q] at p; exact p
  | bk x S1 => rw [q] at p; exact p
  | ct x S1 => rw [q] at p; exact p
  | ex x y S1 => rw [q] at p; exact p
  | bad => rw [q] at p; exact p
theorem dss_one (h1 : DS c X st d) : DSs c X [st] d := by
  refine ⟨fun pn xe W w => ?_⟩
  have h := (dss_cons h1 dss_nil).run pn xe W w
  refine PSs.imp h fun E σ H h => ?_
  obtain ⟨ι, S, τ, rp, re, p⟩ := h
  refine ⟨ι, S, τ, rp, re, ?_⟩
  show PostS _ _ _ _ _ _ (sSeq d sNil τ S)
  unfold sSeq sNil
  cases q : d τ S <;> rw [q] at p <;> exact p
/-- code that is not reached -/
def sBad : DenS := fun _ _ => .bad
theorem rd_bad {α : Type} {K : PySem.W.Frag} {E : Ends} {σ : St} {H : Hp} {W : WX} : ¬ rdS K c sBad W E σ H := fun ⟨_, _, _, _, _, p⟩ => p
theorem ds_dead : DS c X st sBad := ⟨fun pn xe W w => ⟨fun _ _ _ _ _ _ ⟨_, _, _, _, _, p⟩ => (show False from p).elim⟩⟩
theorem dss_dead : DSs c X rest sBad := ⟨fun pn xe W w => ⟨fun _ _ _ _ _ _ ⟨_, _, _, _, _, p⟩ => (show False from p).elim⟩⟩
def eBad : DenE := fun _ _ => .bad
theorem de_dead : DE c X e eBad := ⟨fun pn xe W w => ⟨fun _ _ _ _ _ _ ⟨_, _, _, _, _, p⟩ => (show False from p).elim⟩⟩
theorem ds_pass : DS c X (.Pass pos) sNil := ⟨fun pn xe W w => PS.imp ps_pass fun E σ H h => let ⟨ι, S, τ, rp, re, p⟩ := h; p.nxt rp re⟩
def sBrk : DenS := fun τ S => .bk τ S
def sCnt : DenS := fun τ S => .ct τ S
theorem ds_break : DS c X (.Break pos) sBrk := ⟨fun pn xe W w => PS.imp ps_break fun E σ H h => let ⟨ι, S, τ, rp, re, p⟩ := h; p ι H σ .refl rp re⟩
theorem ds_continue : DS c X (.Continue pos) sCnt := ⟨fun pn xe W w => PS.imp ps_continue fun E σ H h => let ⟨ι, S, τ, rp, re, p⟩ := h; p ι H σ .refl rp re⟩
def sExpr (da : DenE) : DenS := fun τ S => (da τ S).go τ fun _ S1 => .nx τ S1
theorem ds_expr (he : DE c X e da) (hs : swapsWith e none pos.line X.env = pure false := by rfl) : DS c X (.Expr e pos) (sExpr da) :=
  ⟨fun pn xe W w => PS.imp (ps_expr (he.run pn xe W w) hs) fun E σ H h => let ⟨ι, S, τ, rp, re, p⟩ := h; rds_go rp re p fun ι1 H1 S1 x v l r1 re1 rv p1 => p1.nxt r1 re1⟩
def sRet (da : DenE) : DenS := fun τ S => (da τ S).go τ fun x S1 => .rt x S1
theorem ds_ret (he : DE c X e da) : DS c X (.Return (some e) pos) (sRet da) :=
  ⟨fun pn xe W w => PS.imp (ps_ret (he.run pn xe W w)) fun E σ H h => let ⟨ι, S, τ, rp, re, p⟩ := h; rds_go rp re p fun ι1 H1 S1 x v l r1 re1 rv p1 => p1 ι1 H1 v .refl r1 rv⟩
def sRetN : DenS := fun _ S => .rt .non S
theorem ds_retN : DS c X (.Return none pos) sRetN := ⟨fun pn xe W w => PS.imp ps_retN fun E σ H h => let ⟨ι, S, τ, rp, re, p⟩ := h; p ι H _ .refl rp .non⟩
def sIf (t : DenT) (d d' : DenS) : DenS := fun τ S => (t τ S).go τ fun b S1 => if b = true then d τ S1 else d' τ S1
theorem ds_if {t : DenT} {sa sb : List Stmt} (ht : DT c X e t) (ha : DSs c X sa d) (hb : DSs c X sb d') : DS c X (.If e sa sb pos) (sIf t d d') := by
  refine ⟨fun pn xe W w => PS.imp (ps_if (ht.run pn xe W w) (ha.run pn xe W w) (hb.run pn xe W w)) fun E σ H h => ?_⟩
  obtain ⟨ι, S, τ, rp, re, p⟩ := h
  refine rds_go rp re p fun ι1 H1 S1 x v l r1 re1 rv p1 => ?_
  subst rv
  cases x with
  | true => exact ⟨ι1, S1, τ, r1, re1, p1⟩
  | false => exact ⟨ι1, S1, τ, r1, re1, p1⟩

/-! ### targets -/
theorem wipe_get (σ : St) : ∀ (vs : List Nat) (j : Nat), (wipe σ vs)[j]? = if j ∈ vs ∧ j < σ.length then some none else σ[j]?
  | [], j => by simp [wipe]
  | v :: vs, j => by
    unfold wipe
    by_cases e : v = j
    · subst e
      by_cases hl : v < σ.length
      · rw [List.getElem?_set_self (by rw [wipe_length]; exact hl)]; simp [hl]
      · rw [List.getElem?_eq_none (by rw [List.length_set, wipe_length]; omega), List.getElem?_eq_none (l := σ) (by omega)]; simp [hl]
    · rw [List.getElem?_set_ne e, wipe_get σ vs j]
      have e' : j ≠ v := fun z => e z.symm
      simp [e']
theorem wipe_set {σ : St} {i : Nat} {x : Option V} {vs : List Nat} (h : i ∈ vs) : wipe (σ.set i x) vs = wipe σ vs := by
  refine List.ext_getElem? fun j => ?_
  rw [wipe_get, wipe_get, List.length_set]
  by_cases e : i = j
  · subst e
    by_cases hl : i < σ.length
    · simp [h, hl]
    · simp only [hl, and_false, if_false]
      rw [List.getElem?_eq_none (by rw [List.length_set]; omega), List.getElem?_eq_none (by omega)]
  · rw [List.getElem?_set_ne e]
abbrev DenG := D → DL.Env → Option DL.Env
abbrev DenGs := List D → DL.Env → Option DL.Env
structure DG (c : G) (X : Cx) (tg : Expr) (sl : List Nat) (g : TG) (d : DenG) : Prop where
  pg : ∀ pn xe, PG (X.tr pn xe) tg g
  ok : ∀ (x : D) (v : V) (τ τ' : DL.Env) (σ : St) (H : Hp) (ι : List Addr) (Q : St → Hp → Prop), RV X.K H ι x v → RE X.K c H ι τ σ → d x τ = some τ' →
    (∀ σ', RE X.K c H ι τ' σ' → (∀ vs : List Nat, (∀ j ∈ sl, j ∈ vs) → wipe σ' vs = wipe σ vs) → Q σ' H) → g v σ H Q
structure DGs (c : G) (X : Cx) (tg : List Expr) (sl : List Nat) (g : TGs) (d : DenGs) : Prop where
  pg : ∀ pn xe, PGs (X.tr pn xe) tg g
  ok : ∀ (x : List D) (v : List V) (τ τ' : DL.Env) (σ : St) (H : Hp) (ι : List Addr) (Q : St → Hp → Prop), RVs X.K H ι x v → RE X.K c H ι τ σ → d x τ = some τ' →
    (∀ σ', RE X.K c H ι τ' σ' → (∀ vs : List Nat, (∀ j ∈ sl, j ∈ vs) → wipe σ' vs = wipe σ vs) → Q σ' H) → g v σ H Q
def gN (i : Nat) : DenG := fun x τ => some (τ.set i (some x))
def gsNil : DenGs := fun xs τ => match xs with | [] => some τ | _ => none
def gsCons (g : DenG) (r : DenGs) : DenGs := fun xs τ => match xs with
  | x :: xs => (g x τ).bind (r xs)
  | [] => none
def gTupD (r : DenGs) : DenG := fun x τ => match x with
  | .tup xs => r xs τ
  | _ => none
theorem dg_name (i : Nat) {x : Str} (hN : X.N.Nodup) (hi : X.N[i]? = some x := by rfl) (hx : Loc X.env.scope x := by first | exact Or.inl rfl | exact Or.inr rfl) (hf : X.fn x = true ∨ X.env.scope.names.lookup x = some .local := by first | exact .inl rfl | exact .inr rfl) (hc : c.free i := by first | (intro x h; cases h; done) | (intro x h; cases h; dsimp only; decide)) : DG c X (.Name x pos) [i] (gName i) (gN i) :=
  ⟨fun pn xe => pg_name (X := X.tr pn xe) hN hi hx hf, fun x v τ τ' σ H ι Q rv re hd k => by
    cases hd
    exact k _ (re.set i rv hc) fun vs hv => wipe_set (hv i (by simp))⟩
theorem dgs_nil : DGs c X [] [] gNil gsNil := ⟨fun pn xe => pgs_nil, fun x v τ τ' σ H ι Q rv re hd k => by
  cases rv with
  | nil => cases hd; exact ⟨rfl, k σ re fun _ _ => rfl⟩
  | cons r s => cases hd⟩
theorem dgs_cons {s1 s2 : List Nat} {g1 : TG} {g2 : TGs} {g : DenG} {r : DenGs} (h1 : DG c X e s1 g1 g) (h2 : DGs c X es s2 g2 r)
    (hs : ∀ pn xe (g : TG) (gs : TGs), PG (X.tr pn xe) e g → PGs (X.tr pn xe) es gs → PGs (X.tr pn xe) (e :: es) (gCons g gs) := by exact fun _ _ _ _ a b => pgs_cons a b) : DGs c X (e :: es) (s1 ++ s2) (gCons g1 g2) (gsCons g r) := by
  refine ⟨fun pn xe => hs pn xe _ _ (h1.pg pn xe) (h2.pg pn xe), fun x v τ τ' σ H ι Q rv re hd k => ?_⟩
  cases rv with
  | nil => cases hd
  | @cons y w ys ws r1 r2 =>
    have hd : (g y τ).bind (r ys) = some τ' := hd
    rw [Option.bind_eq_some_iff] at hd
    obtain ⟨τ1, e1, e2⟩ := hd
    refine ⟨w, ws, rfl, h1.ok y w τ τ1 σ H ι _ r1 re e1 fun σ1 re1 w1 => h2.ok ys ws τ1 τ' σ1 H ι Q r2 re1 e2 fun σ2 re2 w2 => k σ2 re2 fun vs hv => ?_⟩
    rw [w2 vs fun j hj => hv j (List.mem_append_right _ hj), w1 vs fun j hj => hv j (List.mem_append_left _ hj)]
theorem dgs_len : ∀ {es : List Expr} {sl : List Nat} {r : DenGs}, True := trivial
/-- a, b = a tuple -/
theorem dg_tup {sl : List Nat} {gs : TGs} {r : DenGs} {n : Nat} {k0 : Nat} (hc : X.calm = true) (h : DGs c X es sl gs r) (hn : (assignEach es X.env).length = n := by rfl) (hst : (assignEach es X.env).findIdx? (·.1) = none := by rfl) :
    DG c X (.Tuple es k0 pos) sl (gTup X.K n gs) (fun x τ => match x with | .tup xs => if xs.length = n then r xs τ else none | _ => none) := by
  refine ⟨fun pn xe => pg_tup (X := X.tr pn xe) hc (h.pg pn xe) hn hst, fun x v τ τ' σ H ι Q rv re hd kk => ?_⟩
  cases x with
  | tup xs =>
    obtain ⟨a, vs, rfl, ea, q⟩ := rv.tup_inv
    dsimp only at hd
    split at hd
    · rename_i hl
      exact ⟨a, vs, rfl, SqT.of ea, by rw [← q.length]; exact hl, h.ok xs vs τ τ' σ H ι Q q re hd kk⟩
    · cases hd
  | _ => cases hd
def gT (n : Nat) (r : DenGs) : DenG := fun x τ => match x with | .tup xs => if xs.length = n then r xs τ else none | _ => none
/-- name = e -/
def sSet (i : Nat) (da : DenE) : DenS := fun τ S => (da τ S).go τ fun x S1 => .nx (τ.set i (some x)) S1
theorem ds_set (i : Nat) {x : Str} {p' : Pos} (hN : X.N.Nodup) (he : DE c X e da) (hi : X.N[i]? = some x := by rfl) (hx : Loc X.env.scope x := by first | exact Or.inl rfl | exact Or.inr rfl) (hs : swapsWith e (some (.Name x p')) pos.line X.env = pure false := by rfl) (hf : X.fn x = true ∨ X.env.scope.names.lookup x = some .local := by first | exact .inl rfl | exact .inr rfl)
    (hc : c.free i := by first | (intro x h; cases h; done) | (intro x h; cases h; dsimp only; decide)) : DS c X (.Assign [.Name x p'] e pos) (sSet i da) := by
  refine ⟨fun pn xe W w => PS.imp (ps_set (X := X.tr pn xe) hN hi hx (he.run pn xe W w) hs hf) fun E σ H h => ?_⟩
  obtain ⟨ι, S, τ, rp, re, p⟩ := h
  exact rds_go rp re p fun ι1 H1 S1 x v l r1 re1 rv p1 => p1.nxt r1 (re1.set i rv hc)
def oGo (o : Option DL.Env) (S : Sto) : Rs := match o with
  | some τ => .nx τ S
  | none => .bad
/-- target = e -/
def sAsg (g : DenG) (da : DenE) : DenS := fun τ S => (da τ S).go τ fun x S1 => oGo (g x τ) S1
theorem ds_asg {tg : Expr} {sl : List Nat} {g1 : TG} {g : DenG} (hg : DG c X tg sl g1 g) (he : DE c X e da) (hs : swapsWithSole [tg] e pos.line X.env = pure false := by rfl) (hw : swappedStores [tg] e X.env = pure none := by rfl)
    (h1 : (assignEach [tg] X.env).map (·.2) = [assign tg X.env] := by rfl) : DS c X (.Assign [tg] e pos) (sAsg g da) := by
  refine ⟨fun pn xe W w => ?_⟩
  refine PS.imp (ps_asg (X := X.tr pn xe) (he.run pn xe W w) (hg.pg pn xe) hs hw h1) fun E σ H h => ?_
  obtain ⟨ι, S, τ, rp, re, p⟩ := h
  refine rds_go rp re p fun ι1 H1 S1 x v l r1 re1 rv p1 => ?_
  cases q : g x τ with
  | none => rw [q] at p1; exact p1.elim
  | some τ' =>
    rw [q] at p1
    exact hg.ok x v τ τ' σ H1 ι1 _ rv re1 q fun σ' re' _ => PostS.nxt p1 r1 re'
/-- a, b = x, y -/
def sPar (i j : Nat) (da db : DenE) : DenS := fun τ S => (da τ S).go τ fun x S1 => (db τ S1).go τ fun y S2 => .nx ((τ.set i (some x)).set j (some y)) S2
theorem ds_par (i j : Nat) {x y : Str} {px py pt : Pos} {kt k2 pt2} (hc : X.calm = true) (hN : X.N.Nodup) (ha : DE c X a da) (hb : DE c X b db) (hi : X.N[i]? = some x := by rfl) (hj : X.N[j]? = some y := by rfl) (hij : i ≠ j := by decide)
    (hx : X.env.scope.names.lookup x = some .local := by rfl) (hy : X.env.scope.names.lookup y = some .local := by rfl)
    (h1 : starEach [a, b] X.env = (false, eval a X.env) :: starEach [b] X.env := by rfl) (h2 : starEach [b] X.env = (false, eval b X.env) :: starEach [] X.env := by rfl)
    (hw : swappedStores [.Tuple [.Name x px, .Name y py] kt pt] (.Tuple [a, b] k2 pt2) X.env = pure (some [x, y]) := by rfl)
    (hs : swapsWithSole [.Tuple [.Name x px, .Name y py] kt pt] (.Tuple [a, b] k2 pt2) pos.line X.env = pure false := by rfl)
    (hci : c.free i := by first | (intro x h; cases h; done) | (intro x h; cases h; dsimp only; decide)) (hcj : c.free j := by first | (intro x h; cases h; done) | (intro x h; cases h; dsimp only; decide)) :
    DS c X (.Assign [.Tuple [.Name x px, .Name y py] kt pt] (.Tuple [a, b] k2 pt2) pos) (sPar i j da db) := by
  refine ⟨fun pn xe W w => PS.imp (ps_par (X := X.tr pn xe) hc hN hi hj hij hx hy (pa_cons (ha.run pn xe W w) (pa_cons (hb.run pn xe W w) pa_nil h2) h1) hw hs) fun E σ H h => ?_⟩
  obtain ⟨ι, S, τ, rp, re, p⟩ := h
  refine rds_go rp re p fun ι1 H1 S1 x v l r1 re1 rv p1 => rds_go r1 re1 p1 fun ι2 H2 S2 y u l2 r2 re2 ru p2 => ?_
  exact ⟨v, u, rfl, p2.nxt r2 ((re2.set i (rv.mono l2) hci).set j ru hcj)⟩
/-- name += e -/
def sAug (i : Nat) (f : D → D → Sto → R D) (da : DenE) : DenS := fun τ S => match τ[i]? with
  | some (some x) => (da τ S).go τ fun y S1 => (f x y S1).go τ fun z S2 => .nx (τ.set i (some z)) S2
  | _ => .bad
theorem ds_aug (i : Nat) {x : Str} {op : Operator} {ti : TIp} {f : D → D → Sto → R D} {p' : Pos} (ho : ∀ pn xe, PIp (X.tr pn xe) op ti) (hf2 : Op2 X.K c ti f) (hN : X.N.Nodup) (he : DE c X e da) (hi : X.N[i]? = some x := by rfl) (hx : Loc X.env.scope x := by first | exact Or.inl rfl | exact Or.inr rfl) (hf : X.fn x = true ∨ X.env.scope.names.lookup x = some .local := by first | exact .inl rfl | exact .inr rfl)
    (hc : c.free i := by first | (intro x h; cases h; done) | (intro x h; cases h; dsimp only; decide)) : DS c X (.AugAssign (.Name x p') op e pos) (sAug i f da) := by
  refine ⟨fun pn xe W w => PS.imp (ps_aug (X := X.tr pn xe) hN hi hx (he.run pn xe W w) (ho pn xe) hf) fun E σ H h => ?_⟩
  obtain ⟨ι, S, τ, rp, re, p⟩ := h
  unfold sAug at p
  split at p
  · rename_i x0 hx0
    obtain ⟨v0, hv0, rv0⟩ := re.1.2 i x0 hx0
    refine ⟨v0, hv0, rds_go rp re p fun ι1 H1 S1 y u l r1 re1 ru p1 => ?_⟩
    refine hf2 H1 ι1 S1 x0 y v0 u σ W _ r1 (rv0.mono l) ru ?_
    cases q : f x0 y S1 with
    | ok z S2 =>
      rw [q] at p1
      exact fun ι2 H2 w l2 r2 rw' => PostS.nxt (PostS.le l2 p1) r2 ((re1.mono l2).set i rw' hc)
    | ex z S2 =>
      rw [q] at p1
      exact fun ι2 H2 c od l2 r2 rx => p1 ι2 H2 σ c od l2 r2 (re1.mono l2) rx
    | bad => rw [q] at p1; exact p1
  · exact p.elim
theorem op2_ipI {K : PySem.W.Frag} {f : Int → Int → Int} : Op2 K c (ipI f) (iop0 fun i j => .int (f i j)) := by
  intro H ι S x y v u σ W Q r rv ru p
  unfold iop0 at p
  split at p
  · exact ⟨_, _, rv.int_inv, ru.int_inv, p.here r .int⟩
  · exact p.elim
theorem ds_iadd (i : Nat) {x : Str} {p' : Pos} (hN : X.N.Nodup) (he : DE c X e da) (hi : X.N[i]? = some x := by rfl) (hx : Loc X.env.scope x := by first | exact Or.inl rfl | exact Or.inr rfl) (hf : X.fn x = true ∨ X.env.scope.names.lookup x = some .local := by first | exact .inl rfl | exact .inr rfl)
    (hc : c.free i := by first | (intro x h; cases h; done) | (intro x h; cases h; dsimp only; decide)) : DS c X (.AugAssign (.Name x p') .Add e pos) (sAug i (iop0 fun i j => .int (i + j)) da) := ds_aug i (fun _ _ => ip_add) op2_ipI hN he hi hx hf hc
theorem ds_isub (i : Nat) {x : Str} {p' : Pos} (hN : X.N.Nodup) (he : DE c X e da) (hi : X.N[i]? = some x := by rfl) (hx : Loc X.env.scope x := by first | exact Or.inl rfl | exact Or.inr rfl) (hf : X.fn x = true ∨ X.env.scope.names.lookup x = some .local := by first | exact .inl rfl | exact .inr rfl)
    (hc : c.free i := by first | (intro x h; cases h; done) | (intro x h; cases h; dsimp only; decide)) : DS c X (.AugAssign (.Name x p') .Sub e pos) (sAug i (iop0 fun i j => .int (i - j)) da) := ds_aug i (fun _ _ => ip_sub) op2_ipI hN he hi hx hf hc
/-- xs[k] = v -/
def oPut (o k v : D) (S : Sto) : R Unit := match o, k with
  | .ref n, .int i => match lstOf S (.ref n) with
    | some xs => match ixN xs.length i with
      | some j => .ok () (setL n (xs.set j v) S)
      | none => .bad
    | none => .bad
  | _, _ => .bad
def sPut (dv do' dk : DenE) : DenS := fun τ S => (dv τ S).go τ fun v S1 => (do' τ S1).go τ fun o S2 => (dk τ S2).go τ fun k S3 => (oPut o k v S3).go τ fun _ S4 => .nx τ S4
theorem ds_put {o i : Expr} {p' : Pos} {do' dk : DenE} (hv : DE c X e da) (ho : DE c X o do') (hi : DE c X i dk)
    (hg : ∀ pn xe (to ti : TE), PE (X.tr pn xe) o to → PE (X.tr pn xe) i ti → PG (X.tr pn xe) (.Subscript o i p') (gSub to ti rSetL) := by exact fun _ _ _ _ a b => pg_sub a b set_list (fun _ => rfl))
    (hs : swapsWithSole [.Subscript o i p'] e pos.line X.env = pure false := by rfl) (hw : swappedStores [.Subscript o i p'] e X.env = pure none := by rfl)
    (h1 : (assignEach [.Subscript o i p'] X.env).map (·.2) = [assign (.Subscript o i p') X.env] := by rfl) : DS c X (.Assign [.Subscript o i p'] e pos) (sPut da do' dk) := by
  refine ⟨fun pn xe W w => PS.imp (ps_asg (X := X.tr pn xe) (hv.run pn xe W w) (hg pn xe _ _ (ho.run pn xe W w) (hi.run pn xe W w)) hs hw h1) fun E σ H h => ?_⟩
  obtain ⟨ι, S, τ, rp, re, p⟩ := h
  refine rds_go rp re p fun ι1 H1 S1 x v l r1 re1 rv p1 => rds_go r1 re1 p1 fun ι2 H2 S2 o0 ov l2 r2 re2 ro p2 => rds_go r2 re2 p2 fun ι3 H3 S3 k0 kv l3 r3 re3 rk p3 => ?_
  cases o0 with
  | ref n =>
    cases k0 with
    | int i0 =>
      unfold oPut at p3
      dsimp only at p3
      cases q : lstOf S3 (.ref n) with
      | none => rw [q] at p3; exact p3.elim
      | some xs =>
        rw [q] at p3
        dsimp only at p3
        cases q2 : ixN xs.length i0 with
        | none => rw [q2] at p3; exact p3.elim
        | some j =>
          rw [q2] at p3
          obtain ⟨n', l0, vs, e0, eo, _, hn, ee, qq⟩ := lstOf_ok r3 (ro.mono l3) q
          cases e0
          subst eo
          rw [rk.int_inv]
          have L : Le H3 ι3 (upd H3 l0 (.lst (vs.set j v))) ι3 := .write ee rfl (List.mem_of_getElem? hn)
          have rv3 := rv.mono (l2.trans l3)
          exact ⟨l0, vs, i0, j, rfl, rfl, ee, by rw [← qq.length]; exact q2, PostS.nxt (PostS.le L p3) (r3.write hn ee rfl ⟨_, upd_same, (qq.set j rv3).mono L⟩) (re3.mono L)⟩
    | _ => exact p3.elim
  | _ => exact p3.elim

/-! ### what loops walk -/
structure IT where
  items : List D
  guard : Sto → Bool
/-- the iterator J yields these items while the guard holds -/
def ItOk (K : PySem.W.Frag) (c : G) (H : Hp) (ι : List Addr) (it : IT) (J : It) : Prop := ∃ (Gd : Hp → Prop) (Y : Nat → Hp → V → Hp → Prop), Walk J it.items.length Gd Y ∧
  (∀ ι2 H2 S2, Le H ι H2 ι2 → Rep K c H2 ι2 S2 → it.guard S2 = true → Gd H2) ∧
  ∀ (i : Nat) ι2 H2 S2 x H3 d, Le H ι H2 ι2 → Rep K c H2 ι2 S2 → it.guard S2 = true → Y i H2 x H3 → it.items[i]? = some d → Le H2 ι2 H3 ι2 ∧ Rep K c H3 ι2 S2 ∧ RV K H3 ι2 d x
def relIt (K : PySem.W.Frag) (c : G) (H : Hp) (ι : List Addr) (it : IT) (J : It) : Prop := ItOk K c H ι it J
structure DI (c : G) (X : Cx) (tg iter : Expr) (d : DL.Env → Sto → R IT) : Prop where
  run : ∀ pn xe W, Wk c (X.tr pn xe) W → ∃ wi, PI (X.tr pn xe) tg iter wi ∧ ∀ σ H (Q : It → Hp → Prop), rd X.K c (relIt X.K c) d W σ H Q → wi σ H Q
def lstIs (n : Nat) (xs : List D) (S : Sto) : Bool := match S[n]? with
  | some (.lst ys) => D.beqs ys xs
  | _ => false
def itOf (x : D) (S : Sto) : R IT := match x with
  | .ref n => match lstOf S (.ref n) with
    | some xs => .ok ⟨xs, lstIs n xs⟩ S
    | none => .bad
  | .scr ns => .ok ⟨ns.map .int, fun _ => true⟩ S
  | _ => .bad
def itTup (x : D) (S : Sto) : R IT := match x with
  | .tup xs => .ok ⟨xs, fun _ => true⟩ S
  | _ => .bad
def dIt (f : D → Sto → R IT) (da : DenE) : DL.Env → Sto → R IT := fun τ S => (da τ S).bind f
theorem lstIs_ok {K : PySem.W.Frag} {H : Hp} {ι : List Addr} {S : Sto} {n : Nat} {xs : List D} {l : Addr} (r : Rep K c H ι S) (hn : ι[n]? = some l) (h : lstIs n xs S = true) : ∃ vs, H l = some (.lst vs) ∧ RVs K H ι xs vs := by
  unfold lstIs at h
  split at h
  · rename_i ys hs
    rw [D.beqs_iff] at h
    subst h
    exact r.obj _ _ l hs hn
  · cases h
theorem di_list {tg : Expr} (he : DE c X e da) : DI c X tg e (dIt itOf da) := by
  refine ⟨fun pn xe W w => ⟨_, pi_list (he.run pn xe W w), fun σ H Q h => ?_⟩⟩
  obtain ⟨ι, S, τ, rp, re, p⟩ := h
  refine rd_go rp re p fun ι1 H1 S1 x v l r1 re1 rv p1 => ?_
  cases x with
  | ref n =>
    unfold itOf at p1
    dsimp only at p1
    cases q : lstOf S1 (.ref n) with
    | none => rw [q] at p1; exact p1.elim
    | some xs =>
      rw [q] at p1
      obtain ⟨n', a, vs, e0, rfl, hs, hn, ee, qq⟩ := lstOf_ok r1 rv q
      cases e0
      refine ⟨a, rfl, ⟨vs, SqL.of ee⟩, p1 ι1 H1 (Itl X.K a) .refl r1 ?_⟩
      refine ⟨fun H2 => ∃ vs2, H2 a = some (.lst vs2) ∧ vs2.length = xs.length, fun i H2 x H3 => H3 = H2 ∧ ∀ ys, SqL X.K H2 a ys → ys[i]? = some x, ⟨fun i H2 hi g => ?_, fun H2 g => ?_, fun i H2 x H3 hi g y => y⟩, fun ι2 H2 S2 l2 r2 hg => ?_, fun i ι2 H2 S2 x H3 d l2 r2 hg y hd => ?_⟩
      · obtain ⟨vs2, e2, q2⟩ := g
        have hi' : i < xs.length := hi
        rw [← q2] at hi'
        exact ⟨vs2, _, SqL.of e2, List.getElem?_eq_getElem hi'⟩
      · obtain ⟨vs2, e2, q2⟩ := g
        exact ⟨vs2, SqL.of e2, by rw [q2]; exact Nat.le_refl _⟩
      · obtain ⟨vs2, e2, q2⟩ := lstIs_ok r2 (l2.get hn) hg
        exact ⟨vs2, e2, q2.length.symm⟩
      · obtain ⟨vs2, e2, q2⟩ := lstIs_ok r2 (l2.get hn) hg
        obtain ⟨rfl, y⟩ := y
        obtain ⟨d', hd', rd'⟩ := q2.get' (y vs2 (SqL.of e2))
        have hd : xs[i]? = some d := hd
        rw [hd] at hd'
        cases hd'
        exact ⟨.refl, r2, rd'⟩
  | scr ns =>
    cases rv with
    | @scr _ a hs =>
      have hq : ∀ {ι2 : List Addr} {H2 : Hp}, Le H1 ι1 H2 ι2 → SqF X.K H2 a (ns.map V.int) := fun l => by
        have := (RV.scr (ι := ι1) hs).mono l
        cases this with | scr h => exact h
      refine ⟨a, rfl, ⟨_, hs.seq⟩, p1 ι1 H1 (Itl X.K a) .refl r1 ?_⟩
      refine ⟨fun H2 => SqF X.K H2 a (ns.map V.int), fun i H2 x H3 => H3 = H2 ∧ ∀ ys, SqL X.K H2 a ys → ys[i]? = some x, ⟨fun i H2 hi g => ?_, fun H2 g => ?_, fun i H2 x H3 hi g y => y⟩, fun ι2 H2 S2 l2 r2 hg => hq l2, fun i ι2 H2 S2 x H3 d l2 r2 hg y hd => ?_⟩
      · have hi' : i < (ns.map V.int).length := by simpa using hi
        exact ⟨_, _, g.seq, List.getElem?_eq_getElem hi'⟩
      · exact ⟨_, g.seq, by simp⟩
      · obtain ⟨rfl, y⟩ := y
        have z := y _ (hq l2).seq
        have hd : (ns.map D.int)[i]? = some d := hd
        rw [List.getElem?_map] at z hd
        cases e : ns[i]? with
        | none => rw [e] at hd; cases hd
        | some n =>
          rw [e] at hd z
          cases hd
          cases z
          exact ⟨.refl, r2, .int⟩
  | _ => exact p1.elim
theorem di_tup {tg : Expr} (he : DE c X e da) : DI c X tg e (dIt itTup da) := by
  refine ⟨fun pn xe W w => ⟨_, pi_tup (he.run pn xe W w), fun σ H Q h => ?_⟩⟩
  obtain ⟨ι, S, τ, rp, re, p⟩ := h
  refine rd_go rp re p fun ι1 H1 S1 x v l1 r1 re1 rv p1 => ?_
  cases x with
  | tup xs =>
    obtain ⟨a, vs, rfl, ee, qq⟩ := rv.tup_inv
    refine ⟨a, rfl, ⟨vs, SqT.of ee⟩, p1 ι1 H1 (Itt X.K a) .refl r1 ?_⟩
    refine ⟨fun H2 => H2 a = some (.tup vs), fun i H2 x H3 => H3 = H2 ∧ ∀ ys, SqT X.K H2 a ys → ys[i]? = some x, ⟨fun i H2 hi g => ?_, fun H2 g => ?_, fun i H2 x H3 hi g y => y⟩, fun ι2 H2 S2 l2 r2 hg => l2.tup _ _ ee, fun i ι2 H2 S2 x H3 d l2 r2 hg y hd => ?_⟩
    · have hi' : i < vs.length := by rw [← qq.length]; exact hi
      exact ⟨vs, _, SqT.of g, List.getElem?_eq_getElem hi'⟩
    · exact ⟨vs, SqT.of g, by rw [← qq.length]; exact Nat.le_refl _⟩
    · obtain ⟨rfl, y⟩ := y
      obtain ⟨d', hd', rd'⟩ := (qq.mono l2).get' (y vs (SqT.of (l2.tup _ _ ee)))
      have hd : xs[i]? = some d := hd
      rw [hd] at hd'
      cases hd'
      exact ⟨.refl, r2, rd'⟩
  | _ => exact p1.elim
/-- ranges -/
def rng (lo : Int) (n : Nat) : List D := (List.range n).map fun (i : Nat) => .int (lo + (i : Nat))
def itR1 (xs : List D) (S : Sto) : R IT := match xs with
  | [.int j] => if -1000000000 ≤ j ∧ j ≤ 1000000000 then .ok ⟨rng 0 j.toNat, fun _ => true⟩ S else .bad
  | _ => .bad
def itR2 (xs : List D) (S : Sto) : R IT := match xs with
  | [.int i, .int j] => if -1000000000 ≤ i ∧ i ≤ 1000000000 ∧ -1000000000 ≤ j ∧ j ≤ 1000000000 then .ok ⟨rng i (j - i).toNat, fun _ => true⟩ S else .bad
  | _ => .bad
def dItA (f : List D → Sto → R IT) (dd : DenA) : DL.Env → Sto → R IT := fun τ S => (dd τ S).bind f
theorem it_range {K : PySem.W.Frag} {H : Hp} {ι : List Addr} (lo : Int) (n : Nat) : ItOk K c H ι ⟨rng lo n, fun _ => true⟩ (Itr lo n) := by
  have e : (rng lo n).length = n := by unfold rng; simp
  refine ⟨fun _ => True, YFn fun i => .int (lo + i), ?_, fun _ _ _ _ _ _ => trivial, fun i ι2 H2 S2 x H3 d l2 r2 _ y hd => ?_⟩
  · show Walk _ (rng lo n).length _ _
    rw [e]; exact walk_range
  · obtain ⟨rfl, rfl⟩ := y
    have hd : (rng lo n)[i]? = some d := hd
    unfold rng at hd
    rw [List.getElem?_map] at hd
    cases q : (List.range n)[i]? with
    | none => rw [q] at hd; cases hd
    | some j =>
      rw [q] at hd
      have := (List.getElem?_eq_some_iff.mp q).2
      simp at this
      subst this
      cases hd
      exact ⟨.refl, r2, .int⟩
theorem di_range1 {tg a0 : Expr} {dd : DenA} {p : Pos} (hm : X.mg "range" = none) (ha : DA c X [a0] dd) (hg : Gl X "range" := by rfl) (hs : starEach [a0] X.env = [(false, eval a0 X.env)] := by rfl) : DI c X tg (.Call (.Name "range" p) [a0] [] pos) (dItA itR1 dd) := by
  refine ⟨fun pn xe W w => ⟨_, pi_range1 (X := X.tr pn xe) hg hm (ha.run pn xe W w) hs, fun σ H Q h => ?_⟩⟩
  obtain ⟨ι, S, τ, rp, re, p⟩ := h
  refine rd_go rp re p fun ι1 H1 S1 x v l1 r1 re1 rv p1 => ?_
  unfold itR1 at p1
  split at p1
  · split at p1
    · rename_i hb
      cases rv with
      | cons r3 r4 =>
        cases r4
        rw [r3.int_inv]
        exact ⟨_, rfl, by omega, by omega, p1 ι1 H1 _ .refl r1 (it_range _ _)⟩
    · exact p1.elim
  · exact p1.elim
theorem di_range2 {tg a0 b0 : Expr} {dd : DenA} {p : Pos} (hm : X.mg "range" = none) (ha : DA c X [a0, b0] dd) (hg : Gl X "range" := by rfl) (hs : starEach [a0, b0] X.env = [(false, eval a0 X.env), (false, eval b0 X.env)] := by rfl) (hs2 : starEach [b0] X.env = [(false, eval b0 X.env)] := by rfl) : DI c X tg (.Call (.Name "range" p) [a0, b0] [] pos) (dItA itR2 dd) := by
  refine ⟨fun pn xe W w => ⟨_, pi_range2 (X := X.tr pn xe) hg hm (ha.run pn xe W w) hs hs2, fun σ H Q h => ?_⟩⟩
  obtain ⟨ι, S, τ, rp, re, p⟩ := h
  refine rd_go rp re p fun ι1 H1 S1 x v l1 r1 re1 rv p1 => ?_
  unfold itR2 at p1
  split at p1
  · split at p1
    · rename_i hb
      cases rv with
      | cons r3 r4 =>
        cases r4 with
        | cons r4 r5 =>
          cases r5
          rw [r3.int_inv, r4.int_inv]
          exact ⟨_, _, rfl, by omega, p1 ι1 H1 _ .refl r1 (it_range _ _)⟩
    · exact p1.elim
  · exact p1.elim

/-! ### for -/
def forL (gd : Sto → Bool) (g : DenG) (body : DenS) : List D → DL.Env → Sto → Rs
  | [], τ, S => if gd S = true then .nx τ S else .bad
  | x :: xs, τ, S => if gd S = true then match g x τ with
    | some τ1 => match body τ1 S with
      | .nx τ2 S2 => forL gd g body xs τ2 S2
      | .ct τ2 S2 => forL gd g body xs τ2 S2
      | .bk τ2 S2 => .nx τ2 S2
      | r => r
    | none => .bad
    else .bad
def sFor (di : DL.Env → Sto → R IT) (g : DenG) (body : DenS) : DenS := fun τ S => (di τ S).go τ fun it S1 => forL it.guard g body it.items τ S1
theorem ds_for {tg iter : Expr} {body : List Stmt} {di : DL.Env → Sto → R IT} {sl : List Nat} {g1 : TG} {g : DenG} (hc : X.calm = true) (hi : DI c X tg iter di) (hg : DG c X tg sl g1 g) (hb : DSs c X body d) (hs : ∀ x, foldedSetIterable iter X.env x = pure x := by intro _; rfl) :
    DS c X (.For tg iter body [] pos) (sFor di g d) := by
  refine ⟨fun pn xe W w => ?_⟩
  obtain ⟨wi, h1, k1⟩ := hi.run pn xe W w
  have kg := hg.ok
  refine PS.imp (ps_for (X := X.tr pn xe) w.po hc h1 (hg.pg pn xe) (hb.run pn xe W w) hs) fun E σ H h => ?_
  obtain ⟨ι, S, τ, rp, re, p⟩ := h
  refine k1 σ H _ (rds_go rp re p fun ι1 H1 S1 it J l1 r1 re1 ok p1 => ?_)
  obtain ⟨Gd, Y, wk, kG, kY⟩ := ok
  have gd_of : ∀ (xs : List D) τ' S' {ι' H'}, PostS X.K c H' ι' W E (forL it.guard g d xs τ' S') → it.guard S' = true := fun xs τ' S' ι' H' q => by
    cases xs with
    | nil =>
      unfold forL at q
      split at q
      · assumption
      · exact q.elim
    | cons y ys =>
      unfold forL at q
      split at q
      · assumption
      · exact q.elim
  refine for_it wk (fun i σ' H' => ∃ ι' S' τ', Le H1 ι1 H' ι' ∧ Rep X.K c H' ι' S' ∧ RE X.K c H' ι' τ' σ' ∧ PostS X.K c H' ι' W E (forL it.guard g d (it.items.drop i) τ' S')) ⟨ι1, S1, τ, .refl, r1, re1, by simpa using p1⟩ (fun i σ' H' _ ⟨ι', S', τ', l', r', re', p'⟩ => kG ι' H' S' l' r' (gd_of _ _ _ p')) (fun i x σ' H' H2 hi ⟨ι', S', τ', l', r', re', p'⟩ y => ?_) fun σ' H' ⟨ι', S', τ', l', r', re', p'⟩ => ?_
  · have hg := gd_of _ _ _ p'
    have hd : it.items.drop i = it.items[i] :: it.items.drop (i + 1) := List.drop_eq_getElem_cons hi
    obtain ⟨l2, r2, rv⟩ := kY i ι' H' S' x H2 (it.items[i]) l' r' hg y (List.getElem?_eq_getElem hi)
    rw [hd] at p'
    unfold forL at p'
    rw [if_pos hg] at p'
    cases q : g it.items[i] τ' with
    | none => rw [q] at p'; exact p'.elim
    | some τ1 =>
      rw [q] at p'
      dsimp only at p'
      refine kg _ x τ' τ1 σ' H2 ι' _ rv (re'.mono l2) q fun σ2 re2 _ => ⟨ι', S', τ1, r2, re2, ?_⟩
      cases q2 : d τ1 S' with
      | nx τ2 S2 => rw [q2] at p'; exact fun ι3 H3 σ3 l3 r3 re3 => ⟨ι3, S2, τ2, (l'.trans l2).trans l3, r3, re3, PostS.le (l2.trans l3) p'⟩
      | ct τ2 S2 => rw [q2] at p'; exact fun ι3 H3 σ3 l3 r3 re3 => ⟨ι3, S2, τ2, (l'.trans l2).trans l3, r3, re3, PostS.le (l2.trans l3) p'⟩
      | bk τ2 S2 => rw [q2] at p'; exact fun ι3 H3 σ3 l3 r3 re3 => p' ι3 H3 σ3 (l2.trans l3) r3 re3
      | rt v S2 => rw [q2] at p'; exact fun ι3 H3 σ3 l3 r3 re3 => p' ι3 H3 σ3 (l2.trans l3) r3 re3
      | ex e τ2 S2 => rw [q2] at p'; exact fun ι3 H3 σ3 c od l3 r3 re3 rx => p' ι3 H3 σ3 c od (l2.trans l3) r3 re3 rx
      | bad => rw [q2] at p'; exact p'
  · rw [List.drop_of_length_le (Nat.le_refl _)] at p'
    unfold forL at p'
    split at p'
    · exact p'.nxt r' re'
    · exact p'.elim

/-! ### while -/
def whileL (t : DenT) (body : DenS) : Nat → DenS
  | 0, _, _ => .bad
  | n + 1, τ, S => (t τ S).go τ fun b S1 => if b = true then match body τ S1 with
    | .nx τ2 S2 => whileL t body n τ2 S2
    | .ct τ2 S2 => whileL t body n τ2 S2
    | .bk τ2 S2 => .nx τ2 S2
    | r => r
    else .nx τ S1
def sWhile (n : Nat) (t : DenT) (body : DenS) : DenS := whileL t body n
theorem ds_while (n : Nat) {body : List Stmt} {t : DenT} (ht : DT c X e t) (hb : DSs c X body d) : DS c X (.While e body [] pos) (sWhile n t d) := by
  refine ⟨fun pn xe W w => PS.imp (ps_while (X := X.tr pn xe) w.po (ht.run pn xe W w) (hb.run pn xe W w)) fun E σ H h => ?_⟩
  obtain ⟨ι, S, τ, rp, re, p⟩ := h
  refine ⟨fun m σ' H' => ∃ ι' S' τ', Rep X.K c H' ι' S' ∧ RE X.K c H' ι' τ' σ' ∧ PostS X.K c H' ι' W E (whileL t d m τ' S'), ⟨n, ι, S, τ, rp, re, p⟩, fun m σ' H' ⟨ι', S', τ', r', re', p'⟩ => ?_⟩
  cases m with
  | zero => exact p'.elim
  | succ m =>
    unfold whileL at p'
    refine rds_go r' re' p' fun ι1 H1 S1 b k l1 r1 re1 rv p1 => ?_
    subst rv
    cases b with
    | false => exact PostS.nxt p1 r1 re1
    | true =>
      rw [if_pos rfl] at p1 ⊢
      refine ⟨fun σ2 H2 => ∃ ι2 S2 τ2, Rep X.K c H2 ι2 S2 ∧ RE X.K c H2 ι2 τ2 σ2 ∧ PostS X.K c H2 ι2 W E (whileL t d m τ2 S2), fun σ2 H2 h => ⟨m, Nat.lt_succ_self _, h⟩, ι1, S1, τ', r1, re1, ?_⟩
      cases q2 : d τ' S1 with
      | nx τ2 S2 => rw [q2] at p1; exact fun ι3 H3 σ3 l3 r3 re3 => ⟨ι3, S2, τ2, r3, re3, PostS.le l3 p1⟩
      | ct τ2 S2 => rw [q2] at p1; exact fun ι3 H3 σ3 l3 r3 re3 => ⟨ι3, S2, τ2, r3, re3, PostS.le l3 p1⟩
      | bk τ2 S2 => rw [q2] at p1; exact fun ι3 H3 σ3 l3 r3 re3 => p1 ι3 H3 σ3 l3 r3 re3
      | rt v S2 => rw [q2] at p1; exact fun ι3 H3 σ3 l3 r3 re3 => p1 ι3 H3 σ3 l3 r3 re3
      | ex e τ2 S2 => rw [q2] at p1; exact fun ι3 H3 σ3 c od l3 r3 re3 rx => p1 ι3 H3 σ3 c od l3 r3 re3 rx
      | bad => rw [q2] at p1; exact p1
end
end DL

set_option Elab.async false
set_option linter.all false
set_option maxRecDepth 100000
set_option maxHeartbeats 4000000
namespace DL
open PySem L2
section
variable {c : G} {X : Cx} {e a b : Expr} {es : List Expr} {da db : DenE} {pos : Pos}
/-! ### list comprehensions -/
def wipeD (τ : DL.Env) : List Nat → DL.Env
  | [] => τ
  | v :: vs => (wipeD τ vs).set v none
theorem wipeD_length (τ : DL.Env) : ∀ vs : List Nat, (wipeD τ vs).length = τ.length
  | [] => rfl
  | v :: vs => by unfold wipeD; rw [List.length_set, wipeD_length τ vs]
theorem wipeD_some {τ : DL.Env} {i : Nat} {x : D} : ∀ {vs : List Nat}, (wipeD τ vs)[i]? = some (some x) → τ[i]? = some (some x) ∧ i ∉ vs
  | [], h => ⟨h, by simp⟩
  | v :: vs, h => by
    unfold wipeD at h
    by_cases hi : v = i
    · subst hi
      by_cases hv : v < (wipeD τ vs).length
      · rw [List.getElem?_set_self hv] at h; cases h
      · rw [List.getElem?_eq_none (by simpa using hv)] at h; cases h
    · rw [List.getElem?_set_ne hi] at h
      obtain ⟨h1, h2⟩ := wipeD_some h
      exact ⟨h1, by simp only [List.mem_cons, not_or]; exact ⟨fun e => hi e.symm, h2⟩⟩
theorem RE.wipe {K : PySem.W.Frag} {H : Hp} {ι : List Addr} {τ : DL.Env} {σ : St} (vs : List Nat) (hx : c.x = none) (r : RE K c H ι τ σ) : RE K c H ι (wipeD τ vs) (wipe σ vs) := by
  refine ⟨⟨by rw [wipeD_length, wipe_length, r.1.1], fun i d h => ?_⟩, fun x h => by rw [hx] at h; cases h⟩
  obtain ⟨h1, h2⟩ := wipeD_some h
  obtain ⟨v, e, q⟩ := r.1.2 i d h1
  refine ⟨v, ?_, q⟩
  rw [wipe_get, if_neg (fun z => h2 z.1)]
  exact e
structure DTs (c : G) (X : Cx) (e : List Expr) (d : DenT) : Prop where
  run : ∀ pn xe W, Wk c (X.tr pn xe) W → PTs (X.tr pn xe) e (rdT X.K c d W)
def tTrue : DenT := fun _ S => .ok true S
theorem dts_nil : DTs c X [] tTrue := ⟨fun pn xe W w => ⟨fun pins s σ H Q I h => (pts_nil (X := X.tr pn xe)).run pins s σ H Q I (let ⟨ι, S, τ, rp, re, p⟩ := h; p.here rp rfl)⟩⟩
theorem dts_one {d : DenT} (h : DT c X e d) : DTs c X [e] d := ⟨fun pn xe W w => pts_one (h.run pn xe W w)⟩
def lcL (gd : Sto → Bool) (g : DenG) (t : DenT) (e : DenE) (τw : DL.Env) : List D → List D → Sto → R D
  | [], acc, S => if gd S = true then newL acc S else .bad
  | x :: xs, acc, S => if gd S = true then match g x τw with
    | some τ1 => match t τ1 S with
      | .ok true S1 => match e τ1 S1 with
        | .ok y S2 => lcL gd g t e τw xs (acc ++ [y]) S2
        | _ => .bad
      | .ok false S1 => lcL gd g t e τw xs acc S1
      | _ => .bad
    | none => .bad
    else .bad
def dLc (own : List Nat) (di : DL.Env → Sto → R IT) (g : DenG) (t : DenT) (e : DenE) : DenE := fun τ S => (di τ S).bind fun it S1 => if it.items.length ≤ 1000000 then lcL it.guard g t e (wipeD τ own) it.items [] S1 else .bad
theorem wkF {Y : Cx} (hx : c.x = none) : Wk c (Y.tr [] (fun _ _ => False)) (fun _ _ _ _ => False) := ⟨takes_none5, PassesOwn.never, fun x h => by rw [hx] at h; cases h⟩
theorem lc_rd {K : PySem.W.Frag} {σ : St} {W : WX} {Q : VK} {sl own : List Nat} {g1 : TG} {g : DenG} {t : DenT} {el : DenE} {ι1 : List Addr} {H1 : Hp} {S1 : Sto} {τ : DL.Env} {it : IT} {J : It}
    (kg : ∀ (x : D) (v : V) (τ τ' : DL.Env) (σ : St) (H : Hp) (ι : List Addr) (Q : St → Hp → Prop), RV K H ι x v → RE K c H ι τ σ → g x τ = some τ' → (∀ σ', RE K c H ι τ' σ' → (∀ vs : List Nat, (∀ j ∈ sl, j ∈ vs) → wipe σ' vs = wipe σ vs) → Q σ' H) → g1 v σ H Q)
    (hx : c.x = none) (hsl : ∀ j ∈ sl, j ∈ own) (r1 : Rep K c H1 ι1 S1) (re1 : RE K c H1 ι1 τ σ) (ok : relIt K c H1 ι1 it J)
    (p1 : PostE K c (RV K) H1 ι1 σ W Q (if it.items.length ≤ 1000000 then lcL it.guard g t el (wipeD τ own) it.items [] S1 else .bad)) :
    ∀ D, H1 D = none → ∃ W' : Nat → Nat → Hp → Prop, (∃ m, W' 0 m (upd H1 D (.lst []))) ∧ ∀ i m H, W' i m H →
      (J.stop i H ∧ Q (.ref D) H) ∨ (J.go i H ∧ ∃ Nx : Hp → Prop, (∀ H', Nx H' → ∃ m', m' < m ∧ W' (i + 1) m' H') ∧ ∀ x H', J.yld i H x H' → g1 x (wipe σ own) H' fun σ2 H2 => wipe σ2 own = wipe σ own ∧ rdT K c t (fun _ _ _ _ => False) σ2 H2 fun b H3 =>
        if b = true then rdE K c el (fun _ _ _ _ => False) σ2 H3 fun y H4 => ∃ acc, H4 D = some (.lst acc) ∧ acc.length < sizeLine ∧ Nx (upd H4 D (.lst (acc ++ [y]))) else Nx H3) := by
  intro Dn hDn
  obtain ⟨Gd, Y, wk, kG, kY⟩ := ok
  split at p1
  case isFalse => exact p1.elim
  rename_i hlen
  have gd_of : ∀ (xs acc : List D) S', PostE K c (RV K) H1 ι1 σ W Q (lcL it.guard g t el (wipeD τ own) xs acc S') → it.guard S' = true := fun xs acc S' q => by
    cases xs with
    | nil =>
      unfold lcL at q
      split at q
      · assumption
      · exact q.elim
    | cons y ys =>
      unfold lcL at q
      split at q
      · assumption
      · exact q.elim
  refine lc_it wk (fun i H => ∃ ι' S' acc accV, Le H1 ι1 H ι' ∧ Rep K c H ι' S' ∧ H Dn = some (.lst accV) ∧ Dn ∉ ι' ∧ RVs K H ι' acc accV ∧ accV.length ≤ i ∧ PostE K c (RV K) H1 ι1 σ W Q (lcL it.guard g t el (wipeD τ own) (it.items.drop i) acc S'))
    ⟨ι1, S1, [], [], .new hDn, r1.new hDn, upd_same, r1.nin hDn, .nil, Nat.le_refl _, by simpa using p1⟩ (fun i H _ ⟨ι', S', acc, accV, l', r', hD, nD, ra, la, p'⟩ => kG ι' H S' l' r' (gd_of _ _ _ p')) (fun i x H H' hi ⟨ι', S', acc, accV, l', r', hD, nD, ra, la, p'⟩ y => ?_) fun H ⟨ι', S', acc, accV, l', r', hD, nD, ra, la, p'⟩ => ?_
  · have hgd := gd_of _ _ _ p'
    have hd : it.items.drop i = it.items[i] :: it.items.drop (i + 1) := List.drop_eq_getElem_cons hi
    obtain ⟨l2, r2, rv⟩ := kY i ι' H S' x H' (it.items[i]) l' r' hgd y (List.getElem?_eq_getElem hi)
    have lb : Le H1 ι1 H' ι' := l'.trans l2
    have ra2 := ra.mono l2
    have hD2 : H' Dn = some (.lst accV) := by
      obtain ⟨o', e, _, w⟩ := l2.frm Dn _ hD nD
      have w := w (fun _ z => nomatch z)
      subst w
      exact e
    rw [hd] at p'
    unfold lcL at p'
    rw [if_pos hgd] at p'
    cases q : g it.items[i] (wipeD τ own) with
    | none => rw [q] at p'; exact p'.elim
    | some τ1 =>
      rw [q] at p'
      dsimp only at p'
      refine kg _ x (wipeD τ own) τ1 (wipe σ own) H' ι' _ rv ((re1.mono lb).wipe own hx) q fun σ2 re2 hw => ⟨?_, ι', S', τ1, r2, re2, ?_⟩
      · rw [hw own hsl]
        refine List.ext_getElem? fun j => ?_
        rw [wipe_get, wipe_get, wipe_length]
        split
        · rfl
        · rfl
      · cases qt : t τ1 S' with
        | bad => rw [qt] at p'; exact p'.elim
        | ex e S2 => rw [qt] at p'; exact p'.elim
        | ok bb S2 =>
          rw [qt] at p'
          intro ι3 H3 b3 l3 r3 eb
          subst eb
          have hD3 : H3 Dn = some (.lst accV) ∧ Dn ∉ ι3 := by
            obtain ⟨o', e, n', w⟩ := l3.frm Dn _ hD2 nD
            have w := w (fun _ z => nomatch z)
            subst w
            exact ⟨e, n'⟩
          cases bb with
          | false => exact ⟨ι3, S2, acc, accV, lb.trans l3, r3, hD3.1, hD3.2, ra2.mono l3, by omega, p'⟩
          | true =>
            rw [if_pos rfl]
            refine ⟨ι3, S2, τ1, r3, re2.mono l3, ?_⟩
            dsimp only at p'
            cases qe : el τ1 S2 with
            | bad => rw [qe] at p'; exact p'.elim
            | ex e S2 => rw [qe] at p'; exact p'.elim
            | ok yy S4 =>
              rw [qe] at p'
              intro ι4 H4 y4 l4 r4 ry
              have hD4 : H4 Dn = some (.lst accV) ∧ Dn ∉ ι4 := by
                obtain ⟨o', e, n', w⟩ := l4.frm Dn _ hD3.1 hD3.2
                have w := w (fun _ z => nomatch z)
                subst w
                exact ⟨e, n'⟩
              refine ⟨accV, hD4.1, by rw [sizeLine_eq]; have := hi; omega, ι4, S4, acc ++ [yy], accV ++ [y4], ((lb.trans l3).trans l4).away hDn, r4.away hD4.1 hD4.2, upd_same, hD4.2, ?_, by simp; omega, p'⟩
              exact (((ra2.mono l3).mono l4).append (.one ry)).keep (lt_lst hD4.1)
  · rw [List.drop_of_length_le (Nat.le_refl _)] at p'
    unfold lcL at p'
    split at p'
    · refine p' (ι' ++ [Dn]) H _ (l'.adopt hDn) (r'.adopt hD nD ra) (.ref ?_)
      rw [List.getElem?_append_right (by rw [r'.len]; exact Nat.le_refl _), r'.len]; simp
    · exact p'.elim
theorem de_lc {elt tg iter : Expr} {ifs : List Expr} {scope : Scope} {own : List (Str × Nat)} {sl : List Nat} {g1 : TG} {di : DL.Env → Sto → R IT} {g : DenG} {t : DenT} {el : DenE} (hc : X.calm = true) (hN : X.N.Nodup) (hx : c.x = none) (hi : DI c X tg iter di) (ok : BlkOk X.N X.env.scope scope own)
    (hg : ∀ (s : Shared) (H : Hp) (C : Addr) (cl : List (Str × Addr)) (fp : List Addr), DG c (X.blk s H scope (compEnvC scope cl C X.env) fp) tg sl g1 g) (ht : ∀ (s : Shared) (H : Hp) (C : Addr) (cl : List (Str × Addr)) (fp : List Addr), DTs c (X.blk s H scope (compEnvC scope cl C X.env) fp) ifs t)
    (he : ∀ (s : Shared) (H : Hp) (C : Addr) (cl : List (Str × Addr)) (fp : List Addr), DE c (X.blk s H scope (compEnvC scope cl C X.env) fp) elt el) (hsl : ∀ j ∈ sl, j ∈ own.map (·.2) := by decide) (hs : ∀ x, foldedSetIterable iter X.env x = pure x := by intro _; rfl) :
    DE c X (.ListComp elt [⟨tg, iter, ifs, 0⟩] scope pos) (dLc (own.map (·.2)) di g t el) := by
  refine ⟨fun pn xe W w => ?_⟩
  obtain ⟨wi, h1, k1⟩ := hi.run pn xe W w
  refine PE.imp (pe_lc (X := X.tr pn xe) (te := rdE X.K c el (fun _ _ _ _ => False)) (tt := rdT X.K c t (fun _ _ _ _ => False)) hc hN h1 ok (fun s H C cl fp => (hg s H C cl fp).pg [] fun _ _ => False) (fun s H C cl fp => (ht s H C cl fp).run [] _ _ (wkF hx)) (fun s H C cl fp => (he s H C cl fp).run [] _ _ (wkF hx)) hs) fun σ H Q h => ?_
  obtain ⟨ι, S, τ, rp, re, p⟩ := h
  refine k1 σ H _ (rd_go rp re p fun ι1 H1 S1 it J l1 r1 re1 rel p1 => ?_)
  exact lc_rd (hg X.s_0 H1 0 [] []).ok hx hsl r1 re1 rel p1
/-- name = [..] on one line -/
theorem ds_setLc (i : Nat) {y : Str} {py spos : Pos} {elt tg iter : Expr} {ifs : List Expr} {scope : Scope} {own : List (Str × Nat)} {sl : List Nat} {g1 : TG} {di : DL.Env → Sto → R IT} {g : DenG} {t : DenT} {el : DenE} (hc : X.calm = true) (hN : X.N.Nodup) (hx : c.x = none) (hi : DI c X tg iter di) (ok : BlkOk X.N X.env.scope scope own)
    (hg : ∀ (s : Shared) (H : Hp) (C : Addr) (cl : List (Str × Addr)) (fp : List Addr), DG c (X.blk s H scope (compEnvC scope cl C X.env) fp) tg sl g1 g) (ht : ∀ (s : Shared) (H : Hp) (C : Addr) (cl : List (Str × Addr)) (fp : List Addr), DTs c (X.blk s H scope (compEnvC scope cl C X.env) fp) ifs t)
    (he : ∀ (s : Shared) (H : Hp) (C : Addr) (cl : List (Str × Addr)) (fp : List Addr), DE c (X.blk s H scope (compEnvC scope cl C X.env) fp) elt el) (hsl : ∀ j ∈ sl, j ∈ own.map (·.2) := by decide)
    (hy : X.N[i]? = some y := by rfl) (hyl : X.env.scope.names.lookup y = some .local := by rfl) (hsw : swapsWith (.ListComp elt [⟨tg, iter, ifs, 0⟩] scope pos) (some (.Name y py)) spos.line X.env = pure true := by exact sw_true rfl rfl rfl (by decide +kernel)) (hs : ∀ x, foldedSetIterable iter X.env x = pure x := by intro _; rfl) :
    DS c X (.Assign [.Name y py] (.ListComp elt [⟨tg, iter, ifs, 0⟩] scope pos) spos) (sSet i (dLc (own.map (·.2)) di g t el)) := by
  refine ⟨fun pn xe W w => ?_⟩
  obtain ⟨wi, h1, k1⟩ := hi.run pn xe W w
  refine PS.imp (ps_setLc (X := X.tr pn xe) (te := rdE X.K c el (fun _ _ _ _ => False)) (tt := rdT X.K c t (fun _ _ _ _ => False)) hc hN hy hyl hsw h1 ok (fun s H C cl fp => (hg s H C cl fp).pg [] fun _ _ => False) (fun s H C cl fp => (ht s H C cl fp).run [] _ _ (wkF hx)) (fun s H C cl fp => (he s H C cl fp).run [] _ _ (wkF hx)) hs) fun E σ H h => ?_
  obtain ⟨ι, S, τ, rp, re, p⟩ := h
  unfold sSet at p
  have p2 : rdE X.K c (dLc (own.map (·.2)) di g t el) W σ H fun v H1 => E.nx (σ.set i (some v)) H1 := rds_go rp re p fun ι1 H1 S1 x v l r1 re1 rv p1 => p1.nxt r1 (re1.set i rv fun z hz => by rw [hx] at hz; cases hz)
  obtain ⟨ι, S, τ, rp, re, p⟩ := p2
  refine k1 σ H _ (rd_go rp re p fun ι1 H1 S1 it J l1 r1 re1 rel p1 => ?_)
  exact lc_rd (hg X.s_0 H1 0 [] []).ok hx hsl r1 re1 rel p1
end
end DL

set_option Elab.async false
set_option linter.all false
set_option maxRecDepth 100000
set_option maxHeartbeats 4000000
namespace DL
open PySem PyProof.Rows L2

/-! ### defs -/
def PostF (K : PySem.W.Frag) (c : G) (H : Hp) (ι : List Addr) (Q : VK) (E : XK) : R D → Prop
  | .ok d S' => ∀ ι' H' v, Le H ι H' ι' → Rep K c H' ι' S' → RV K H' ι' d v → Q v H'
  | .ex e S' => ∀ ι' H' cl od, Le H ι H' ι' → Rep K c H' ι' S' → RX K c H' ι' e cl od → E cl od H'
  | .bad => False
/-- the promise of a def: it does what its denotation says -/
def spD (K : PySem.W.Frag) (c : G) (n : Nat) (den : List D → Sto → R D) : Sp := fun vs H Q E => vs.length = n ∧ ∃ ι S ds, Rep K c H ι S ∧ RVs K H ι ds vs ∧ PostF K c H ι Q E (den ds S)
def dFn (n : Nat) (body : DenS) : List D → Sto → R D := fun ds S => match body (ds.map some ++ List.replicate (n - ds.length) none) S with
  | .nx _ S' => .ok .non S'
  | .rt d S' => .ok d S'
  | .ex e _ S' => .ex e S'
  | _ => .bad
abbrev FnD (P : Program) (w : World) (K : PySem.W.Frag) (mg : Str → Option Value) (base : Heap) (c : G) (k : Nat) (f : Addr) (fd : FuncData) (ps : List Str) (den : List D → Sto → R D) : Prop := FnOk P w K mg base (L2.CX P w) k f fd ps (spD K c ps.length den)
theorem re_start {K : PySem.W.Frag} {c : G} {H : Hp} {ι : List Addr} {ds : List D} {vs : List V} {N : List Str} (hx : c.x = none) (r : RVs K H ι ds vs) : RE K c H ι (ds.map some ++ List.replicate (N.length - ds.length) none) (L2.start N vs) := by
  refine ⟨⟨by unfold L2.start; simp [r.length], fun i d h => ?_⟩, fun x h => by rw [hx] at h; cases h⟩
  have hi : i < ds.length := by
    by_cases hi : i < ds.length
    · exact hi
    · rw [List.getElem?_append_right (by simpa using hi), List.getElem?_replicate] at h
      split at h <;> cases h
  rw [List.getElem?_append_left (by simpa using hi), List.getElem?_map] at h
  cases e : ds[i]? with
  | none => rw [e] at h; cases h
  | some d' =>
    rw [e] at h
    cases h
    obtain ⟨v, hv, rv⟩ := r.get e
    refine ⟨v, ?_, rv⟩
    unfold L2.start
    rw [List.getElem?_append_left (by simpa using (List.getElem?_eq_some_iff.mp hv).1), List.getElem?_map, hv]; rfl
theorem fnd_body {P : Program} {w : World} {K : PySem.W.Frag} {c : G} {H : Hp} {N : List Str} {n : Nat} {body : DenS} {X : Cx} {st : List Stmt} {vs : List V} {Q : VK} {E : XK} (hK : X.K = K) (hx : c.x = none) (wk : Wk c X (fun cls d _ H => E cls d H)) (d : DSs c X st body) (h : spD K c n (dFn N.length body) vs H Q E) :
    ∃ t, PSs X st t ∧ t { nx := fun _ H' => Q .non H', rt := Q } (L2.start N vs) H := by
  subst hK
  obtain ⟨_, ι, S, ds, r, rv, p⟩ := h
  refine ⟨_, d.run X.pn X.xe (fun cls d _ H => E cls d H) wk, ι, S, _, r, re_start hx rv, ?_⟩
  unfold dFn at p
  cases q : body (ds.map some ++ List.replicate (N.length - ds.length) none) S with
  | nx τ S' => rw [q] at p; exact fun ι' H' σ' l r' _ => p ι' H' .non l r' .non
  | rt x S' => rw [q] at p; exact fun ι' H' v l r' rv' => p ι' H' v l r' rv'
  | ex e τ S' => rw [q] at p; exact fun ι' H' σ' cl od l r' _ rx => p ι' H' cl od l r' rx
  | bk τ S' => rw [q] at p; exact p.elim
  | ct τ S' => rw [q] at p; exact p.elim
  | bad => rw [q] at p; exact p.elim
theorem fnd_of {P : Program} {w : World} {K : PySem.W.Frag} {mg : Str → Option Value} {base : Heap} {c : G} {x qual : Str} {st : Stmt} {f : Addr} {fd : FuncData} {N ps : List Str} {k : Nat} {body : DenS} (hx : c.x = none) (F : Fun K x qual st f fd) (S : FnScope N ps (defScope st))
    (hb : ∀ (cdv : Value) (A : Around) (outer : List PySem.Env) (s : Shared) (H : Hp) (E : XK), Room k (A.deeper (envOfC qual (defScope st) s.heap.objs.size f cdv)) → DSs c (cxOf (L2.CX P w) P w K mg base N qual (defScope st) f cdv A outer s H E) (defBody st) body) :
    FnD P w K mg base c (k + 1) f fd ps (dFn N.length body) :=
  F.okX S (fun vs H Q E h => h.1) fun cdv A outer s H vs Q E hr h => fnd_body (P := P) (w := w) rfl hx ⟨takes_of rfl rfl rfl rfl, passes_of rfl, fun x h => by rw [hx] at h; cases h⟩ (hb cdv A outer s H E hr) h
theorem fnd_ofD {P : Program} {w : World} {K : PySem.W.Frag} {mg : Str → Option Value} {base : Heap} {c : G} {x qual : Str} {params : Arguments} {bd : List Stmt} {scope : Scope} {dvs : List V} {kws : List (Str × V)} {f : Addr} {fd : FuncData} {N ps : List Str} {k : Nat} {body : DenS} (hx : c.x = none) (F : FunD K x qual params bd scope dvs kws f fd) (S : FnScope N ps scope)
    (hb : ∀ (cdv : Value) (A : Around) (outer : List PySem.Env) (s : Shared) (H : Hp) (E : XK), Room k (A.deeper (envOfC qual scope s.heap.objs.size f cdv)) → DSs c (cxOf (L2.CX P w) P w K mg base N qual scope f cdv A outer s H E) bd body) :
    FnD P w K mg base c (k + 1) f fd ps (dFn N.length body) :=
  F.ok S (fun vs H Q E h => h.1) fun cdv A outer s H vs Q E hr h => fnd_body (P := P) (w := w) rfl hx ⟨takes_of rfl rfl rfl rfl, passes_of rfl, fun x h => by rw [hx] at h; cases h⟩ (hb cdv A outer s H E hr) h

section
variable {c : G} {X : Cx} {e a b : Expr} {es : List Expr} {da db : DenE} {dd : DenA} {pos : Pos} {k : Nat} {f : Addr} {fd : FuncData} {ps : List Str} {den : List D → Sto → R D} {x : Str} {p : Pos}
theorem PostF.of {K : PySem.W.Frag} {H : Hp} {ι : List Addr} {σ : L2.St} {W : WX} {Q : VK} {r : R D} (h : PostE K c (RV K) H ι σ W Q r) : PostF K c H ι Q (WE W σ) r := by
  cases r with
  | ok x S => exact h
  | ex e S => exact h
  | bad => exact h
theorem de_call (F : FnD X.prog X.w X.K X.mg X.base c k f fd ps den) (hr : Room k X.A) (hm : X.mg x = some (.ref f)) (hk : PySem.W.keepIn X.K (.ref f) = true) (hb : Binds X.K fd ps []) (ha : DA c X (e :: es) dd) (hl : (e :: es).length = ps.length := by rfl) (hg : Gl X x := by rfl)
    (hdb : (x == ("__debug__" : Str)) = false := by decide) (he : starEach (e :: es) X.env = (false, eval e X.env) :: starEach es X.env := by rfl) (hpl : (backTo pos (starEach es X.env)).any (·.1) = false := by rfl)
    (hn : ∀ τ S xs S', dd τ S = .ok xs S' → xs.length = (e :: es).length) : DE c X (.Call (.Name x p) (e :: es) [] pos) (dArgs den dd) := by
  refine ⟨fun pn xe W w => PE.imp (pe_callSD (X := X.tr pn xe) (E := WE W) F hr hg hm hk hb .nil (fun σ => passAt w.tk σ) (ha.run pn xe W w) hdb he hpl) fun σ H Q h => ?_⟩
  obtain ⟨ι, S, τ, rp, re, p⟩ := h
  have hlen : ∀ xs S', dd τ S = .ok xs S' → xs.length = ps.length := fun xs S' q => (hn τ S xs S' q).trans hl
  refine ⟨ι, S, τ, rp, re, ?_⟩
  unfold dArgs at p
  cases q : dd τ S with
  | ok xs S1 =>
    rw [q] at p
    intro ι1 H1 vs l1 r1 rv
    rw [List.append_nil]
    exact ⟨rv.length.symm.trans (hlen _ _ q), ι1, S1, xs, r1, rv, PostF.of (PostE.le l1 p)⟩
  | ex y S1 => rw [q] at p; exact p
  | bad => rw [q] at p; exact p
theorem de_call0 (F : FnD X.prog X.w X.K X.mg X.base c k f fd [] den) (hr : Room k X.A) (hm : X.mg x = some (.ref f)) (hk : PySem.W.keepIn X.K (.ref f) = true) (hb : Binds X.K fd [] []) (hg : Gl X x := by rfl) (hdb : (x == ("__debug__" : Str)) = false := by decide) (hE : ∀ (S : Sto) e S', den [] S ≠ .ex e S') : DE c X (.Call (.Name x p) [] [] pos) (dArgs den dNil) := by
  refine ⟨fun pn xe W w => PE.imp (pe_call0 (X := X.tr pn xe) (E := E0) F hr hg hm hk hb .nil passL hdb) fun σ H Q h => ?_⟩
  obtain ⟨ι, S, τ, rp, re, p⟩ := h
  have p : PostE X.K c (RV X.K) H ι σ W Q (den [] S) := p
  refine ⟨rfl, ι, S, [], rp, .nil, ?_⟩
  cases q : den [] S with
  | ok y S1 => rw [q] at p; exact p
  | ex y S1 => exact absurd q (hE S y S1)
  | bad => rw [q] at p; exact p
/-- the number of values of a written list of arguments -/
theorem dn_nil : ∀ (τ : DL.Env) (S : Sto) xs S', dNil τ S = .ok xs S' → xs.length = 0 := fun τ S xs S' h => by cases h; rfl
theorem dn_cons {n : Nat} (h : ∀ τ S xs S', dd τ S = .ok xs S' → xs.length = n) : ∀ τ S xs S', dCons da dd τ S = .ok xs S' → xs.length = n + 1 := fun τ S xs S' q => by
  unfold dCons at q
  cases q1 : da τ S with
  | ok y S1 =>
    rw [q1] at q
    dsimp only [R.bind] at q
    cases q2 : dd τ S1 with
    | ok ys S2 => rw [q2] at q; cases q; simp [h _ _ _ _ q2]
    | ex y S1 => rw [q2] at q; cases q
    | bad => rw [q2] at q; cases q
  | ex y S1 => rw [q1] at q; cases q
  | bad => rw [q1] at q; cases q

/-! ### raise -/
def sRaise (cn : Nat) (fn : Str) (da : DenE) : DenS := fun τ S => (da τ S).go τ fun v S1 => .ex ⟨cn, fn, v⟩ τ S1
/-- self.f = v, of an exception that is being made -/
def spI (C : Addr) (fn : Str) : Sp := fun vs H Q _ => ∃ (a : Addr) (y : V), vs = [.ref a, y] ∧ H a = some (exo a C none) ∧ ∀ dx, H dx = none → dx ≠ a → Q .non (upd (upd H dx (exd dx [(fn, y)])) a (exo a C (some dx)))
/-- what is known of an own exception class with one field -/
structure ExK (P : Program) (w : World) (K : PySem.W.Frag) (mg : Str → Option Value) (base : Heap) (C : Addr) (fn : Str) (fI : Addr) (fd : FuncData) (ps : List Str) (k : Nat) : Prop where
  T : OexC K C
  iC : PySem.W.findIn K (.ref C) "__init__" = some (some (.ref fI))
  tI : PySem.W.typeIn K (.ref fI) = some (.type "function")
  F : FnOk P w K mg base (L2.CX P w) k fI fd ps (spI C fn)
  b : Binds K fd ps []
/-- .. by its __init__'s text -/
theorem exk_mk {P : Program} {w : World} {K : PySem.W.Frag} {mg : Str → Option Value} {base : Heap} {C fI : Addr} {fn qual : Str} {st : Stmt} {fd : FuncData} {N : List Str} (T : OexC K C) (iC : PySem.W.findIn K (.ref C) "__init__" = some (some (.ref fI))) (tI : PySem.W.typeIn K (.ref fI) = some (.type "function"))
    (no : PySem.W.findIn K (.ref C) fn = some none) (F : Fun K "__init__" qual st fI fd) (S : FnScope N N (defScope st)) (hN : N.length = 2) (b : Binds K fd N [])
    (h : ∀ (cdv : Value) (A : Around) (outer : List PySem.Env) (s : Shared) (H : Hp) (E : XK), PSs (cxOf (L2.CX P w) P w K mg base N qual (defScope st) fI cdv A outer s H E) (defBody st) (tOst K fn (tVar 0) (tVar 1))) : ExK P w K mg base C fn fI fd N 1 :=
  ⟨T, iC, tI, F.okX S (fun vs H Q E h => by obtain ⟨a, y, rfl, _⟩ := h; exact hN.symm) fun cdv A outer s H vs Q E hr q => by
    obtain ⟨a, y, rfl, ha, k⟩ := q
    refine ⟨_, h cdv A outer s H E, y, ?_, .ref a, ?_, a, C, rfl, T, no, .inl ⟨ha, fun dx n ne => k dx n ne⟩⟩
    · unfold L2.start; simp
    · unfold L2.start; simp, b⟩
theorem ds_raise {C : Addr} {fn : Str} {fI : Addr} {cn : Nat} {p1 p2 : Pos} (T : ExK X.prog X.w X.K X.mg X.base C fn fI fd ps k) (hc : X.calm = true) (hr : Room (k + 1) X.A) (hC : c.cls cn = C) (hm : X.mg x = some (.ref C)) (ha : DE c X a da) (hg : Gl X x := by rfl)
    (hdb : (x == ("__debug__" : Str)) = false := by decide) (he : starEach [a] X.env = (false, eval a X.env) :: starEach [] X.env := by rfl) (hpl : (backTo p2 (starEach [] X.env)).any (·.1) = false := by rfl) : DS c X (.Raise (some (.Call (.Name x p1) [a] [] p2)) none pos) (sRaise cn fn da) := by
  refine ⟨fun pn xe W w => PS.imp (ps_raise (X := X.tr pn xe) hc w.tk (pmk_oex T.T T.iC T.tI T.F hr T.b .nil passL hg hm (pa_cons (ha.run pn xe W w) pa_nil he) hdb he hpl)) fun E σ H h => ?_⟩
  obtain ⟨ι, S, τ, rp, re, p⟩ := h
  refine rds_go rp re p fun ι1 H1 S1 y v l1 r1 re1 rv p1 => ⟨by simp, fun q hq => ⟨q, v, rfl, upd_same, fun dx hdx hne => ⟨rfl, dx, [(fn, v)], upd_same, ?_, ?_, ?_⟩⟩⟩
  · rw [upd_ne hne, upd_same]
  · rw [upd_ne hne] at hdx; exact hdx
  · have hd1 : H1 dx = none := by rw [upd_ne hne] at hdx; exact hdx
    have e : upd (L2.del (upd (upd (upd H1 q (exo q C none)) dx (exd dx [(fn, v)])) q (exo q C (some dx))) q) dx (.xd [(fn, v)]) = upd H1 dx (.xd [(fn, v)]) := by
      funext z
      by_cases h1 : z = dx
      · subst h1; rw [upd_same, upd_same]
      · rw [upd_ne h1, upd_ne h1]
        by_cases h2 : z = q
        · subst h2; rw [L2.del_same]; exact hq.symm
        · rw [L2.del_ne h2, upd_ne h2, upd_ne h1, upd_ne h2]
    show W _ _ σ (upd (L2.del _ q) dx (.xd [(fn, v)]))
    rw [e]
    have L : Le H1 ι1 (upd H1 dx (.xd [(fn, v)])) ι1 := .new hd1
    exact p1 ι1 _ σ _ _ L (r1.new hd1) (re1.mono L) ⟨by rw [hC], dx, v, rfl, upd_same, rv.mono L⟩
end
end DL

set_option Elab.async false
set_option linter.all false
set_option maxRecDepth 100000
set_option maxHeartbeats 4000000
namespace DL
open PySem PyProof.Rows L2
section
variable {c : G} {X : Cx} {e a b : Expr} {es : List Expr} {da db : DenE} {dd : DenA} {pos : Pos}
/-! ### try .. except C as n -/
/-- the class test by numbers: below nc known -/
structure Catches (K : PySem.W.Frag) (c : G) (h : Value) (nc : Nat) (mt : Nat → Bool) : Prop where
  is : ∀ k, k < nc → PySem.W.exmOne K (.ref (c.cls k)) h = some (mt k)
def fin (i : Nat) : Rs → Rs
  | .nx τ S => .nx (τ.set i none) S
  | .bk τ S => .bk (τ.set i none) S
  | .ct τ S => .ct (τ.set i none) S
  | .rt d S => .rt d S
  | _ => .bad
def sTry (nc : Nat) (mt : Nat → Bool) (i : Nat) (body : DenS) (su : Exc → DenS) : DenS := fun τ S => match body τ S with
  | .ex e τ' S' => if e.c < nc ∧ i < τ'.length then (if mt e.c = true then fin i (su e (τ'.set i none) S') else .ex e τ' S') else .bad
  | r => r
def G.inS (c : G) (x : XI) : G := { c with x := some x }
theorem RX.nin {K : PySem.W.Frag} {H : Hp} {ι : List Addr} {S : Sto} {d : Addr} {fs : List (Str × V)} (r : Rep K c H ι S) (h : H d = some (.xd fs)) : d ∉ ι := fun hm => by
  obtain ⟨n, o, _, _, q⟩ := r.there hm
  cases o with
  | lst xs => obtain ⟨vs, e, _⟩ := q; rw [e] at h; cases h
  | dic kvs => obtain ⟨ks, e, _⟩ := q; rw [e] at h; cases h
  | ins C fs => obtain ⟨dx, gs, e, _⟩ := q; rw [e] at h; cases h
  | sl C vs =>
    obtain ⟨dx, ws, s, _⟩ := q
    rcases s with ⟨e, _⟩ | ⟨e, _⟩
    · rw [e] at h; cases h
    · rw [e] at h
      have z : SlX.SlO d (c.cls C) dx ws = .xd fs := Option.some.inj h
      have z' : HO.ext _ = HO.xd fs := z
      cases z'
theorem Rep.inS {K : PySem.W.Frag} {H : Hp} {ι : List Addr} {S : Sto} {i : Nat} {ad d : Addr} {ex : Exc} {v : V} (r : Rep K c H ι S) (h : H d = some (.xd [(ex.f, v)])) (q : RV K H ι ex.v v) : Rep K (c.inS ⟨i, ad, d, ex⟩) H ι S :=
  ⟨r.len, r.nd, r.obj, fun x hx => by cases hx; exact ⟨RX.nin r h, v, h, q⟩⟩
theorem Rep.outS {K : PySem.W.Frag} {H : Hp} {ι : List Addr} {S : Sto} {x : XI} (hc : c.x = none) (r : Rep K (c.inS x) H ι S) : Rep K c H ι S :=
  ⟨r.len, r.nd, r.obj, fun x hx => by rw [hc] at hx; cases hx⟩
theorem RW.set_none {K : PySem.W.Frag} {H : Hp} {ι : List Addr} {τ : DL.Env} {σ : L2.St} (i : Nat) (o : Option V) (r : RW K H ι τ σ) : RW K H ι (τ.set i none) (σ.set i o) := by
  refine ⟨by simp [r.1], fun j d h => ?_⟩
  by_cases e : i = j
  · subst e
    by_cases hl : i < τ.length
    · rw [List.getElem?_set_self hl] at h; cases h
    · rw [List.getElem?_eq_none (by simp; omega)] at h; cases h
  · rw [List.getElem?_set_ne e] at h ⊢
    exact r.2 j d h
theorem ds_try {x n : Str} {hv : Value} {i : Nat} {body suite : List Stmt} {b0 : Stmt} {np pos' : Pos} {d : DenS} {su : Exc → DenS} {nc : Nat} {mt : Nat → Bool} (hcx : c.x = none) (hs : X.stack = X.env :: X.outer) (hf : X.env.frame = some X.env.locals) (hN : X.N.Nodup) (hcl : Names X x hv) (hct : Catches X.K c hv nc mt) (hb : DSs c X body d)
    (hsu : ∀ (ad : Addr) (oe : Obj) (dx : Addr) (pn : List (Addr × Obj)) (ex : Exc), Zc (.ref (c.cls ex.c)) (some dx) oe → (∃ vs, oe.data = .fields vs) → DSs (c.inS ⟨i, ad, dx, ex⟩) (X.suite ad ((ad, oe) :: pn)) (b0 :: suite) (su ex))
    (hi : X.N[i]? = some n := by rfl) (hln : X.env.kindOf n = some .local := by rfl) :
    DS c X (.Try body [.ExceptHandler (some (.Name x np)) (some n) (b0 :: suite) pos'] [] [] pos) (sTry nc mt i d su) := by
  refine ⟨fun pn xe W w => ?_⟩
  refine PS.imp (ps_try_as (X := X.tr pn xe) (c := hv) (tb := fun W => rdS X.K c d W) (ts := fun ad cl od D σ H => ∃ (ex : Exc) (dx : Addr), cl = .ref (c.cls ex.c) ∧ od = some dx ∧ rdS X.K (c.inS ⟨i, ad, dx, ex⟩) (su ex) (fun _ _ _ _ => False) D σ H) hs hf hN hi hln hcl w.tk
    (fun W' pn' xe' tk' po' => hb.run pn' xe' W' ⟨tk', po', fun x h => by rw [hcx] at h; cases h⟩) (fun ad oe cl od pn' hz hfl => ⟨fun pins s σ H D I h => ?_⟩)) fun E σ H h => ?_
  · obtain ⟨ex, dx, rfl, rfl, h⟩ := h
    exact ((hsu ad oe dx pn' ex hz hfl).run ((ad, oe) :: pn') (fun _ _ => False) (fun _ _ _ _ => False) ⟨takes_none5, PassesOwn.never, fun x hx => by cases hx; exact ⟨oe, List.mem_cons_self, hz, hfl⟩⟩).run pins s σ H D I h
  · obtain ⟨ι, S, τ, rp, re, p⟩ := h
    refine ⟨ι, S, τ, rp, re, ?_⟩
    unfold sTry at p
    cases q : d τ S with
    | nx τ1 S1 => rw [q] at p; exact p
    | rt τ1 S1 => rw [q] at p; exact p
    | bk τ1 S1 => rw [q] at p; exact p
    | ct τ1 S1 => rw [q] at p; exact p
    | bad => rw [q] at p; exact p
    | ex ex τ1 S1 =>
      rw [q] at p
      dsimp only at p
      intro ι1 H1 σ1 cl od l1 r1 re1 rx
      split at p
      · rename_i hlt
        obtain ⟨rfl, dx, v, rfl, ed, rv⟩ := rx
        refine ⟨mt ex.c, hct.is _ hlt.1, fun hm ad had => ?_, fun hm => ?_⟩
        · rw [if_pos hm] at p
          have re2 : RE X.K (c.inS ⟨i, ad, dx, ex⟩) H1 ι1 (τ1.set i none) (σ1.set i (some (.ref ad))) := ⟨re1.1.set_none i _, fun x hx => by
            cases hx
            exact List.getElem?_set_self (by rw [← re1.1.1]; exact hlt.2)⟩
          refine ⟨ex, dx, rfl, rfl, ι1, S1, τ1.set i none, r1.inS ed rv, re2, ?_⟩
          cases qs : su ex (τ1.set i none) S1 with
          | nx τ2 S2 => rw [qs] at p; exact fun ι2 H2 σ2 l2 r2 re3 => p ι2 H2 _ (l1.trans l2) (r2.outS hcx) ⟨re3.1.set_none i _, fun x hx => by rw [hcx] at hx; cases hx⟩
          | bk τ2 S2 => rw [qs] at p; exact fun ι2 H2 σ2 l2 r2 re3 => p ι2 H2 _ (l1.trans l2) (r2.outS hcx) ⟨re3.1.set_none i _, fun x hx => by rw [hcx] at hx; cases hx⟩
          | ct τ2 S2 => rw [qs] at p; exact fun ι2 H2 σ2 l2 r2 re3 => p ι2 H2 _ (l1.trans l2) (r2.outS hcx) ⟨re3.1.set_none i _, fun x hx => by rw [hcx] at hx; cases hx⟩
          | rt x2 S2 => rw [qs] at p; exact fun ι2 H2 v2 l2 r2 rv2 => p ι2 H2 v2 (l1.trans l2) (r2.outS hcx) rv2
          | ex z τ2 S2 => rw [qs] at p; exact p.elim
          | bad => rw [qs] at p; exact p.elim
        · rw [if_neg (by rw [hm]; exact Bool.false_ne_true)] at p
          exact p ι1 H1 σ1 _ _ l1 r1 re1 ⟨rfl, dx, v, rfl, ed, rv⟩
      · exact p.elim
/-! ### in an except suite -/
/-- error.f -/
def eXf (nc : Nat) (fn : Str) (ex : Exc) : DenE := fun _ S => if ex.f = fn ∧ ex.c < nc then .ok ex.v S else .bad
theorem de_xf {i : Nat} {ad dx : Addr} {ex : Exc} {n fn : Str} {p1 : Pos} {nc : Nat} (hT : ∀ k, k < nc → XfC X.K (c.cls k)) (hno : ∀ k, k < nc → PySem.W.findIn X.K (.ref (c.cls k)) fn = some none)
    (hi : X.N[i]? = some n := by rfl) (hv : Vis X.env.scope n := by first | exact Or.inl rfl | exact Or.inr (Or.inl rfl)) (hd : (n == ("__debug__" : Str)) = false := by decide) (hcd : (n == ("__classdict__" : Str)) = false := by decide)
    (hb : attributeBase (.Name n p1) fn X.env (eval (.Name n p1) X.env) = eval (.Name n p1) X.env := by rfl) :
    DE (c.inS ⟨i, ad, dx, ex⟩) X (.Attribute (.Name n p1) fn pos) (eXf nc fn ex) := by
  refine ⟨fun pn' xe W w => ⟨fun pins s σ H Q I h => ?_⟩⟩
  obtain ⟨ι, S, τ, rp, re, p⟩ := h
  unfold eXf at p
  split at p
  case isFalse => exact p.elim
  rename_i hh
  obtain ⟨oe, hpin, hz, vs, hvs⟩ := w.px _ rfl
  obtain ⟨hnin, y, hy, ry⟩ := rp.xd _ rfl
  have hs : σ[i]? = some (some (.ref ad)) := re.2 _ rfl
  have T := hT _ hh.2
  refine attr_of hb (thn ((pe_var (X := X.tr pn' xe) hi hv hd hcd).run pins s σ H (fun v H1 => v = .ref ad ∧ H1 = H) I ⟨_, hs, rfl, rfl⟩) fun u s1 hu => ?_)
  obtain ⟨x0, H0, I1, r0, e0, e1⟩ := hu
  subst e0; subst e1
  obtain rfl : u = Value.ref ad := r0
  have hget := (I1.pin (ad, oe) (List.mem_append_left _ hpin)).1
  obtain ⟨mA, hns, hrel⟩ := (show ObjOk X.prog X.w _ s1.heap dx (.xd [(ex.f, y)]) from I1.hok dx _ hy)
  obtain ⟨od, hod, hlk⟩ := lookIn_ns hns
  have hlook : ([(ex.f, y)] : List (Str × V)).lookup fn = some y := by rw [← hh.1]; simp [List.lookup]
  obtain ⟨u1, hu1, ru1⟩ := RelO.some_of (v := y) (o := mA fn) (by rw [← hlook]; exact hrel fn)
  have J : PySem.W.InstAt s1.heap ad oe (c.cls ex.c) (some od) := ⟨hget, hz.1, by unfold PySem.W.notCls; rw [hvs], by rw [hz.2]; exact hod⟩
  exact HandSPX.exc_get I1.kIn J T.ga T.gg T.exC (PySem.W.findObj_own T.hdC (hno _ hh.2) rfl (by rw [hlk, hu1])) (handed_of ru1) ⟨y, _, I1.tok _, ru1, p.here rp ry⟩
end
end DL

set_option Elab.async false
set_option linter.all false
set_option maxRecDepth 100000
set_option maxHeartbeats 4000000
namespace PySem.W
open PySem PySem.Spec PySem.Calls PyProof.Rows
section
open Builtin
variable {K : Frag} {D : Addr}
/-- what isinstance asks of an exception that has a dict: its class by __class__ -/
theorem dl_class {prog : Program} {w : World} {A : Around} {E : Value → Shared → Prop} {s : Shared} {x : Addr} {ox od : Obj} {Q : Option Value → Shared → Prop} (C : L2.ExcC K D) (X : K.In s.heap) (I : InstAt s.heap x ox D (some od))
    (h : Q (some (.ref D)) { s with toks := s.toks + 1 }) : wpAny (model prog w) A (getAttr? (.ref x) "__class__") Q E s := by
  obtain ⟨cdD, hcD, _⟩ := any_some C.hd
  have hf := findObj_data (K := K) (C := D) (od := od) (name := "__class__") (by rw [hcD]; rfl) C.ha C.hn C.ht
  obtain ⟨hp, gens, dr, tk, os⟩ := s
  have lty := I.type (M := model prog w)
  have lga := looks_findIn (M := model prog w) X C.hg
  have lgg := looks_findIn (M := model prog w) X C.hk
  have lat := looks_find (M := model prog w) X I hf
  have isE : Looks (model prog w) hp (isInstance (.ref x) (.type "BaseException")) true := lty.andThen (looks_subIn X C.hs)
  have n1 : (false && onTheHeap (Value.builtin "BaseException.__getattribute__")) = false := rfl
  have n2 : (Value.builtin "BaseException.__getattribute__" == Value.builtin "object.__getattribute__") = false := by decide +kernel
  have n3 : (onTheHeap (Value.ref D) && Value.builtin "BaseException.__getattribute__" == Value.builtin "object.__getattribute__") = false := by rw [n2]; rfl
  unfold getAttr? getAttrBy? getAttrBy
  refine wpAny_bind (wpAny_mkText (wpAny_bind (wpAny_attempt (wpAny_holding (wpAny_bind (lty.at (wpAny_bind (lga.at ?_))))))))
  show wpAny _ _ (if (onTheHeap (Value.ref D) && Value.builtin "BaseException.__getattribute__" == Value.builtin "object.__getattribute__") = true then _ else _) _ _ _
  rw [n3, if_neg Bool.false_ne_true]
  unfold getAttrByItsOwn hookBefore
  refine wpAny_bind ?_
  rw [if_pos (show onTheHeap (Value.ref D) = true from rfl)]
  refine lgg.at (wpAny_bind (wpAny_attempt (wpAny_holding ?_)))
  unfold callGetattribute
  rw [n1, if_neg Bool.false_ne_true]
  unfold boundAndCalled
  rw [PySem.F.excAttr_ValueError.ga.bind (.ref x)]
  refine wpAny_bind (wpAny_pure ?_)
  show wpAny _ _ (call (.builtin "BaseException.__getattribute__") [.ref x, .str "__class__" tk]) _ _ _
  refine wpAny_call (codeAny_call_builtin PySem.F.excAttr_ValueError.ga.plain PySem.F.entry_bexc_ga ?_)
  refine @check_slot (model prog w) _ _ ⟨hp, gens, dr, tk + 1, os⟩ "BaseException.__getattribute__" "BaseException" "__getattribute__" (.ref x) [.str "__class__" tk] [] _ (by decide +kernel) (by decide +kernel) isE (PySem.F.args_bexc_ga (.ref x) (.str "__class__" tk)) ?_
  unfold Builtin.«object.__getattribute__»
  refine wpAny_bind (wpAny_of_eq (a := ((Value.ref x : Value), [Value.str "__class__" tk])) (by first | rfl | (simp only [slotArgs]; rfl)) ?_)
  refine wpAny_bind (wpAny_pure (wpAny_bind (lty.at (wpAny_bind (lat.at ?_)))))
  show wpAny _ _ (holding [Value.builtin "object.__class__"] (call (.builtin "getset_descriptor.__get__") [.builtin "object.__class__", .ref x, .ref D]) >>= ret) _ _ _
  refine wpAny_bind (wpAny_holding (wpAny_call (class_get (s := ⟨hp, gens, dr, tk + 1, os⟩) (ox := ox) (od := some od) X I C.hm ?_)))
  refine wpAny_pure ?_
  show wpAny _ _ (handedOut (.ref D)) _ _ _
  rw [handedOut_of (v := .ref D) rfl]
  first
    | exact wpAny_pure (wpAny_pure h)
    | exact wpAny_pure h
    | exact wpAny_pure (wpAny_bind (wpAny_pure (wpAny_pure h)))
theorem dl_kit {x : Addr} {ox od : Obj} (C : L2.ExcC K D) : KitX K (.ref x) (.ref D) (fun h => InstAt h x ox D (some od)) := by
  obtain ⟨cdD, hcD, _⟩ := any_some C.hd
  have there : ∃ o, K.lookup D = some o ∧ ∀ dd its n sl, o ≠ ⟨.type "tuple", dd, .seq its n, sl⟩ := by
    unfold clsIn at hcD
    split at hcD
    · rename_i c' d' cd' sl' ho
      exact ⟨_, ho, fun dd its n sl z => nomatch z⟩
    · cases hcD
  refine ⟨fun _ _ _ I => I.type, fun M h X _ => ?_, fun h tp dd its n sl X htp => ?_, fun X I k => dl_class C X I k⟩
  · unfold clsIn at hcD
    split at hcD
    · rename_i c' d' cd' sl' ho
      intro A' Q' E' s' k q
      unfold isType loadHead
      exact wpAny_bind (wpAny_loadPart (k _ _ (X _ _ ho)) (wpAny_pure q))
    · cases hcD
  · obtain ⟨o, ho, no⟩ := there
    refine Bool.eq_false_iff.mpr fun q => ?_
    have e : D = tp := Value.ref.inj (beq_iff_eq.mp q)
    subst e
    exact no _ _ _ _ (Option.some.inj ((X _ _ ho).symm.trans htp))
end
end PySem.W
namespace DL
open PySem PyProof.Rows L2
section
variable {c : G} {X : Cx} {pos : Pos}
/-- isinstance(error, C): told by the class's number -/
def eXis (nc : Nat) (mt : Nat → Bool) (ex : Exc) : DenE := fun _ S => if ex.c < nc then .ok (.bl (mt ex.c)) S else .bad
theorem xis_run {i : Nat} {ad dx : Addr} {ex : Exc} {n u : Str} {p p1 p2 : Pos} {nc : Nat} {mt : Nat → Bool} {cv : Value} {tv : V} (hT : ∀ k, k < nc → ExcC X.K (c.cls k)) (hk : ∀ k, k < nc → PySem.W.kitOne X.K (.ref (c.cls k)) cv = some (mt k)) (hcv : ∀ u', RelV tv u' → u' = cv) (hu : ∀ pn xe, PE (X.tr pn xe) (.Name u p2) (tC tv)) (hmi : X.mg "isinstance" = none)
    (hi : X.N[i]? = some n := by rfl) (hv : Vis X.env.scope n := by first | exact Or.inl rfl | exact Or.inr (Or.inl rfl)) (hd : (n == ("__debug__" : Str)) = false := by decide) (hcd : (n == ("__classdict__" : Str)) = false := by decide) (hg : Gl X "isinstance" := by rfl)
    (h1 : starEach [.Name n p1, .Name u p2] X.env = (false, eval (.Name n p1) X.env) :: starEach [.Name u p2] X.env := by rfl) (h2 : starEach [.Name u p2] X.env = (false, eval (.Name u p2) X.env) :: starEach [] X.env := by rfl) (hpl : (backTo pos (starEach [.Name u p2] X.env)).any (·.1) = false := by rfl) :
    DE (c.inS ⟨i, ad, dx, ex⟩) X (.Call (.Name "isinstance" p) [.Name n p1, .Name u p2] [] pos) (eXis nc mt ex) := by
  refine ⟨fun pn' xe W w => ?_⟩
  by_cases hlt : ex.c < nc
  · have T := hT _ hlt
    obtain ⟨oe, hpin, hz, vs, hvs⟩ := w.px _ rfl
    -- the answer at the exception's own address, where its dict stands
    have cr : CallR (X.tr pn' xe) (.builtin "isinstance") (fun xs H Q => xs = [.ref ad, tv] ∧ (∃ y, H dx = some (.xd [(ex.f, y)])) ∧ Q (.bl (mt ex.c)) H) := by
      intro pins s σ H xs us Q I r h
      obtain ⟨rfl, ⟨y, hy⟩, q⟩ := h
      obtain ⟨u1, u2, rfl, r1, r2⟩ := vals2 r
      obtain rfl : u1 = Value.ref ad := r1
      have e2 := hcv _ r2
      subst e2
      have hget := (I.pin (ad, oe) (List.mem_append_left _ hpin)).1
      obtain ⟨mA, hns, hrel⟩ := (show ObjOk X.prog X.w _ s.heap dx (.xd [(ex.f, y)]) from I.hok dx _ hy)
      obtain ⟨od, hod, hlk⟩ := lookIn_ns hns
      have J : PySem.W.InstAt s.heap ad oe (c.cls ex.c) (some od) := ⟨hget, hz.1, by unfold PySem.W.notCls; rw [hvs], by rw [hz.2]; exact hod⟩
      exact PySem.W.kia_one (PySem.W.dl_kit T) I.kIn J (hk _ hlt) (fun z => nomatch z) fun tk => ⟨.bl _, H, I.kept (t' := tk) fun _ _ z => z, rfl, q⟩
    refine PE.imp (pe_callB cr hg hmi (by decide +kernel) (pa_cons (pe_var (X := X.tr pn' xe) hi hv hd hcd) (pa_cons (hu pn' xe) pa_nil h2) h1) (by decide) (by decide) h1 hpl) fun σ H Q h => ?_
    obtain ⟨ι, S, τ, rp, re, p⟩ := h
    unfold eXis at p
    rw [if_pos hlt] at p
    obtain ⟨hnin, y, hy, ry⟩ := rp.xd _ rfl
    exact ⟨_, re.2 _ rfl, rfl, ⟨y, hy⟩, p.here rp .bl⟩
  · refine ⟨fun pins s σ H Q I h => ?_⟩
    obtain ⟨ι, S, τ, rp, re, p⟩ := h
    unfold eXis at p
    rw [if_neg hlt] at p
    exact p.elim
theorem de_xisO {i : Nat} {ad dx C : Addr} {ex : Exc} {n u : Str} {p p1 p2 : Pos} {nc : Nat} {mt : Nat → Bool} (hT : ∀ k, k < nc → ExcC X.K (c.cls k)) (hk : ∀ k, k < nc → PySem.W.kitOne X.K (.ref (c.cls k)) (.ref C) = some (mt k)) (hmu : X.mg u = some (.ref C)) (hmi : X.mg "isinstance" = none)
    (hi : X.N[i]? = some n := by rfl) (hgu : Gl X u := by rfl) (hdu : (u == ("__debug__" : Str)) = false := by decide) (hv : Vis X.env.scope n := by first | exact Or.inl rfl | exact Or.inr (Or.inl rfl)) (hd : (n == ("__debug__" : Str)) = false := by decide) (hcd : (n == ("__classdict__" : Str)) = false := by decide) (hg : Gl X "isinstance" := by rfl)
    (h1 : starEach [.Name n p1, .Name u p2] X.env = (false, eval (.Name n p1) X.env) :: starEach [.Name u p2] X.env := by rfl) (h2 : starEach [.Name u p2] X.env = (false, eval (.Name u p2) X.env) :: starEach [] X.env := by rfl) (hpl : (backTo pos (starEach [.Name u p2] X.env)).any (·.1) = false := by rfl) :
    DE (c.inS ⟨i, ad, dx, ex⟩) X (.Call (.Name "isinstance" p) [.Name n p1, .Name u p2] [] pos) (eXis nc mt ex) :=
  xis_run (tv := .ref C) hT hk (fun _ r => r) (fun pn xe => pe_glob (X := X.tr pn xe) hgu hmu rfl hdu) hmi hi hv hd hcd hg h1 h2 hpl
theorem de_xisT {i : Nat} {ad dx : Addr} {T : String} {ex : Exc} {n u : Str} {p p1 p2 : Pos} {nc : Nat} {mt : Nat → Bool} (hT : ∀ k, k < nc → ExcC X.K (c.cls k)) (hk : ∀ k, k < nc → PySem.W.kitOne X.K (.ref (c.cls k)) (.type T) = some (mt k)) (hmu : X.mg u = none) (hbu : bootBuiltins u = some (.type T)) (hmi : X.mg "isinstance" = none)
    (hi : X.N[i]? = some n := by rfl) (hgu : Gl X u := by rfl) (hnu : u ≠ "__name__" := by decide) (hdu : (u == ("__debug__" : Str)) = false := by decide) (hv : Vis X.env.scope n := by first | exact Or.inl rfl | exact Or.inr (Or.inl rfl)) (hd : (n == ("__debug__" : Str)) = false := by decide) (hcd : (n == ("__classdict__" : Str)) = false := by decide) (hg : Gl X "isinstance" := by rfl)
    (h1 : starEach [.Name n p1, .Name u p2] X.env = (false, eval (.Name n p1) X.env) :: starEach [.Name u p2] X.env := by rfl) (h2 : starEach [.Name u p2] X.env = (false, eval (.Name u p2) X.env) :: starEach [] X.env := by rfl) (hpl : (backTo pos (starEach [.Name u p2] X.env)).any (·.1) = false := by rfl) :
    DE (c.inS ⟨i, ad, dx, ex⟩) X (.Call (.Name "isinstance" p) [.Name n p1, .Name u p2] [] pos) (eXis nc mt ex) :=
  xis_run (tv := .ty T) hT hk (fun _ r => r) (fun pn xe => pe_bltn (X := X.tr pn xe) hgu hmu hbu rfl hnu hdu) hmi hi hv hd hcd hg h1 h2 hpl
end
end DL

set_option Elab.async false
set_option linter.all false
set_option maxRecDepth 100000
set_option maxHeartbeats 4000000
namespace DL
open PySem PyProof.Rows L2
section
variable {c : G} {X : Cx} {e a b : Expr} {es : List Expr} {da db : DenE} {dd : DenA} {pos : Pos}
/-! ### instances with slots -/
def putD (i : Nat) (v : D) (vs : List (Option D)) : List (Option D) := (vs ++ List.replicate (i + 1 - vs.length) Option.none).set i (some v)
theorem RW.put {K : PySem.W.Frag} {H : Hp} {ι : List Addr} {vs : List (Option D)} {ws : List (Option V)} (i : Nat) {d : D} {v : V} (r : RW K H ι vs ws) (q : RV K H ι d v) : RW K H ι (putD i d vs) (SlX.putS i v ws) := by
  unfold putD SlX.putS
  rw [← r.1]
  refine RW.set i ⟨by simp [r.1], fun j x h => ?_⟩ q
  by_cases hj : j < vs.length
  · rw [List.getElem?_append_left hj] at h
    rw [List.getElem?_append_left (r.1 ▸ hj)]
    exact r.2 j x h
  · rw [List.getElem?_append_right (by omega), List.getElem?_replicate] at h
    split at h <;> cases h
def oSlot (cn i : Nat) (x : D) (S : Sto) : R D := match x with
  | .ref n => match S[n]? with
    | some (.sl C vs) => if C = cn then match vs[i]? with
      | some (some d) => .ok d S
      | _ => .bad else .bad
    | _ => .bad
  | _ => .bad
theorem de_slot {f : Str} {C q : Addr} {cn i : Nat} (hC : c.cls cn = C) (hS : SlX.SCls X.K C) (hT : SlX.Slot1 X.K C f q i) (he : DE c X a da) (hb : attributeBase a f X.env (eval a X.env) = eval a X.env := by rfl) : DE c X (.Attribute a f pos) (dUn (oSlot cn i) da) := by
  refine ⟨fun pn xe W w => PE.imp (SlX.pe_sl (he.run pn xe W w) hb) fun σ H Q h => ?_⟩
  obtain ⟨ι, S, τ, rp, re, p⟩ := h
  refine rd_go rp re p fun ι1 H1 S1 x v l1 r1 re1 rv p1 => ?_
  unfold oSlot at p1
  split at p1
  · obtain ⟨ad, rfl, hn⟩ := rv.ref_inv
    split at p1
    · rename_i hs
      split at p1
      · rename_i hcn
        subst hcn
        split at p1
        · rename_i hd
          obtain ⟨dx, ws, s, hh, n1, n2, rw'⟩ := r1.obj _ _ ad hs hn
          obtain ⟨w, hw, rv'⟩ := rw'.2 _ _ hd
          exact ⟨ad, C, dx, q, ws, i, w, rfl, hC ▸ s, hS, hT, hw, p1.here r1 rv'⟩
        · exact p1.elim
      · exact p1.elim
    · exact p1.elim
  · exact p1.elim
def sSlot (cn i : Nat) (dv do' : DenE) : DenS := fun τ S => (dv τ S).go τ fun v S1 => (do' τ S1).go τ fun x S2 => match x with
  | .ref n => match S2[n]? with
    | some (.sl C vs) => if C = cn then .nx τ (S2.set n (.sl C (putD i v vs))) else .bad
    | _ => .bad
  | _ => .bad
/-- a slot is written -/
theorem slot_write {K : PySem.W.Frag} {H : Hp} {ι : List Addr} {S : Sto} {n cn i : Nat} {ad dx : Addr} {vs : List (Option D)} {ws : List (Option V)} {d : D} {v : V} (r : Rep K c H ι S) (hs : S[n]? = some (.sl cn vs)) (hn : ι[n]? = some ad) (s : SlX.Slt H ad (c.cls cn) dx ws) (hh : ∃ u, H dx = some u ∧ (u = .own ad ∨ u = .xd [])) (n1 : dx ∉ ι) (n2 : dx ≠ ad) (rw' : RW K H ι vs ws) (rv : RV K H ι d v) :
    Le H ι (SlX.slH H ad (c.cls cn) dx (SlX.putS i v ws)) ι ∧ Rep K c (SlX.slH H ad (c.cls cn) dx (SlX.putS i v ws)) ι (S.set n (.sl cn (putD i d vs))) := by
  have hi : ad ∈ ι := List.mem_of_getElem? hn
  obtain ⟨u, hu, hdu⟩ := hh
  obtain ⟨va, hva, hwa⟩ : ∃ va, H ad = some va ∧ wri va = true ∧ isLs va = false := by
    rcases s with ⟨e, _⟩ | ⟨e, _⟩
    · exact ⟨_, e, rfl, rfl⟩
    · exact ⟨_, e, rfl, rfl⟩
  have nt : ∀ a xs, H a = some (.tup xs) → a ≠ ad ∧ a ≠ dx := fun a xs h => ⟨ne_of h hva (fun z => by rw [← z] at hwa; cases hwa.1), ne_of h hu (fun z => by rcases hdu with e | e <;> rw [e] at z <;> cases z)⟩
  have nf : ∀ a o xs, H a = some (.frz o xs) → a ≠ ad ∧ a ≠ dx := fun a o xs h => ⟨ne_of h hva (fun z => by rw [← z] at hwa; cases hwa.1), ne_of h hu (fun z => by rcases hdu with e | e <;> rw [e] at z <;> cases z)⟩
  have same : ∀ b, b ≠ ad → b ≠ dx → SlX.slH H ad (c.cls cn) dx (SlX.putS i v ws) b = H b := fun b h1 h2 => SlX.slH_ne h1 h2
  have atdx : SlX.slH H ad (c.cls cn) dx (SlX.putS i v ws) dx = some (.xd []) := by unfold SlX.slH; rw [upd_ne n2, upd_same]
  have LL : Le H ι (SlX.slH H ad (c.cls cn) dx (SlX.putS i v ws)) ι := by
    refine ⟨⟨[], by simp⟩, fun a xs h => ?_, fun a o xs h => ?_, fun a o h nn => ?_⟩
    · rw [same a (nt a xs h).1 (nt a xs h).2]; exact h
    · rw [same a (nf a o xs h).1 (nf a o xs h).2]; exact h
    · have ha : a ≠ ad := fun z => nn (z ▸ hi)
      by_cases hb : a = dx
      · subst hb
        refine ⟨_, atdx, nn, fun w => ?_⟩
        rw [hu] at h
        cases h
        rcases hdu with e | e
        · exact absurd e (w _)
        · exact e.symm
      · exact ⟨o, by rw [same a ha hb]; exact h, nn, fun _ => rfl⟩
  refine ⟨LL, by simp [r.len], r.nd, fun m o' b h1 h2 => ?_, fun x hx => ?_⟩
  · by_cases e : n = m
    · subst e
      rw [hn] at h2
      cases h2
      rw [List.getElem?_set_self (by rw [← r.len]; exact (List.getElem?_eq_some_iff.mp hn).1)] at h1
      cases h1
      exact ⟨dx, _, SlX.slH_slt n2, ⟨_, atdx, .inr rfl⟩, n1, n2, (rw'.put i rv).mono LL⟩
    · rw [List.getElem?_set_ne e] at h1
      have hb : b ≠ ad := fun z => e (r.inj hn (z ▸ h2))
      have hbm : b ∈ ι := List.mem_of_getElem? h2
      have hbd : b ≠ dx := fun z => n1 (z ▸ hbm)
      have q := r.obj m o' b h1 h2
      have kp : ∀ w, H b = some w → SlX.slH H ad (c.cls cn) dx (SlX.putS i v ws) b = some w := fun w hw => by rw [same b hb hbd]; exact hw
      cases o' with
      | lst xs => obtain ⟨vs, e, q⟩ := q; exact ⟨vs, kp _ e, q.mono LL⟩
      | dic kvs => obtain ⟨ks, e, q⟩ := q; exact ⟨ks, kp _ e, q.mono LL⟩
      | ins C fs => obtain ⟨dx', gs, e, q⟩ := q; exact ⟨dx', gs, kp _ e, q.mono LL⟩
      | sl C vs2 =>
        obtain ⟨dy, ws2, s2, ⟨u2, hu2, hl2⟩, m1, m2, q⟩ := q
        have hda : dy ≠ ad := fun z => m1 (z ▸ hi)
        by_cases hd : dy = dx
        · subst hd
          rcases s2 with ⟨e, rfl⟩ | ⟨e, ed⟩
          · exact ⟨dy, [], .inl ⟨kp _ e, rfl⟩, ⟨_, atdx, .inr rfl⟩, m1, m2, q.mono LL⟩
          · exact ⟨dy, ws2, .inr ⟨kp _ e, atdx⟩, ⟨_, atdx, .inr rfl⟩, m1, m2, q.mono LL⟩
        · rcases s2 with ⟨e, rfl⟩ | ⟨e, ed⟩
          · exact ⟨dy, [], .inl ⟨kp _ e, rfl⟩, ⟨u2, by rw [same dy hda hd]; exact hu2, hl2⟩, m1, m2, q.mono LL⟩
          · exact ⟨dy, ws2, .inr ⟨kp _ e, by rw [same dy hda hd]; exact ed⟩, ⟨u2, by rw [same dy hda hd]; exact hu2, hl2⟩, m1, m2, q.mono LL⟩
  · exact r.xd_le LL x hx
theorem ds_slot {f : Str} {C q : Addr} {cn i : Nat} {o : Expr} {p' : Pos} {do' : DenE} (hC : c.cls cn = C) (hS : SlX.SCls X.K C) (hT : SlX.Slot1 X.K C f q i) (hv : DE c X e da) (ho : DE c X o do') (hs : swapsWith e (some (.Attribute o f p')) pos.line X.env = pure false := by rfl) : DS c X (.Assign [.Attribute o f p'] e pos) (sSlot cn i da do') := by
  refine ⟨fun pn xe W w => PS.imp (SlX.ps_sl (X := X.tr pn xe) (ho.run pn xe W w) (hv.run pn xe W w) hs) fun E σ H h => ?_⟩
  obtain ⟨ι, S, τ, rp, re, p⟩ := h
  refine rds_go rp re p fun ι1 H1 S1 y v l1 r1 re1 rv p1 => rds_go r1 re1 p1 fun ι2 H2 S2 x u l2 r2 re2 ru p2 => ?_
  split at p2
  · rename_i n
    obtain ⟨ad, rfl, hn⟩ := ru.ref_inv
    split at p2
    · rename_i cn' vs hs2
      split at p2
      · rename_i hcn
        subst hcn
        obtain ⟨dx, ws, s, hh, n1, n2, rw'⟩ := r2.obj _ _ ad hs2 hn
        obtain ⟨LL, R2⟩ := slot_write (i := i) r2 hs2 hn s hh n1 n2 rw' (rv.mono l2)
        subst hC
        exact ⟨ad, _, dx, q, ws, i, rfl, s, hS, hT, PostS.nxt (PostS.le LL p2) R2 (re2.mono LL)⟩
      · exact p2.elim
    · exact p2.elim
  · exact p2.elim
/-- C(..): a new instance, then __init__ -/
def dMake (cn : Nat) (den : List D → Sto → R D) (g : List D → List D) : List D → Sto → R D := fun args S => match den (.ref S.length :: g args) (S ++ [.sl cn []]) with
  | .ok .non S' => .ok (.ref S.length) S'
  | .ex e S' => .ex e S'
  | _ => .bad
theorem make_post {K : PySem.W.Frag} {H : Hp} {ι : List Addr} {S : Sto} {cn : Nat} {C : Addr} {xs : List D} {ws : List V} {W : WX} {σ : L2.St} {Q : VK} {n : Nat} {den : List D → Sto → R D} {g : List D → List D} (hC : c.cls cn = C) (r : Rep K c H ι S) (rg : ∀ {H' ι'}, Le H ι H' ι' → RVs K H' ι' (g xs) ws) (hl : ws.length + 1 = n)
    (p : PostE K c (RV K) H ι σ W Q (dMake cn den g xs S)) : ∀ x dx, H x = none → H dx = none → dx ≠ x → spD K c n den (.ref x :: ws) (upd (upd H dx (.own x)) x (.ins C dx [])) (fun v H2 => v = .non ∧ Q (.ref x) H2) (WE W σ) := by
  intro x dx hx hdx hne
  have L1 : Le H ι (upd H dx (.own x)) ι := .new hdx
  have hx1 : upd H dx (.own x) x = none := by rw [upd_ne (Ne.symm hne)]; exact hx
  have L2' : Le (upd H dx (.own x)) ι (upd (upd H dx (.own x)) x (.ins C dx [])) (ι ++ [x]) := .push hx1
  have L := L1.trans L2'
  have r1 : Rep K c (upd H dx (.own x)) ι S := r.new hdx
  have atd : upd (upd H dx (.own x)) x (.ins C dx []) dx = some (.own x) := by rw [upd_ne hne, upd_same]
  have r2 : Rep K c (upd (upd H dx (.own x)) x (.ins C dx [])) (ι ++ [x]) (S ++ [.sl cn []]) := r1.push hx1 ⟨dx, [], .inl ⟨by rw [hC]; exact upd_same, rfl⟩, ⟨_, atd, .inl rfl⟩, by
    simp only [List.mem_append, List.mem_singleton, not_or]
    exact ⟨r.nin hdx, hne⟩, hne, rfl, fun i d h => by simp at h⟩
  refine ⟨by simp [hl], ι ++ [x], _, .ref S.length :: g xs, r2, .cons (.ref (by rw [List.getElem?_append_right (by rw [r.len]; exact Nat.le_refl _), r.len]; simp)) (rg L), ?_⟩
  unfold dMake at p
  cases q : den (.ref S.length :: g xs) (S ++ [.sl cn []]) with
  | ok v S' =>
    rw [q] at p
    cases v with
    | non =>
      intro ι' H' v l' r' rv
      refine ⟨rv.non_inv, p ι' H' _ (L.trans l') r' (.ref (l'.get ?_))⟩
      rw [List.getElem?_append_right (by rw [r.len]; exact Nat.le_refl _), r.len]; simp
    | _ => exact p.elim
  | ex e S' => rw [q] at p; exact fun ι' H' cl od l' r' rx => p ι' H' cl od (L.trans l') r' rx
  | bad => rw [q] at p; exact p
/-- C(e, ..) with keyword-only defaults and keywords; gV: the parameters behind self -/
theorem run_mk {pn : List (Addr × Obj)} {xe : Value → Shared → Prop} {W : WX} {k n : Nat} {f C : Addr} {fd : FuncData} {ps ks : List Str} {den : List D → Sto → R D} {gv : List Value → List Value → List Value} {gV : List V → List V → List V} {pins : List (Addr × Obj)} {σ : L2.St} {H : Hp} {s : Shared} {Q : VK} {us ws : List Value} {vs zs : List V} (w : Wk c (X.tr pn xe) W)
    (M : Mk X.K C f) (F : FnD X.prog X.w X.K X.mg X.base c k f fd ps den) (hr : Room (k + 1) X.A) (hb : KBn X.K fd ps (n + 1) ks gv gV)
    (I : Inv (X.tr pn xe) pins σ H s) (r : Vals vs us) (rz : Vals zs ws) (l1 : vs.length = n) (l2 : zs.length = ks.length)
    (h : ∀ x dx, H x = none → H dx = none → dx ≠ x → spD X.K c ps.length den (gV (.ref x :: vs) zs) (upd (upd H dx (.own x)) x (.ins C dx [])) (fun v H2 => v = .non ∧ Q (.ref x) H2) (WE W σ)) :
    wpAny (model X.prog X.w) X.A (call (.ref C) us (ks.zip ws)) (EP (X.tr pn xe) pins σ Q) xe s := by
  have hnew := h (s.heap.objs.size + 1) s.heap.objs.size (I.hok.fresh (Nat.le_succ _)) (I.hok.fresh (Nat.le_refl _)) (Nat.ne_of_lt (Nat.lt_succ_self _))
  have J := Inv.made (C := C) I
  have rs : Vals (V.ref (s.heap.objs.size + 1) :: vs) (Value.ref (s.heap.objs.size + 1) :: us) := .cons rfl r
  have ln : (Value.ref (s.heap.objs.size + 1) :: us).length = n + 1 := by rw [List.length_cons, ← r.length, l1]
  refine wpAny_call (make_map (f := f) I.kIn M.makes M.init (beq_iff_eq.mp M.fn) (codeAny_mono (F.run _ X.stack _ _ ⟨Value.ref (s.heap.objs.size + 1) :: us, ks.zip ws⟩ (gv (Value.ref (s.heap.objs.size + 1) :: us) ws) _ _ (WE W σ) (hr.make C us (ks.zip ws))
    (J.env0.make C us (ks.zip ws)) (hb.to _ (Value.ref (s.heap.objs.size + 1) :: us) ws J.kIn ln (rz.length.symm.trans l2)) (hb.rel rs rz) hnew) fun r s' hq => ?_))
  cases r with
  | error er => exact passAt w.tk σ pins _ _ er s' J hq
  | ok fl =>
    cases fl with
    | ret u =>
      obtain ⟨v, H', I3, rv, ev, q3⟩ := J.after hq
      subst ev
      exact ⟨rv, ⟨V.ref (s.heap.objs.size + 1), H', I3, rfl, q3⟩⟩
    | next => exact False.elim hq
    | brk => exact False.elim hq
    | cont => exact False.elim hq
structure DK (c : G) (X : Cx) (kws : List Keyword) (d : DenA) : Prop where
  run : ∀ pn xe W, Wk c (X.tr pn xe) W → PK (X.tr pn xe) kws (rdA X.K c d W)
theorem dk_nil : DK c X [] dNil := ⟨fun pn xe W w => ⟨fun pos pins s σ H Q I h => (pk_nil (X := X.tr pn xe)).run pos pins s σ H Q I (let ⟨ι, S, τ, rp, re, p⟩ := h; p.here rp .nil)⟩⟩
theorem dk_cons {nm : Option Str} {kp : Pos} {kws : List Keyword} {dr : DenA} (ha : DE c X e da) (hr : DK c X kws dr) : DK c X (⟨nm, e, kp⟩ :: kws) (dCons da dr) := by
  refine ⟨fun pn xe W w => ⟨fun pos pins s σ H Q I h => (pk_cons (ha.run pn xe W w) (hr.run pn xe W w)).run pos pins s σ H Q I ?_⟩⟩
  obtain ⟨ι, S, τ, rp, re, p⟩ := h
  exact rd_go rp re p fun ι2 H1 S2 x2 v l1 r2 re2 rv2 p2 => rd_go r2 re2 p2 fun ι3 H3 S3 y u l3 r3 re3 ru p3 => p3.here r3 (.cons (rv2.mono l3) ru)
def dMakeK (cn : Nat) (den : List D → Sto → R D) (gD : List D → List D → List D) (dd dk : DenA) : DenE := fun τ S => (dd τ S).bind fun xs S1 => (dk τ S1).bind fun ys S2 => dMake cn den (fun xs => gD xs ys) xs S2
/-- C(e, .., k = v, ..) -/
theorem de_makeK {k n : Nat} {f C : Addr} {fd : FuncData} {ps ks : List Str} {x : Str} {p : Pos} {kws : List Keyword} {dk : DenA} {den : List D → Sto → R D} {gv : List Value → List Value → List Value} {gV : List V → List V → List V} {gD : List D → List D → List D} {cn : Nat} (hC : c.cls cn = C)
    (M : Mk X.K C f) (F : FnD X.prog X.w X.K X.mg X.base c k f fd ps den) (hr : Room (k + 1) X.A) (hm : X.mg x = some (.ref C)) (hb : KBn X.K fd ps (n + 1) ks gv gV) (ha : DA c X (e :: es) dd) (hkw : DK c X kws dk)
    (hgD : ∀ (H : Hp) (ι : List Addr) (xs ys : List D) (vs zs : List V) (v : V), RVs X.K H ι xs vs → RVs X.K H ι ys zs → ∃ ws, gV (v :: vs) zs = v :: ws ∧ RVs X.K H ι (gD xs ys) ws ∧ (vs.length = n → zs.length = ks.length → ws.length + 1 = ps.length))
    (hn : ∀ τ S xs S', dd τ S = .ok xs S' → xs.length = n) (hnk : ∀ τ S xs S', dk τ S = .ok xs S' → xs.length = ks.length) (hg : Gl X x := by rfl)
    (hall : (backToKw pos (keywordEach kws X.env)).all (·.1.isSome) = true := by rfl) (hks : (backToKw pos (keywordEach kws X.env)).filterMap (·.1) = ks := by rfl) (hdb : (x == ("__debug__" : Str)) = false := by decide)
    (he : starEach (e :: es) X.env = (false, eval e X.env) :: starEach es X.env := by rfl) (hpl : ((backTo pos (starEach (e :: es) X.env)).any (·.1) || (backToKw pos (keywordEach kws X.env)).any (·.1.isNone)) = false := by rfl) :
    DE c X (.Call (.Name x p) (e :: es) kws pos) (dMakeK cn den gD dd dk) := by
  refine ⟨fun pn xe W w => ⟨fun pins s σ H Q I h => ?_⟩⟩
  obtain ⟨ι, S, τ, rp, re, p0⟩ := h
  have p0 : PostE X.K c (RV X.K) H ι σ W Q ((dd τ S).bind fun xs S1 => (dk τ S1).bind fun ys S2 => dMake cn den (fun xs => gD xs ys) xs S2) := p0
  refine wpAny_Call_Name_kw (ld_glob I hg hm ?_ hdb)
  have hlA : rdA X.K c dd W σ H fun vs H1 => vs.length = n ∧ rdA X.K c dk W σ H1 fun zs H2 => zs.length = ks.length ∧ ∀ x dx, H2 x = none → H2 dx = none → dx ≠ x → spD X.K c ps.length den (gV (.ref x :: vs) zs) (upd (upd H2 dx (.own x)) x (.ins C dx [])) (fun v H3 => v = .non ∧ Q (.ref x) H3) (WE W σ) := by
    refine ⟨ι, S, τ, rp, re, ?_⟩
    cases q : dd τ S with
    | bad => rw [q] at p0; exact p0
    | ex y S1 => rw [q] at p0; exact p0
    | ok xs S1 =>
      rw [q] at p0
      intro ι1 H1 vs la r1 rv
      refine ⟨rv.length.symm.trans (hn _ _ _ _ q), ι1, S1, τ, r1, re.mono la, ?_⟩
      have p1 := PostE.le la p0
      dsimp only [R.bind] at p1
      cases q2 : dk τ S1 with
      | bad => rw [q2] at p1; exact p1
      | ex y S1 => rw [q2] at p1; exact p1
      | ok ys S2 =>
        rw [q2] at p1
        intro ι2 H2 zs lb r2 rz
        refine ⟨rz.length.symm.trans (hnk _ _ _ _ q2), fun x dx hx hdx hne => ?_⟩
        obtain ⟨ws, e1, e2, e3⟩ := hgD H2 ι2 xs ys vs zs (.ref x) (rv.mono lb) rz
        rw [e1]
        exact make_post (g := fun xs => gD xs ys) (xs := xs) hC r2 (fun l => e2.mono l) (e3 (rv.length.symm.trans (hn _ _ _ _ q)) (rz.length.symm.trans (hnk _ _ _ _ q2))) (PostE.le lb p1) x dx hx hdx hne
  refine PySem.W.callWith_KW (h₀ := X.base) I.ok.mod.kin M.kp hall (thn ((ha.run pn xe W w).run pos pins s σ H _ I hlA) fun us s1 ⟨vs, H1, I1, r, l1, q⟩ => ?_) hpl he
  refine thn ((hkw.run pn xe W w).run pos pins s1 σ H1 _ I1 q) fun ws s2 ⟨zs, H2, I2, rz, l2, q2⟩ => ⟨I2.kIn, ?_⟩
  rw [hks]
  exact run_mk w M F hr hb I2 r rz l1 l2 q2
/-! ### xs.extend(ys): a list or a tuple -/
/-- the built-in's own steps, whatever else the tuple's object bears -/
theorem meets_extT (l t : Addr) (items : Array Value) (n : Nat) (its2 : Array Value) (hsz : items.size + its2.size ≤ sizeLine) :
    Meets (Builtin.«list.extend» ⟨[.ref l, .ref t], []⟩) (fun _ R s => s.heap.get? l = some { cls := .type "list", dict := none, data := .seq items n, slots := #[] } ∧ (∃ o n2, s.heap.get? t = some o ∧ o.cls = .type "tuple" ∧ o.data = .seq its2 n2) ∧
      R (.ok (.ret Value.none)) { s with heap := s.heap.update l (Obj.mapSeq fun x => x ++ its2), toks := s.toks }) :=
  .of_wp fun prog w A R s h => by
    obtain ⟨hl, ⟨o, n2, ho, hc, hd⟩, h⟩ := h
    show wpAny _ _ (Builtin.List.listExtendWith (.ref l) (.ref t) .none) _ _ _
    unfold Builtin.List.listExtendWith
    refine wpAny_bind (wpAny_typeOf ⟨o, ho, hc⟩ ?_)
    have h1 : (Builtin.List.listSameRef (.ref l) (.ref t) || Value.type "tuple" == Value.type "list" || Value.type "tuple" == Value.type "tuple") = true := by simp
    simp only [h1, if_true]
    unfold Builtin.List.listItems
    refine wpAny_bind (wpAny_bind (wpAny_seqItems ho hd (wpAny_pure ?_)))
    refine wpAny_bind (wpAny_bind (wpAny_seqItems hl rfl (wpAny_pure ?_)))
    have hno : (!items.isEmpty && Builtin.List.listTooLong (items.size + its2.size)) = false := by rw [notLongL hsz, Bool.and_false]
    rw [hno]
    simp only [Bool.false_eq_true, if_false]
    show wpAny _ _ (updateSeq l (· ++ its2) >>= fun _ => ret Value.none) _ _ s
    refine wpAny_bind (wpAny_updateSeq hl rfl ?_)
    exact wpAny_pure ⟨_, rfl, h⟩
theorem mt_extT : MtM X "list.extend" (fun x vs H Q => ∃ l b xs zs, x = .ref l ∧ vs = [.ref b] ∧ H l = some (.lst xs) ∧ H b = some (.tup zs) ∧ xs.length + zs.length ≤ sizeLine ∧ Q .non (upd H l (.lst (xs ++ zs)))) := by
  intro pins s σ H x vs v us Q I rx rv h
  obtain ⟨l, t, xs, zs, rfl, rfl, hL, hT, hz, q⟩ := h
  cases rx
  obtain ⟨u, rfl, ru⟩ := rv.one
  cases ru
  obtain ⟨z, its, n, r, hl, e1⟩ := I.lstM hL
  obtain ⟨z2, its2, r2, ot, e2, h2, n2, h3⟩ := (show ObjOk X.prog X.w H s.heap t (.tup zs) from I.hok t _ hT)
  have hl2 := r2.length
  refine call_meets PySem.F.slot_list_extend ⟨_, e1, rfl⟩ PySem.F.entry_list_extend (PySem.F.args_list_extend_2 _ _) (meets_extT l t its.toArray n its2.toArray (by rw [List.size_toArray, List.size_toArray]; omega)) ⟨e1, ⟨ot, n2, e2, h2, h3⟩, ?_⟩
  refine ⟨.non, _, I.lset (its' := its ++ its2) hL e1 (by simp) (r.append r2) ?_, rfl, q⟩
  rw [List.length_append]
  omega
theorem opm_extend {K : PySem.W.Frag} : OpM K c (fun x vs H Q => rExtend x vs H Q ∨ (∃ l b xs zs, x = .ref l ∧ vs = [.ref b] ∧ H l = some (.lst xs) ∧ H b = some (.tup zs) ∧ xs.length + zs.length ≤ sizeLine ∧ Q .non (upd H l (.lst (xs ++ zs))))) mExtend := by
  intro H ι S x xs v vs σ W Q r rv rvs p
  unfold mExtend at p
  split at p
  · split at p
    · rename_i xs0 zs0 h1 h2
      split at p
      · rename_i hl
        obtain ⟨n, l0, us, e0, rfl, _, hn, ee, q⟩ := lstOf_ok r rv h1
        cases e0
        cases rvs with
        | cons ry rn =>
          cases rn
          obtain ⟨m, l2, us2, e2, rfl, _, hm, ee2, q2⟩ := lstOf_ok r ry h2
          exact .inl ⟨l0, l2, us, us2, rfl, rfl, ee, ee2, by rw [← q.length, ← q2.length, ← bigL_eq]; exact hl, post_set r hn ee (q.append q2) .non p⟩
      · exact p.elim
    · exact p.elim
  · split at p
    · rename_i xs0 h1
      split at p
      · rename_i hl
        obtain ⟨n, l0, us, e0, rfl, _, hn, ee, q⟩ := lstOf_ok r rv h1
        cases e0
        cases rvs with
        | cons ry rn =>
          cases rn
          obtain ⟨l2, us2, rfl, ee2, q2⟩ := ry.tup_inv
          exact .inr ⟨l0, l2, us, us2, rfl, rfl, ee, ee2, by rw [← q.length, ← q2.length, ← bigL_eq]; exact hl, post_set r hn ee (q.append q2) .non p⟩
      · exact p.elim
    · exact p.elim
  · exact p.elim
theorem MtM.or {id : String} {r r' : V → List V → Hp → VK → Prop} (h : MtM X id r) (h' : MtM X id r') : MtM X id (fun x vs H Q => r x vs H Q ∨ r' x vs H Q) := fun pins s σ H x vs v us Q I rx rv q => q.elim (h pins s σ H x vs v us Q I rx rv) (h' pins s σ H x vs v us Q I rx rv)
theorem de_extend {apos cpos : Pos} (ho : DE c X a da) (ha : DA c X (e :: es) dd)
    (hbase : attributeBase a "extend" X.env (eval a X.env) = eval a X.env := by rfl)
    (hfew : ((backTo cpos (starEach (e :: es) X.env)).all (fun x => !x.1) && (backToKw cpos (keywordEach [] X.env)).all (fun x => x.1.isSome)
      && decide ((e :: es).length + ([] : List Keyword).length + (if ([] : List Keyword).isEmpty then 0 else 1) < 30)) = true := by rfl)
    (hline : (apos.endLine == cpos.line) = true := by rfl) (hs : starEach (e :: es) X.env = (false, eval e X.env) :: starEach es X.env := by rfl) (hplain : (backTo cpos (starEach es X.env)).any (·.1) = false := by rfl) :
    DE c X (.Call (.Attribute a "extend" apos) (e :: es) [] cpos) (dMeth mExtend da dd) :=
  de_meth PySem.F.slot_list_extend PySem.F.type_list_extend (fun _ _ => MtM.or mt_extend mt_extT) opm_extend ho ha hbase hfew hline hs hplain

/-! ### enumerate, zip of lists -/
def itEnum (xs : List D) (S : Sto) : R IT := match xs with
  | [.ref n] => match lstOf S (.ref n) with
    | some ys => .ok ⟨ys.zipIdx.map fun p => .tup [.int (p.2 : Nat), p.1], lstIs n ys⟩ S
    | none => .bad
  | _ => .bad
theorem di_enum {elts : List Expr} {kk : Nat} {tpos p : Pos} (hm : X.mg "enumerate" = none) (ha : DA c X [a] dd) (hg : Gl X "enumerate" := by rfl) (hs : starEach [a] X.env = [(false, eval a X.env)] := by rfl) : DI c X (.Tuple elts kk tpos) (.Call (.Name "enumerate" p) [a] [] pos) (dItA itEnum dd) := by
  refine ⟨fun pn xe W w => ⟨_, pi_enum (X := X.tr pn xe) hg hm (ha.run pn xe W w) hs, fun σ H Q h => ?_⟩⟩
  obtain ⟨ι, S, τ, rp, re, p⟩ := h
  refine rd_go rp re p fun ι1 H1 S1 x v l1 r1 re1 rv p1 => ?_
  unfold itEnum at p1
  split at p1
  case h_2 => exact p1.elim
  rename_i n
  split at p1
  case h_2 => exact p1.elim
  rename_i ys hy
  cases rv with
  | cons r3 r4 =>
    cases r4
    obtain ⟨n', l0, vs, e0, rfl, hs0, hn, ee, q⟩ := lstOf_ok r1 r3 hy
    cases e0
    refine ⟨l0, vs, rfl, SqL.of ee, p1 ι1 H1 _ .refl r1 ?_⟩
    refine ⟨fun H2 => ∃ vs2, H2 l0 = some (.lst vs2) ∧ vs2.length = ys.length, fun i H2 v H3 => ∃ T x, v = .ref T ∧ H2 T = none ∧ H3 = upd H2 T (.tup [.int (i : Nat), x]) ∧ ∀ xs, SqL X.K H2 l0 xs → xs[i]? = some x, ⟨fun i H2 hi g => ?_, fun H2 g => ?_, fun i H2 x H3 hi g y => y⟩, fun ι2 H2 S2 l2 r2 hg => ?_, fun i ι2 H2 S2 x H3 d l2 r2 hg y hd => ?_⟩
    · obtain ⟨vs2, e2, q2⟩ := g
      have hi' : i < vs2.length := by rw [q2]; simpa using hi
      exact ⟨vs2, _, SqL.of e2, List.getElem?_eq_getElem hi'⟩
    · obtain ⟨vs2, e2, q2⟩ := g
      exact ⟨vs2, SqL.of e2, by rw [q2]; simp⟩
    · obtain ⟨vs2, e2, q2⟩ := lstIs_ok r2 (l2.get hn) hg
      exact ⟨vs2, e2, q2.length.symm⟩
    · obtain ⟨vs2, e2, q2⟩ := lstIs_ok r2 (l2.get hn) hg
      obtain ⟨T, x0, rfl, hT, rfl, y⟩ := y
      obtain ⟨d', hd', rd'⟩ := q2.get' (y vs2 (SqL.of e2))
      have hd : (ys.zipIdx.map fun p => D.tup [.int (p.2 : Nat), p.1])[i]? = some d := hd
      rw [List.getElem?_map, List.getElem?_zipIdx, hd'] at hd
      simp only [Option.map_some, Option.some.injEq, Nat.zero_add] at hd
      subst hd
      have L : Le H2 ι2 (upd H2 T (.tup [.int (i : Nat), x0])) ι2 := .new hT
      exact ⟨L, r2.new hT, .tup upd_same (.cons .int (.cons (rd'.mono L) .nil))⟩
def itZip (xs : List D) (S : Sto) : R IT := match xs with
  | [.ref n, .ref m] => match lstOf S (.ref n), lstOf S (.ref m) with
    | some ys, some zs => .ok ⟨(ys.zip zs).map fun p => .tup [p.1, p.2], fun S => lstIs n ys S && lstIs m zs S⟩ S
    | _, _ => .bad
  | _ => .bad
theorem di_zip {elts : List Expr} {kk : Nat} {tpos p : Pos} (hm : X.mg "zip" = none) (ha : DA c X [a, b] dd) (hg : Gl X "zip" := by rfl) (hs : starEach [a, b] X.env = (false, eval a X.env) :: starEach [b] X.env := by rfl) (hpl : (backTo pos (starEach [b] X.env)).any (·.1) = false := by rfl) : DI c X (.Tuple elts kk tpos) (.Call (.Name "zip" p) [a, b] [] pos) (dItA itZip dd) := by
  refine ⟨fun pn xe W w => ⟨_, pi_zip (X := X.tr pn xe) hg hm (ha.run pn xe W w) hs hpl, fun σ H Q h => ?_⟩⟩
  obtain ⟨ι, S, τ, rp, re, p⟩ := h
  refine rd_go rp re p fun ι1 H1 S1 x v l1 r1 re1 rv p1 => ?_
  unfold itZip at p1
  split at p1
  case h_2 => exact p1.elim
  rename_i n m
  split at p1
  case h_2 => exact p1.elim
  rename_i ys zs hy hz
  cases rv with
  | cons r3 r4 =>
    cases r4 with
    | cons r4 r5 =>
      cases r5
      obtain ⟨n', l0, vs, e0, rfl, hs0, hn, ee, q⟩ := lstOf_ok r1 r3 hy
      cases e0
      obtain ⟨m', l2, ws, e2, rfl, hs2, hm2, ee2, q2⟩ := lstOf_ok r1 r4 hz
      cases e2
      refine ⟨l0, l2, vs, ws, rfl, SqL.of ee, SqL.of ee2, p1 ι1 H1 _ .refl r1 ?_⟩
      refine ⟨fun H2 => ∃ vs2 ws2, H2 l0 = some (.lst vs2) ∧ H2 l2 = some (.lst ws2) ∧ vs2.length = ys.length ∧ ws2.length = zs.length, fun i H2 v H3 => ∃ T x y, v = .ref T ∧ H2 T = none ∧ H3 = upd H2 T (.tup [x, y]) ∧ (∀ xs, SqL X.K H2 l0 xs → xs[i]? = some x) ∧ ∀ ys, SqL X.K H2 l2 ys → ys[i]? = some y, ⟨fun i H2 hi g => ?_, fun H2 g => ?_, fun i H2 x H3 hi g y => y⟩, fun ι2 H2 S2 l2 r2 hg => ?_, fun i ι2 H2 S2 x H3 d l2 r2 hg y hd => ?_⟩
      · obtain ⟨vs2, ws2, e2, e3, q2, q3⟩ := g
        have hi : i < ((ys.zip zs).map fun p => D.tup [p.1, p.2]).length := hi
        rw [List.length_map, List.length_zip] at hi
        have h1 : i < vs2.length := by omega
        have h2 : i < ws2.length := by omega
        exact ⟨vs2, ws2, _, _, SqL.of e2, SqL.of e3, List.getElem?_eq_getElem h1, List.getElem?_eq_getElem h2⟩
      · obtain ⟨vs2, ws2, e2, e3, q2, q3⟩ := g
        refine ⟨vs2, ws2, SqL.of e2, SqL.of e3, ?_⟩
        show vs2.length ≤ ((ys.zip zs).map fun p => D.tup [p.1, p.2]).length ∨ _ ≤ ((ys.zip zs).map fun p => D.tup [p.1, p.2]).length
        rw [List.length_map, List.length_zip]
        omega
      · rw [Bool.and_eq_true] at hg
        obtain ⟨vs2, e2, q2⟩ := lstIs_ok r2 (l2.get hn) hg.1
        obtain ⟨ws2, e3, q3⟩ := lstIs_ok r2 (l2.get hm2) hg.2
        exact ⟨vs2, ws2, e2, e3, q2.length.symm, q3.length.symm⟩
      · rw [Bool.and_eq_true] at hg
        obtain ⟨vs2, e2, q2⟩ := lstIs_ok r2 (l2.get hn) hg.1
        obtain ⟨ws2, e3, q3⟩ := lstIs_ok r2 (l2.get hm2) hg.2
        obtain ⟨T, x0, y0, rfl, hT, rfl, y1, y2⟩ := y
        obtain ⟨d1, hd1, rd1⟩ := q2.get' (y1 vs2 (SqL.of e2))
        obtain ⟨d2, hd2, rd2⟩ := q3.get' (y2 ws2 (SqL.of e3))
        have hd : ((ys.zip zs).map fun p => D.tup [p.1, p.2])[i]? = some d := hd
        have hzz : (ys.zip zs)[i]? = some (d1, d2) := by rw [List.getElem?_zip_eq_some]; exact ⟨hd1, hd2⟩
        rw [List.getElem?_map, hzz] at hd
        cases hd
        have L : Le H2 ι2 (upd H2 T (.tup [x0, y0])) ι2 := .new hT
        exact ⟨L, r2.new hT, .tup upd_same (.cons (rd1.mono L) (.cons (rd2.mono L) .nil))⟩
end
end DL

set_option Elab.async false
set_option linter.all false
set_option maxRecDepth 100000
set_option maxHeartbeats 4000000
namespace DL
open PySem PyProof.Rows L2
section
variable {c : G} {X : Cx} {e a b : Expr} {es : List Expr} {da db : DenE} {dd : DenA} {pos : Pos} {K : PySem.W.Frag}
/-! ### dicts with keys that are ints and texts -/
def keyD : D → Option Key
  | .int i => some (.inl i)
  | .str x => some (.inr x)
  | _ => none
theorem keyD_ok {H : Hp} {ι : List Addr} {x : D} {v : V} {k : Key} (r : RV K H ι x v) (h : keyD x = some k) : v = kV k := by
  cases r <;> cases h <;> rfl
def dicOf (S : Sto) (x : D) : Option (List (Key × D)) := match x with
  | .ref n => match S[n]? with
    | some (.dic kvs) => some kvs
    | _ => none
  | _ => none
def valD (kvs : List (Key × D)) (k : Key) : Option D := (kvs.find? fun kv => decide (kv.1 = k)).map (·.2)
def putKD (kvs : List (Key × D)) (k : Key) (v : D) : List (Key × D) :=
  if (kvs.any fun kv => decide (kv.1 = k)) = true then kvs.map (fun kv => if kv.1 = k then (kv.1, v) else kv) else kvs ++ [(k, v)]
theorem dicOf_ok {H : Hp} {ι : List Addr} {S : Sto} {x : D} {v : V} {kvs : List (Key × D)} (r : Rep K c H ι S) (rv : RV K H ι x v) (h : dicOf S x = some kvs) : ∃ n l vs, x = .ref n ∧ v = .ref l ∧ S[n]? = some (.dic kvs) ∧ ι[n]? = some l ∧ H l = some (.dK vs) ∧ RKV K H ι kvs vs := by
  unfold dicOf at h
  split at h
  · obtain ⟨l, rfl, hn⟩ := rv.ref_inv
    split at h
    · rename_i hs
      cases h
      obtain ⟨vs, e, q⟩ := r.obj _ _ l hs hn
      exact ⟨_, l, vs, rfl, rfl, hs, hn, e, q⟩
    · cases h
  · cases h
theorem valD_ok {H : Hp} {ι : List Addr} {k : Key} : ∀ {kvs : List (Key × D)} {vs : List (Key × V)}, RKV K H ι kvs vs → (valD kvs k = none ∧ valV vs k = none) ∨ ∃ d v, valD kvs k = some d ∧ valV vs k = some v ∧ RV K H ι d v
  | [], _, .nil => .inl ⟨rfl, rfl⟩
  | p :: kvs, _, .cons (b := q) r s => by
    obtain ⟨e, rv⟩ := r
    by_cases h : p.1 = k
    · refine .inr ⟨p.2, q.2, ?_, ?_, rv⟩
      · simp [valD, List.find?_cons, h]
      · rw [valV_pos (by rw [← e]; exact h)]
    · have e1 : valD (p :: kvs) k = valD kvs k := by simp [valD, List.find?_cons, h]
      rw [e1, valV_neg (by rw [← e]; exact h)]
      exact valD_ok s
theorem any_keys {H : Hp} {ι : List Addr} {k : Key} : ∀ {kvs : List (Key × D)} {vs : List (Key × V)}, RKV K H ι kvs vs → (kvs.any fun kv => decide (kv.1 = k)) = vs.any fun kv => decide (kv.1 = k)
  | [], _, .nil => rfl
  | p :: kvs, _, .cons (b := q) r s => by simp only [List.any_cons]; rw [r.1, any_keys s]
theorem map_put {H : Hp} {ι : List Addr} {k : Key} {d : D} {v : V} (rv : RV K H ι d v) : ∀ {kvs : List (Key × D)} {vs : List (Key × V)}, RKV K H ι kvs vs → RKV K H ι (kvs.map fun kv => if kv.1 = k then (kv.1, d) else kv) (vs.map fun kv => if kv.1 = k then (kv.1, v) else kv)
  | [], _, .nil => .nil
  | p :: kvs, _, .cons (b := q) r s => by
    refine .cons ?_ (map_put rv s)
    dsimp only
    rw [r.1]
    by_cases h : q.1 = k
    · simp only [h, if_true]; exact ⟨trivial, rv⟩
    · simp only [h, if_false]; exact r
theorem putKD_ok {H : Hp} {ι : List Addr} {k : Key} {d : D} {v : V} {kvs : List (Key × D)} {vs : List (Key × V)} (r : RKV K H ι kvs vs) (rv : RV K H ι d v) : RKV K H ι (putKD kvs k d) (putK vs k v) := by
  unfold putKD putK
  rw [any_keys r]
  split
  · exact map_put rv r
  · exact Paired.snoc r ⟨rfl, rv⟩
theorem RKV.len {H : Hp} {ι : List Addr} : ∀ {kvs : List (Key × D)} {vs : List (Key × V)}, RKV K H ι kvs vs → kvs.length = vs.length
  | [], _, .nil => rfl
  | _ :: kvs, _, .cons _ s => by simp [RKV.len s]
/-- d[k] -/
def oDGet (x y : D) (S : Sto) : R D := match dicOf S x, keyD y with
  | some kvs, some k => match valD kvs k with
    | some d => .ok d S
    | none => .bad
  | _, _ => .bad
theorem de_dget (hu : Un64 X) (ha : DE c X a da) (hb : DE c X b db) (hs : NoSl b := by exact fun _ _ => rfl) : DE c X (.Subscript a b pos) (dOp oDGet da db) := by
  refine ⟨fun pn xe W w => PE.imp (pe_dget (X := X.tr pn xe) (Nat.lt_of_le_of_lt (Nat.add_le_add_left (by decide : 1 ≤ 64) _) hu) (ha.run pn xe W w) (hb.run pn xe W w) hs) fun σ H Q h => ?_⟩
  obtain ⟨ι, S, τ, rp, re, p⟩ := h
  refine rd_go rp re p fun ι1 H1 S1 x v l1 r1 re1 rv p1 => rd_go r1 re1 p1 fun ι2 H2 S2 y u l2 r2 re2 ru p2 => ?_
  unfold oDGet at p2
  split at p2
  · rename_i kvs k h1 h2
    split at p2
    · rename_i d hd
      obtain ⟨n, l, vs, rfl, rfl, hs, hn, e1, q⟩ := dicOf_ok r2 (rv.mono l2) h1
      have ek := keyD_ok ru h2
      subst ek
      rcases valD_ok (k := k) q with ⟨z, _⟩ | ⟨d', v', z1, z2, z3⟩
      · rw [z] at hd; cases hd
      · rw [z1] at hd; cases hd
        exact ⟨l, v', rfl, by rw [← z2]; exact DGet.k e1, p2.here r2 z3⟩
    · exact p2.elim
  · exact p2.elim
/-- k in d -/
def oDIn (neg : Bool) (y x : D) (S : Sto) : R D := match dicOf S x, keyD y with
  | some kvs, some k => .ok (.bl (neg != (valD kvs k).isSome)) S
  | _, _ => .bad
theorem din_ok {H : Hp} {ι : List Addr} {S : Sto} {x y : D} {u v : V} {neg : Bool} {σ : L2.St} {W : WX} {Q : VK} (r : Rep K c H ι S) (rv : RV K H ι x v) (ru : RV K H ι y u) (p : PostE K c (RV K) H ι σ W Q (oDIn neg y x S)) : ∃ l o, v = .ref l ∧ DGet H l u o ∧ Q (.bl (neg != o.isSome)) H := by
  unfold oDIn at p
  split at p
  · rename_i kvs k h1 h2
    obtain ⟨n, l, vs, rfl, rfl, hs, hn, e1, q⟩ := dicOf_ok r rv h1
    have ek := keyD_ok ru h2
    subst ek
    refine ⟨l, _, rfl, DGet.k e1, ?_⟩
    rcases valD_ok (k := k) q with ⟨z, z2⟩ | ⟨d', v', z1, z2, z3⟩
    · rw [z] at p; rw [z2]; exact p.here r .bl
    · rw [z1] at p; rw [z2]; exact p.here r .bl
  · exact p.elim
theorem de_din (hu : Un64 X) (ha : DE c X a da) (hb : DE c X b db) (hm : behindInMarks .In b = false := by rfl) : DE c X (.Compare a [.In] [b] pos) (dOp (oDIn false) da db) := by
  refine ⟨fun pn xe W w => PE.imp (pe_cmp (pc_din (X := X.tr pn xe) (Nat.lt_of_le_of_lt (Nat.add_le_add_left (by decide : 1 ≤ 64) _) hu) (ha.run pn xe W w) (hb.run pn xe W w)) hm) fun σ H Q h => ?_⟩
  obtain ⟨ι, S, τ, rp, re, p⟩ := h
  refine rd_go rp re p fun ι1 H1 S1 x v l1 r1 re1 rv p1 => rd_go r1 re1 p1 fun ι2 H2 S2 y u l2 r2 re2 ru p2 => ?_
  obtain ⟨l, o, h1, h2, h3⟩ := din_ok r2 ru (rv.mono l2) p2
  exact ⟨l, o, h1, h2, by simpa using h3⟩
theorem de_dnotin (hu : Un64 X) (ha : DE c X a da) (hb : DE c X b db) (hm : behindInMarks .NotIn b = false := by rfl) : DE c X (.Compare a [.NotIn] [b] pos) (dOp (oDIn true) da db) := by
  refine ⟨fun pn xe W w => PE.imp (pe_cmp (pc_dnotin (X := X.tr pn xe) (Nat.lt_of_le_of_lt (Nat.add_le_add_left (by decide : 1 ≤ 64) _) hu) (ha.run pn xe W w) (hb.run pn xe W w)) hm) fun σ H Q h => ?_⟩
  obtain ⟨ι, S, τ, rp, re, p⟩ := h
  refine rd_go rp re p fun ι1 H1 S1 x v l1 r1 re1 rv p1 => rd_go r1 re1 p1 fun ι2 H2 S2 y u l2 r2 re2 ru p2 => ?_
  obtain ⟨l, o, h1, h2, h3⟩ := din_ok r2 ru (rv.mono l2) p2
  exact ⟨l, o, h1, h2, by simpa using h3⟩
theorem DE.tb {d : DenE} (h : ∀ pn xe W, Wk c (X.tr pn xe) W → PT (X.tr pn xe) e (tB (rdE X.K c d W))) : DT c X e (dB d) := ⟨fun pn xe W w => PT.imp (h pn xe W w) fun σ H Q q => rd_bool q⟩
theorem dt_din (hu : Un64 X) (ha : DE c X a da) (hb : DE c X b db) (hm : behindInMarks .In b = false := by rfl) : DT c X (.Compare a [.In] [b] pos) (dB (dOp (oDIn false) da db)) := by
  refine ⟨fun pn xe W w => PT.imp (pt_cmp (pc_din (X := X.tr pn xe) (Nat.lt_of_le_of_lt (Nat.add_le_add_left (by decide : 1 ≤ 64) _) hu) (ha.run pn xe W w) (hb.run pn xe W w)) hm) fun σ H Q h => ?_⟩
  obtain ⟨ι, S, τ, rp, re, p⟩ := rd_bool h
  refine rd_go rp re p fun ι1 H1 S1 x v l1 r1 re1 rv p1 => rd_go r1 re1 p1 fun ι2 H2 S2 y u l2 r2 re2 ru p2 => ?_
  obtain ⟨l, o, h1, h2, h3⟩ := din_ok r2 ru (rv.mono l2) p2
  exact ⟨l, o, h1, h2, by simpa using h3⟩
theorem dt_dnotin (hu : Un64 X) (ha : DE c X a da) (hb : DE c X b db) (hm : behindInMarks .NotIn b = false := by rfl) : DT c X (.Compare a [.NotIn] [b] pos) (dB (dOp (oDIn true) da db)) := by
  refine ⟨fun pn xe W w => PT.imp (pt_cmp (pc_dnotin (X := X.tr pn xe) (Nat.lt_of_le_of_lt (Nat.add_le_add_left (by decide : 1 ≤ 64) _) hu) (ha.run pn xe W w) (hb.run pn xe W w)) hm) fun σ H Q h => ?_⟩
  obtain ⟨ι, S, τ, rp, re, p⟩ := rd_bool h
  refine rd_go rp re p fun ι1 H1 S1 x v l1 r1 re1 rv p1 => rd_go r1 re1 p1 fun ι2 H2 S2 y u l2 r2 re2 ru p2 => ?_
  obtain ⟨l, o, h1, h2, h3⟩ := din_ok r2 ru (rv.mono l2) p2
  exact ⟨l, o, h1, h2, by simpa using h3⟩
/-- d.get(k) -/
def mDGet1 (da db : DenE) : DenE := fun τ S => (da τ S).bind fun x S1 => if (dicOf S1 x).isSome then (db τ S1).bind fun y S2 => match dicOf S2 x, keyD y with
  | some kvs, some k => .ok ((valD kvs k).getD .non) S2
  | _, _ => .bad else .bad
theorem de_dget1 {apos cpos : Pos} (hu : Un64 X) (ha : DE c X a da) (hb : DE c X b db) (m : M1 X a "get" apos b cpos := by exact ⟨rfl, rfl, rfl, rfl⟩) : DE c X (.Call (.Attribute a "get" apos) [b] [] cpos) (mDGet1 da db) := by
  refine ⟨fun pn xe W w => PE.imp (pe_dget1 (X := X.tr pn xe) (Nat.lt_of_le_of_lt (Nat.add_le_add_left (by decide : 1 ≤ 64) _) hu) (ha.run pn xe W w) (hb.run pn xe W w) ⟨m.base, m.few, m.line, m.trees⟩) fun σ H Q h => ?_⟩
  obtain ⟨ι, S, τ, rp, re, p⟩ := h
  refine rd_go rp re p fun ι1 H1 S1 x v l1 r1 re1 rv p1 => ?_
  split at p1
  case isFalse => exact p1.elim
  rename_i hs
  obtain ⟨kvs0, hk0⟩ := Option.isSome_iff_exists.mp hs
  obtain ⟨n, l, vs, rfl, rfl, hs0, hn, e1, q⟩ := dicOf_ok r1 rv hk0
  refine ⟨l, rfl, .inl ⟨vs, .inl e1⟩, rd_go r1 re1 p1 fun ι2 H2 S2 y u l2 r2 re2 ru p2 => ?_⟩
  split at p2
  · rename_i kvs k h1 h2
    obtain ⟨n', l', vs', e0, e0', hs', hn', e1', q'⟩ := dicOf_ok r2 (rv.mono l2) h1
    cases e0'
    have ek := keyD_ok ru h2
    subst ek
    refine ⟨_, DGet.k e1', ?_⟩
    rcases valD_ok (k := k) q' with ⟨z, z2⟩ | ⟨d', v', z1, z2, z3⟩
    · rw [z] at p2; rw [z2]; exact p2.here r2 .non
    · rw [z1] at p2; rw [z2]; exact p2.here r2 z3
  · exact p2.elim
/-- d[k] = v -/
def sDPut (dv do' dk : DenE) : DenS := fun τ S => (dv τ S).go τ fun v S1 => (do' τ S1).go τ fun o S2 => (dk τ S2).go τ fun k S3 => match o, dicOf S3 o, keyD k with
  | .ref n, some kvs, some kk => if kvs.length < bigL then .nx τ (S3.set n (.dic (putKD kvs kk v))) else .bad
  | _, _, _ => .bad
theorem ds_dput {o i : Expr} {p' : Pos} {do' dk : DenE} (hu : Un64 X) (hv : DE c X e da) (ho : DE c X o do') (hi : DE c X i dk) (hs : swapsWith e (some (.Subscript o i p')) pos.line X.env = pure false := by rfl) : DS c X (.Assign [.Subscript o i p'] e pos) (sDPut da do' dk) := by
  refine ⟨fun pn xe W w => PS.imp (ps_dput (X := X.tr pn xe) (Nat.lt_of_le_of_lt (Nat.add_le_add_left (by decide : 1 ≤ 64) _) hu) (ho.run pn xe W w) (hi.run pn xe W w) (hv.run pn xe W w) hs) fun E σ H h => ?_⟩
  obtain ⟨ι, S, τ, rp, re, p⟩ := h
  refine rds_go rp re p fun ι1 H1 S1 x v l1 r1 re1 rv p1 => rds_go r1 re1 p1 fun ι2 H2 S2 o0 ov l2 r2 re2 ro p2 => rds_go r2 re2 p2 fun ι3 H3 S3 k0 kv l3 r3 re3 rk p3 => ?_
  split at p3
  · rename_i n kvs kk h2 h1
    split at p3
    · rename_i hl
      obtain ⟨n', l, vs, e0, e0', hs', hn, e1, q⟩ := dicOf_ok r3 (ro.mono l3) h1
      cases e0
      subst e0'
      have ek := keyD_ok rk h2
      subst ek
      have L : Le H3 ι3 (upd H3 l (.dK (putK vs kk v))) ι3 := .write e1 rfl (List.mem_of_getElem? hn)
      have q3 := putKD_ok (k := kk) q (rv.mono (l2.trans l3))
      exact ⟨l, _, rfl, DPut.k e1 (by rw [← RKV.len q, ← bigL_eq]; exact hl), PostS.nxt (PostS.le L p3) (r3.write hn e1 rfl ⟨_, upd_same, q3.mono L⟩) (re3.mono L)⟩
    · exact p3.elim
  · exact p3.elim
/-- {k: v} -/
def eDisp1 (dk dv : DenE) : DenE := fun τ S => (dk τ S).bind fun x S1 => (dv τ S1).bind fun y S2 => match keyD x with
  | some k => .ok (.ref S2.length) (S2 ++ [.dic [(k, y)]])
  | none => .bad
theorem de_disp1 {dk : DenE} (ha : DE c X a dk) (hb : DE c X b db) : DE c X (.Dict [some a] [b] pos) (eDisp1 dk db) := by
  refine ⟨fun pn xe W w => PE.imp (pe_disp (X := X.tr pn xe) (pps_cons (ha.run pn xe W w) (hb.run pn xe W w) pps_nil) rfl rfl (by simp) (by simp)) fun σ H Q h => ?_⟩
  obtain ⟨ι, S, τ, rp, re, p⟩ := h
  intro q hq
  have L0 : Le H ι (upd H q (.dK [])) ι := .new hq
  have q0 : q ∉ ι := rp.nin hq
  refine ⟨ι, S, τ, rp.new hq, re.mono L0, ?_⟩
  unfold eDisp1 at p
  cases q1 : dk τ S with
  | bad => rw [q1] at p; exact p
  | ex x S1 => rw [q1] at p; exact fun ι1 H1 cl od l1 => p ι1 H1 cl od (L0.trans l1)
  | ok x S1 =>
    rw [q1] at p
    dsimp only [R.bind] at p
    intro ι1 H1 v l1 r1 rv
    refine ⟨ι1, S1, τ, r1, (re.mono L0).mono l1, ?_⟩
    cases q2 : db τ S1 with
    | bad => rw [q2] at p; exact p
    | ex y S2 => rw [q2] at p; exact fun ι2 H2 cl od l2 => p ι2 H2 cl od ((L0.trans l1).trans l2)
    | ok y S2 =>
      rw [q2] at p
      dsimp only at p
      intro ι2 H2 u l2 r2 ru
      have hq2 : H2 q = some (.dK []) ∧ q ∉ ι2 := by
        obtain ⟨o', e, n', w⟩ := (l1.trans l2).frm q _ upd_same q0
        have w := w (fun _ z => nomatch z)
        subst w
        exact ⟨e, n'⟩
      cases hk : keyD x with
      | none => rw [hk] at p; exact p.elim
      | some k =>
        rw [hk] at p
        have ek := keyD_ok rv hk
        subst ek
        refine ⟨hq2.1, [(k, u)], rfl, by simp, ?_⟩
        have lt := lt_ls (ι := ι2) (u := .dK (mergeK [] [(k, u)])) hq2.1 rfl
        have LA : Le H ι (upd H2 q (.dK (mergeK [] [(k, u)]))) ι2 := ((L0.trans l1).trans l2).away hq
        have L3 : Lt (upd H2 q (.dK (mergeK [] [(k, u)]))) ι2 (upd H2 q (.dK (mergeK [] [(k, u)]))) (ι2 ++ [q]) := ⟨⟨_, rfl⟩, fun _ _ e => e, fun _ _ _ e => e⟩
        have RA := (r2.awayG (u := .dK (mergeK [] [(k, u)])) hq2.1 rfl hq2.2).adoptG (o := .dic [(k, y)]) upd_same rfl hq2.2 ⟨_, upd_same, .cons ⟨rfl, (ru.keep lt).keep L3⟩ .nil⟩
        refine p (ι2 ++ [q]) _ _ (LA.adopt hq) RA (.ref ?_)
        rw [List.getElem?_append_right (by rw [r2.len]; exact Nat.le_refl _), r2.len]; simp
end
end DL

set_option Elab.async false
set_option linter.all false
set_option maxRecDepth 100000
set_option maxHeartbeats 4000000
namespace DL
open PySem PyProof.Rows L2
section
variable {c : G} {X : Cx} {e a b : Expr} {es : List Expr} {da db : DenE} {dd : DenA} {pos : Pos} {K : PySem.W.Frag}
/-! ### a walk over a list or a tuple -/
theorem PI.or {tg iter : Expr} {wi wi' : TI} (h : PI X tg iter wi) (h' : PI X tg iter wi') : PI X tg iter (fun σ H R => wi σ H R ∨ wi' σ H R) :=
  ⟨fun pins s σ H R I q => q.elim (h.run pins s σ H R I) (h'.run pins s σ H R I)⟩
def itSeq (x : D) (S : Sto) : R IT := match x with
  | .tup xs => .ok ⟨xs, fun _ => true⟩ S
  | x => itOf x S
theorem di_seq {tg : Expr} (he : DE c X e da) : DI c X tg e (dIt itSeq da) := by
  refine ⟨fun pn xe W w => ?_⟩
  obtain ⟨w1, h1, k1⟩ := (di_list (tg := tg) he).run pn xe W w
  obtain ⟨w2, h2, k2⟩ := (di_tup (tg := tg) he).run pn xe W w
  refine ⟨_, PI.or h1 h2, fun σ H Q h => ?_⟩
  obtain ⟨ι, S, τ, rp, re, p⟩ := h
  unfold dIt at p
  cases q : da τ S with
  | bad => rw [q] at p; exact p.elim
  | ex x S1 => exact .inl (k1 σ H Q ⟨ι, S, τ, rp, re, by unfold dIt; rw [q] at p ⊢; exact p⟩)
  | ok x S1 =>
    rw [q] at p
    cases x with
    | tup xs => exact .inr (k2 σ H Q ⟨ι, S, τ, rp, re, by unfold dIt; rw [q]; exact p⟩)
    | non => exact p.elim
    | bl _ => exact p.elim
    | int _ => exact p.elim
    | str _ => exact p.elim
    | ref n => exact .inl (k1 σ H Q ⟨ι, S, τ, rp, re, by unfold dIt; rw [q]; exact p⟩)
    | scr n => exact .inl (k1 σ H Q ⟨ι, S, τ, rp, re, by unfold dIt; rw [q]; exact p⟩)
/-! ### sorted: ints, or tuples of ints -/
def tupD (b : List Int) : D := .tup (b.map .int)
def encT (b : List Int) : PyData := .tuple (b.map .int)
def tupsOf : List D → Option (List (List Int))
  | [] => some []
  | .tup xs :: r => match intsOf xs with
    | some (n :: ns) => (tupsOf r).map ((n :: ns) :: ·)
    | _ => none
  | _ :: _ => none
theorem intsOf_eq : ∀ {xs : List D} {ns : List Int}, intsOf xs = some ns → xs = ns.map .int
  | [], _, h => by cases h; rfl
  | .int i :: r, ns, h => by
    simp only [intsOf, Option.map_eq_some_iff] at h
    obtain ⟨ms, h1, rfl⟩ := h
    rw [intsOf_eq h1]; rfl
  | .non :: _, _, h => by cases h
  | .bl _ :: _, _, h => by cases h
  | .str _ :: _, _, h => by cases h
  | .tup _ :: _, _, h => by cases h
  | .ref _ :: _, _, h => by cases h
  | .scr _ :: _, _, h => by cases h
theorem tupsOf_eq : ∀ {xs : List D} {bs : List (List Int)}, tupsOf xs = some bs → xs = bs.map tupD ∧ ∀ b ∈ bs, b ≠ []
  | [], _, h => by cases h; exact ⟨rfl, by simp⟩
  | .tup ys :: r, bs, h => by
    simp only [tupsOf] at h
    split at h
    · rename_i n ns hn
      simp only [Option.map_eq_some_iff] at h
      obtain ⟨cs, h1, rfl⟩ := h
      obtain ⟨h2, h3⟩ := tupsOf_eq h1
      refine ⟨by rw [intsOf_eq hn, h2]; rfl, fun b hb => ?_⟩
      rcases List.mem_cons.mp hb with rfl | hb
      · simp
      · exact h3 b hb
    · cases h
  | .non :: _, _, h => by cases h
  | .bl _ :: _, _, h => by cases h
  | .str _ :: _, _, h => by cases h
  | .int _ :: _, _, h => by cases h
  | .ref _ :: _, _, h => by cases h
  | .scr _ :: _, _, h => by cases h
theorem tupsOf_map : ∀ {bs : List (List Int)}, (∀ b ∈ bs, b ≠ []) → tupsOf (bs.map tupD) = some bs
  | [], _ => rfl
  | [] :: r, h => absurd rfl (h [] (by simp))
  | (n :: ns) :: r, h => by
    have e : intsOf ((n :: ns).map D.int) = some (n :: ns) := intsOf_map _
    show (match intsOf ((n :: ns).map D.int) with | some (n :: ns) => (tupsOf (r.map tupD)).map ((n :: ns) :: ·) | _ => none) = _
    rw [e, tupsOf_map fun b hb => h b (List.mem_cons_of_mem _ hb)]; rfl
def leT : List Int → List Int → Bool := PySem.W.dataLe false encT
def sortT (bs : List (List Int)) : List (List Int) := bs.mergeSort leT
def fSorted (xs : List D) (S : Sto) : R D := match xs with
  | [x] => match lstOf S x with
    | some ys => match intsOf ys with
      | some ns => newL ((isort ns).map .int) S
      | none => match tupsOf ys with
        | some bs => newL ((sortT bs).map tupD) S
        | none => .bad
    | none => .bad
  | _ => .bad
/-- a list of tuples of ints, as the heap holds it -/
def IsTups (H : Hp) : List V → List (List Int) → Prop := Paired fun v b => ∃ a, v = .ref a ∧ H a = some (.tup (b.map V.int))
def rSortedT (K : PySem.W.Frag) : List V → Hp → VK → Prop := fun vs H Q => ∃ (l : Addr) (xs : List V) (bs : List (List Int)), vs = [V.ref l] ∧ H l = some (.lst xs) ∧ IsTups H xs bs ∧ (∀ b ∈ bs, b ≠ []) ∧
  ∀ (ys : List V) (p : Addr), IsTups H ys (sortT bs) → H p = none → Q (.ref p) (upd H p (.lst ys))
theorem depth_tupI (b : List Int) : (encT b).depth ≤ 2 := by
  unfold encT
  have h := PySem.W.depth_ints b
  simp only [PyData.depth]
  omega
theorem cr_sortedT (hu : X.A.units + 64 < cLine) : CallR X (.builtin "sorted") (rSortedT X.K) := by
  intro pins s σ H vs us Q I r h
  obtain ⟨l, xs, bs, rfl, hl, ht, hne, q⟩ := h
  obtain ⟨its, rv, hpl, hz⟩ := I.list (SqL.of hl)
  rw [Vals.ref1 r]
  -- each item reads as its tuple
  have each : ∀ {xs : List V} {bs : List (List Int)} {its : List Value}, IsTups H xs bs → Vals xs its → PySem.W.EachIs (fun v b => ∃ a, v = Value.ref a ∧ H a = some (.tup (b.map V.int))) its bs := by
    intro xs bs its ht rv
    unfold IsTups at ht
    induction ht generalizing its with
    | nil => cases rv; exact .nil
    | cons h t ih =>
      cases rv with
      | cons r1 r2 =>
        obtain ⟨a, rfl, ha⟩ := h
        cases r1
        exact .cons ⟨a, rfl, ha⟩ (ih r2)
  have E := each ht rv
  have lenb : bs.length ≤ sizeLine := by rw [← E.length, ← rv.length]; exact hz
  have er : PySem.W.EachIs (fun v b => ∃ as, Reads s.heap v (encT b) as) its bs := E.mono fun v b ⟨a, e, ha⟩ => by
    subst e
    exact Dp.reads I (encT b) (.ref a) _ (.tup (SqT.of ha) (dp_ints _ _)) rfl
  have hal : PySem.W.AllAlike (bs.map encT) := PySem.W.AllAlike.of fun b b' => by
    show PySem.W.alike (.tuple (b.map .int)) (.tuple (b'.map .int)) = true
    unfold PySem.W.alike
    exact PySem.W.alike_ints b b'
  have hso : PySem.W.Sortable (bs.map encT) := .inl fun d hd => by
    obtain ⟨b, hb, rfl⟩ := List.mem_map.mp hd
    cases b with
    | nil => exact absurd rfl (hne [] hb)
    | cons n ns => exact ⟨_, _, rfl⟩
  have hdp : ∀ b, b ∈ bs → X.A.units + 2 + (encT b).depth < cLine := fun b _ => by
    have := depth_tupI b
    omega
  have back : ∀ {out : List Value} {cs : List (List Int)}, PySem.W.EachIs (fun v b => ∃ a, v = Value.ref a ∧ H a = some (.tup (b.map V.int))) out cs → ∃ ys, Vals ys out ∧ IsTups H ys cs := by
    intro out cs h
    induction h with
    | nil => exact ⟨[], .nil, .nil⟩
    | cons h t ih =>
      obtain ⟨ys, h1, h2⟩ := ih
      obtain ⟨a, rfl, ha⟩ := h
      exact ⟨V.ref a :: ys, .cons rfl h1, .cons ⟨a, rfl, ha⟩ h2⟩
  refine PySem.W.sorted_data (enc := encT) hpl.isList E er hal hso lenb hdp ?_
  intro out hlen hout
  obtain ⟨ys, h1, h2⟩ := back hout
  obtain ⟨ep, he'⟩ := PyProof.Rows.sortedAll_at s.heap its out.toArray
  have hly : ys.length ≤ sizeLine := by rw [h1.length, hlen]; exact lenb
  exact ⟨.ref _, upd H (s.heap.objs.size + 1) (.lst ys), I.laid (t' := s.toks) (fun _ _ => PyProof.Rows.sortedAll_old) (Nat.le_succ _) ⟨hly, out, ep, h1, he'⟩, rfl, q ys _ h2 (I.hok.fresh (Nat.le_succ _))⟩
theorem cr_sortedG (hu : X.A.units + 64 < cLine) : CallR X (.builtin "sorted") (fun vs H Q => rSortedI X.K vs H Q ∨ rSortedT X.K vs H Q) := cr_sortedI.or (cr_sortedT hu)
theorem rvs_tups {H : Hp} {ι : List Addr} : ∀ {bs : List (List Int)} {ys : List V}, IsTups H ys bs → RVs K H ι (bs.map tupD) ys
  | [], _, .nil => .nil
  | b :: bs, _, .cons h t => by obtain ⟨a, rfl, ha⟩ := h; exact .cons (.tup ha (rvs_ints _ _ _)) (rvs_tups t)
theorem tups_rvs {H : Hp} {ι : List Addr} : ∀ {bs : List (List Int)} {ys : List V}, RVs K H ι (bs.map tupD) ys → IsTups H ys bs
  | [], _, .nil => .nil
  | b :: bs, _, .cons r t => by
    obtain ⟨a, vs, rfl, ha, q⟩ := RV.tup_inv r
    have e := intsOf_ok q (intsOf_map b)
    subst e
    exact .cons ⟨a, rfl, ha⟩ (tups_rvs t)
theorem opn_sorted : OpN K c (fun vs H Q => rSortedI K vs H Q ∨ rSortedT K vs H Q) fSorted := by
  intro H ι S x v σ W Q r rv p
  unfold fSorted at p
  split at p
  case h_2 => exact p.elim
  split at p
  case h_2 => exact p.elim
  rename_i ys hy
  cases rv with
  | cons r1 r2 =>
    cases r2
    obtain ⟨n, l0, us, e0, rfl, _, hn, ee, q⟩ := lstOf_ok r r1 hy
    split at p
    · rename_i ns hns
      have e := intsOf_ok q hns
      subst e
      refine .inl ⟨l0, ns, rfl, SqL.of ee, fun ns' a h1 h2 ha => ?_⟩
      have e : ns' = isort ns := sorted_one (h1.trans (isort_perm ns).symm) h2 (isort_sorted ns)
      subst e
      exact post_lst r (rvs_ints _ _ _) p ha
    · split at p
      · rename_i bs hbs
        obtain ⟨e1, e2⟩ := tupsOf_eq hbs
        subst e1
        exact .inr ⟨l0, us, bs, rfl, ee, tups_rvs q, e2, fun zs a hz ha => post_lst r (rvs_tups hz) p ha⟩
      · exact p.elim
/-- positional values, then the keywords' -/
theorem kw_app {n m k : Nat} (hk : n + 1 + m = k) : ∀ (H : Hp) (ι : List Addr) (xs ys : List D) (vs zs : List V) (v : V), RVs K H ι xs vs → RVs K H ι ys zs → ∃ ws, (v :: vs) ++ zs = v :: ws ∧ RVs K H ι (xs ++ ys) ws ∧ (vs.length = n → zs.length = m → ws.length + 1 = k) :=
  fun H ι xs ys vs zs v r s => ⟨vs ++ zs, rfl, r.append s, fun h1 h2 => by rw [List.length_append]; omega⟩
end
end DL
namespace DL
open PySem PyProof.Rows L2
/-- isinstance's answers by the chain of classes -/
theorem kit_self {K : PySem.W.Frag} {t : Value} : PySem.W.kitOne K t t = some true := by
  unfold PySem.W.kitOne
  rw [if_pos (by simp)]
theorem kit_ref {K : PySem.W.Frag} {a d : Addr} {b : Bool} (h : PySem.W.subIn K (.ref a) (.ref d) = some b) (i : PySem.W.isClsIn K d = true) (t : PySem.W.typeIn K (.ref d) = some (.type "type")) (s : PySem.W.subIn K (.ref d) (.ref d) = some true) : PySem.W.kitOne K (.ref a) (.ref d) = some b := by
  unfold PySem.W.kitOne
  by_cases e : a = d
  · subst e
    rw [h] at s
    rw [if_pos (by simp)]
    exact s.symm
  · rw [if_neg (by simpa using e)]
    unfold PySem.W.kitCls
    have i' : (PySem.W.clsIn K d).isSome = true := i
    dsimp only
    rw [i', t, if_pos (by simp)]
    exact h
theorem kit_type {K : PySem.W.Frag} {a : Addr} {T : String} {b : Bool} (h : PySem.W.subIn K (.ref a) (.type T) = some b) (m : PySem.W.kitMeta T = true) : PySem.W.kitOne K (.ref a) (.type T) = some b := by
  unfold PySem.W.kitOne
  rw [if_neg (by simp)]
  unfold PySem.W.kitCls
  dsimp only
  rw [if_pos m]
  exact h
end DL

set_option linter.all false
/-! General rules to work out what a denotation gives. -/
namespace DL
open PySem L2

theorem pre_get {S S' : Sto} (h : S <+: S') {n : Nat} {o : SO} (e : S[n]? = some o) : S'[n]? = some o := by
  obtain ⟨t, rfl⟩ := h
  rw [List.getElem?_append_left (List.getElem?_eq_some_iff.mp e).1]; exact e
theorem lstOf_mono {S S' : Sto} (h : S <+: S') {x : D} {xs : List D} (e : lstOf S x = some xs) : lstOf S' x = some xs := by
  cases x with
  | ref n =>
    simp only [lstOf] at e ⊢
    cases hn : S[n]? with
    | none => rw [hn] at e; cases e
    | some o => rw [hn] at e; rw [pre_get h hn]; exact e
  | _ => cases e
theorem seqOf_mono {S S' : Sto} (h : S <+: S') {x : D} {xs : List D} (e : seqOf S x = some xs) : seqOf S' x = some xs := by
  cases x with
  | ref n =>
    simp only [seqOf] at e ⊢
    cases hn : S[n]? with
    | none => rw [hn] at e; cases e
    | some o => rw [hn] at e; rw [pre_get h hn]; exact e
  | _ => exact e
theorem lst_ref {S : Sto} {k : Nat} {xs : List D} (h : S[k]? = some (.lst xs)) : lstOf S (.ref k) = some xs := by simp [lstOf, h]
theorem seq_ref {S : Sto} {k : Nat} {xs : List D} (h : S[k]? = some (.lst xs)) : seqOf S (.ref k) = some xs := by simp [seqOf, h]
theorem pre_set {S0 S : Sto} (h : S0 <+: S) {k : Nat} (hk : S0.length ≤ k) (o : SO) : S0 <+: S.set k o := by
  obtain ⟨t, rfl⟩ := h
  exact ⟨t.set (k - S0.length) o, by rw [List.set_append_right _ _ hk]⟩
theorem pre_len {S S' : Sto} (h : S <+: S') : S.length ≤ S'.length := h.length_le
theorem get_lt {S : Sto} {k : Nat} {o : SO} (h : S[k]? = some o) : k < S.length := (List.getElem?_eq_some_iff.mp h).1
theorem set_self {S : Sto} {k : Nat} {o o' : SO} (h : S[k]? = some o) : (S.set k o')[k]? = some o' := by
  rw [List.getElem?_set_self (get_lt h)]
theorem set_ne {S : Sto} {k m : Nat} {o o' : SO} (hk : k ≠ m) (h : S[m]? = some o) : (S.set k o')[m]? = some o := by
  rw [List.getElem?_set_ne hk]; exact h
theorem app_new {S : Sto} {o : SO} : (S ++ [o])[S.length]? = some o := by simp

/-- gives v at every store from S on, and only adds to it -/
def Ev {α : Type} (d : Sto → R α) (S : Sto) (v : α) : Prop := ∀ S1, S <+: S1 → ∃ S2, d S1 = .ok v S2 ∧ S1 <+: S2
/-- gives a new list of xs -/
def El (d : Sto → R D) (S : Sto) (xs : List D) : Prop := ∀ S1, S <+: S1 → ∃ k S2, d S1 = .ok (.ref k) S2 ∧ S1 <+: S2 ∧ S2[k]? = some (.lst xs) ∧ S1.length ≤ k
def Ei (d : Sto → R IT) (S : Sto) (xs : List D) : Prop := ∀ S1, S <+: S1 → ∃ gd S2, d S1 = .ok ⟨xs, gd⟩ S2 ∧ S1 <+: S2 ∧ ∀ S3, S2 <+: S3 → gd S3 = true

section
variable {α β : Type} {S S' : Sto} {τ : Env}
theorem Ev.mono {d : Sto → R α} {v : α} (h : Ev d S v) (p : S <+: S') : Ev d S' v := fun S1 q => h S1 (p.trans q)
theorem El.mono {d : Sto → R D} {v : List D} (h : El d S v) (p : S <+: S') : El d S' v := fun S1 q => h S1 (p.trans q)
theorem Ei.mono {d : Sto → R IT} {v : List D} (h : Ei d S v) (p : S <+: S') : Ei d S' v := fun S1 q => h S1 (p.trans q)
theorem Ev.pure {d : Sto → R α} {v : α} (h : ∀ S1, S <+: S1 → d S1 = .ok v S1) : Ev d S v := fun S1 p => ⟨S1, h S1 p, List.prefix_refl _⟩
theorem Ev.of_eq {d : Sto → R α} {v w : α} (h : Ev d S v) (e : v = w) : Ev d S w := e ▸ h
theorem Ev.bind {f : Sto → R α} {k : α → Sto → R β} {x : α} {v : β} (h : Ev f S x) (hk : Ev (k x) S v) : Ev (fun S => (f S).bind k) S v := fun S1 p => by
  obtain ⟨S2, e, q⟩ := h S1 p
  obtain ⟨S3, e3, q3⟩ := hk S2 (p.trans q)
  exact ⟨S3, by simp only [e, R.bind, e3], q.trans q3⟩
theorem Ev.var {i : Nat} {d : D} (h : τ[i]? = some (some d)) : Ev (dVar i τ) S d := .pure fun S1 _ => by simp only [dVar, h]
theorem Ev.c {d : D} : Ev (dC d τ) S d := .pure fun _ _ => rfl
theorem Ev.op {f : D → D → Sto → R D} {da db : DenE} {x y z : D} (ha : Ev (da τ) S x) (hb : Ev (db τ) S y) (hf : Ev (f x y) S z) : Ev (dOp f da db τ) S z :=
  ha.bind (hb.bind hf)
theorem Ev.un {f : D → Sto → R D} {da : DenE} {x z : D} (ha : Ev (da τ) S x) (hf : Ev (f x) S z) : Ev (dUn f da τ) S z := ha.bind hf
theorem Ev.b {d : DenE} {b : Bool} (h : Ev (d τ) S (.bl b)) : Ev (dB d τ) S b := h.bind (.pure fun _ _ => rfl)
theorem Ev.tru {d : DenE} {x : D} {b : Bool} (h : Ev (d τ) S x) (ht : Ev (truD x) S b) : Ev (dTru d τ) S b := h.bind ht
theorem Ev.truB {d : DenE} {b : Bool} (h : Ev (d τ) S (.bl b)) : Ev (dTru d τ) S b := h.bind (.pure fun _ _ => rfl)
theorem Ev.truI {d : DenE} {i : Int} (h : Ev (d τ) S (.int i)) : Ev (dTru d τ) S (i != 0) := h.bind (.pure fun _ _ => rfl)
theorem Ev.not {d : DenT} {b : Bool} (h : Ev (d τ) S b) : Ev (dNotT d τ) S (!b) := h.bind (.pure fun _ _ => rfl)
theorem Ev.and {d d' : DenT} {b b' : Bool} (h : Ev (d τ) S b) (h' : b = true → Ev (d' τ) S b') : Ev (dAnd d d' τ) S (b && b') := by
  refine Ev.bind h ?_
  cases b with
  | true => simp only [Bool.true_and]; simpa using h' rfl
  | false => exact .pure fun _ _ => rfl
theorem Ev.or {d d' : DenT} {b b' : Bool} (h : Ev (d τ) S b) (h' : b = false → Ev (d' τ) S b') : Ev (dOr d d' τ) S (b || b') := by
  refine Ev.bind h ?_
  cases b with
  | false => simp only [Bool.false_or]; simpa using h' rfl
  | true => exact .pure fun _ _ => rfl
theorem Ev.andV {d d' : DenE} {b b' : Bool} (h : Ev (d τ) S (.bl b)) (h' : b = true → Ev (d' τ) S (.bl b')) : Ev (dAndV d d' τ) S (.bl (b && b')) := by
  refine Ev.bind h (Ev.bind (x := b) (.pure fun _ _ => rfl) ?_)
  cases b with
  | true => simp only [Bool.true_and]; simpa using h' rfl
  | false => exact .pure fun _ _ => rfl
theorem Ev.notV {d : DenE} {b : Bool} (h : Ev (d τ) S (.bl b)) : Ev (dNotV d τ) S (.bl (!b)) := h.bind (Ev.bind (x := b) (.pure fun _ _ => rfl) (.pure fun _ _ => rfl))
theorem Ev.chain {f g : D → D → Sto → R D} {da db dc : DenE} {x y z : D} {p q : Bool} (ha : Ev (da τ) S x) (hb : Ev (db τ) S y) (hf : Ev (f x y) S (.bl p)) (hc : p = true → Ev (dc τ) S z ∧ Ev (g y z) S (.bl q)) : Ev (dChain f g da db dc τ) S (.bl (p && q)) := by
  refine Ev.bind ha (Ev.bind hb (Ev.bind hf (Ev.bind (x := p) (.pure fun _ _ => rfl) ?_)))
  cases p with
  | true => obtain ⟨h1, h2⟩ := hc rfl; exact h1.bind h2
  | false => exact .pure fun _ _ => rfl
theorem Ev.nil : Ev (dNil τ) S [] := .pure fun _ _ => rfl
theorem Ev.cons {da : DenE} {dr : DenA} {x : D} {xs : List D} (ha : Ev (da τ) S x) (hr : Ev (dr τ) S xs) : Ev (dCons da dr τ) S (x :: xs) := ha.bind (hr.bind (.pure fun _ _ => rfl))
theorem Ev.args {f : List D → Sto → R D} {dd : DenA} {xs : List D} {z : D} (ha : Ev (dd τ) S xs) (hf : Ev (f xs) S z) : Ev (dArgs f dd τ) S z := ha.bind hf
theorem Ev.args1 {f : List D → Sto → R D} {da : DenE} {x z : D} (ha : Ev (da τ) S x) (hf : Ev (f [x]) S z) : Ev (dArgs f (dCons da dNil) τ) S z := .args (.cons ha .nil) hf
theorem El.args {f : List D → Sto → R D} {dd : DenA} {xs zs : List D} (ha : Ev (dd τ) S xs) (hf : El (f xs) S zs) : El (dArgs f dd τ) S zs := fun S1 p => by
  obtain ⟨S2, e, q⟩ := ha S1 p
  obtain ⟨k, S3, e3, q3, g, l⟩ := hf S2 (p.trans q)
  exact ⟨k, S3, by simp only [dArgs, e, R.bind, e3], q.trans q3, g, Nat.le_trans (pre_len q) l⟩
/-- what is done with a new list -/
theorem Ev.argsL {f : List D → Sto → R D} {da : DenE} {zs : List D} {z : D} (ha : El (da τ) S zs) (hf : ∀ k S1, S <+: S1 → S1[k]? = some (.lst zs) → Ev (f [.ref k]) S1 z) : Ev (dArgs f (dCons da dNil) τ) S z := fun S1 p => by
  obtain ⟨k, S2, e, q, g, l⟩ := ha S1 p
  obtain ⟨S3, e3, q3⟩ := hf k S2 (p.trans q) g S2 (List.prefix_refl _)
  exact ⟨S3, by simp only [dArgs, dCons, dNil, e, R.bind, e3], q.trans q3⟩
theorem El.argsL {f : List D → Sto → R D} {da : DenE} {zs ys : List D} (ha : El (da τ) S zs) (hf : ∀ k S1, S <+: S1 → S1[k]? = some (.lst zs) → El (f [.ref k]) S1 ys) : El (dArgs f (dCons da dNil) τ) S ys := fun S1 p => by
  obtain ⟨k, S2, e, q, g, l⟩ := ha S1 p
  obtain ⟨k3, S3, e3, q3, g3, l3⟩ := hf k S2 (p.trans q) g S2 (List.prefix_refl _)
  exact ⟨k3, S3, by simp only [dArgs, dCons, dNil, e, R.bind, e3], q.trans q3, g3, Nat.le_trans (pre_len q) l3⟩
theorem El.new {xs : List D} : El (newL xs) S xs := fun S1 _ => ⟨S1.length, S1 ++ [.lst xs], rfl, ⟨_, rfl⟩, app_new, Nat.le_refl _⟩
theorem El.mk {xs : List D} (h : xs.length ≤ 1000) : El (mkLst xs) S xs := fun S1 _ => ⟨S1.length, S1 ++ [.lst xs], by simp only [mkLst, if_pos h], ⟨_, rfl⟩, app_new, Nat.le_refl _⟩
theorem Ev.tup {xs : List D} (h : xs.length ≤ 1000) : Ev (mkTup xs) S (.tup xs) := .pure fun _ _ => by simp only [mkTup, if_pos h]
theorem ix_eq {x d : D} {xs : List D} {i : Nat} (h : seqOf S x = some xs) (hd : xs[i]? = some d) : oIx x (.int i) S = .ok d S := by
  have hi : i < xs.length := (List.getElem?_eq_some_iff.mp hd).1
  have : atI xs (i : Int) = some d := by
    have h1 : ixN xs.length (i : Int) = some i := by
      simp only [ixN]
      rw [if_pos (by omega)]
      simp [hi]
    simp only [atI, h1]
    exact hd
  simp only [oIx, h, this]
theorem Ev.ix {x d : D} {xs : List D} {i : Nat} (h : seqOf S x = some xs) (hd : xs[i]? = some d) : Ev (oIx x (.int i)) S d := .pure fun S1 p => ix_eq (seqOf_mono p h) hd
theorem Ev.len {x : D} {xs : List D} (h : seqOf S x = some xs) : Ev (fLenSeq [x]) S (.int xs.length) := .pure fun S1 p => by simp only [fLenSeq, seqOf_mono p h]
theorem Ev.ftup {x : D} {xs : List D} (h : lstOf S x = some xs) : Ev (fTuple [x]) S (.tup xs) := .pure fun S1 p => by simp only [fTuple, lstOf_mono p h]
theorem Ev.fall {x : D} {bs : List Bool} (h : lstOf S x = some (bs.map .bl)) : Ev (fAll [x]) S (.bl (bs.all id)) := .pure fun S1 p => by
  have : blsOf (bs.map D.bl) = some bs := by
    clear h; induction bs with
    | nil => rfl
    | cons b bs ih => simp [blsOf, ih]
  simp only [fAll, onBls, lstOf_mono p h, Option.bind_some, this]
theorem El.fsortI {x : D} {ns : List Int} (h : lstOf S x = some (ns.map .int)) : El (fSorted [x]) S ((isort ns).map .int) := fun S1 p => by
  simp only [fSorted, lstOf_mono p h, intsOf_map]
  exact El.new S1 p
theorem Ei.r1 {dd : DenA} {n : Nat} (h : Ev (dd τ) S [.int n]) (hn : n ≤ 1000000) : Ei (dItA itR1 dd τ) S ((List.range n).map fun k => .int (k : Nat)) := fun S1 p => by
  obtain ⟨S2, e, q⟩ := h S1 p
  refine ⟨fun _ => true, S2, ?_, q, fun _ _ => rfl⟩
  simp only [dItA, e, R.bind, itR1]
  rw [if_pos (by omega)]
  simp [rng]
theorem Ei.r2 {dd : DenA} {n : Nat} {m : Int} (h : Ev (dd τ) S [.int (n : Nat), .int m]) (hn : n ≤ 1000000) (h0 : -1000000000 ≤ m) (h1 : m ≤ 1000000) : Ei (dItA itR2 dd τ) S ((List.range (m - n).toNat).map fun k => .int ((n + k : Nat) : Int)) := fun S1 p => by
  obtain ⟨S2, e, q⟩ := h S1 p
  refine ⟨fun _ => true, S2, ?_, q, fun _ _ => rfl⟩
  simp only [dItA, e, R.bind, itR2]
  rw [if_pos (by omega)]
  simp [rng]
theorem Ei.seqT {da : DenE} {xs : List D} (h : Ev (da τ) S (.tup xs)) : Ei (dIt itSeq da τ) S xs := fun S1 p => by
  obtain ⟨S2, e, q⟩ := h S1 p
  exact ⟨fun _ => true, S2, by simp only [dIt, e, R.bind, itSeq], q, fun _ _ => rfl⟩
theorem lstIs_of {S : Sto} {n : Nat} {xs : List D} (h : S[n]? = some (.lst xs)) : lstIs n xs S = true := by
  simp only [lstIs, h]; exact D.beqs_iff.mpr rfl
theorem Ei.seqR {da : DenE} {n : Nat} {xs : List D} (h : Ev (da τ) S (.ref n)) (hn : S[n]? = some (.lst xs)) : Ei (dIt itSeq da τ) S xs := fun S1 p => by
  obtain ⟨S2, e, q⟩ := h S1 p
  have g := pre_get (p.trans q) hn
  exact ⟨lstIs n xs, S2, by simp only [dIt, e, R.bind, itSeq, itOf, lst_ref g], q, fun _ r => lstIs_of (pre_get r g)⟩
theorem Ei.seqL {da : DenE} {xs : List D} (h : El (da τ) S xs) : Ei (dIt itSeq da τ) S xs := fun S1 p => by
  obtain ⟨k, S2, e, q, g, _⟩ := h S1 p
  exact ⟨lstIs k xs, S2, by simp only [dIt, e, R.bind, itSeq, itOf, lst_ref g], q, fun _ r => lstIs_of (pre_get r g)⟩
/-- items that no store changes -/
def Er (d : Sto → R IT) (S : Sto) (xs : List D) : Prop := ∀ S1, S <+: S1 → ∃ S2, d S1 = .ok ⟨xs, fun _ => true⟩ S2 ∧ S1 <+: S2
theorem Er.r1 {dd : DenA} {n : Nat} (h : Ev (dd τ) S [.int n]) (hn : n ≤ 1000000) : Er (dItA itR1 dd τ) S ((List.range n).map fun k => .int (k : Nat)) := fun S1 p => by
  obtain ⟨S2, e, q⟩ := h S1 p
  refine ⟨S2, ?_, q⟩
  simp only [dItA, e, R.bind, itR1]
  rw [if_pos (by omega)]
  simp [rng]
theorem Er.r2 {dd : DenA} {n : Nat} {m : Int} (h : Ev (dd τ) S [.int (n : Nat), .int m]) (hn : n ≤ 1000000) (h0 : -1000000000 ≤ m) (h1 : m ≤ 1000000) : Er (dItA itR2 dd τ) S ((List.range (m - n).toNat).map fun k => .int ((n + k : Nat) : Int)) := fun S1 p => by
  obtain ⟨S2, e, q⟩ := h S1 p
  refine ⟨S2, ?_, q⟩
  simp only [dItA, e, R.bind, itR2]
  rw [if_pos (by omega)]
  simp [rng]
theorem Er.tup {da : DenE} {xs : List D} (h : Ev (da τ) S (.tup xs)) : Er (dIt itSeq da τ) S xs := fun S1 p => by
  obtain ⟨S2, e, q⟩ := h S1 p
  exact ⟨S2, by simp only [dIt, e, R.bind, itSeq], q⟩
theorem lcL_spec {κ : Type} {gd : Sto → Bool} {g : DenG} {t : DenT} {e : DenE} {τw : Env} {inj : κ → D} {tf : κ → Bool} {ef : κ → D} : ∀ (ks : List κ) (acc : List D) (S : Sto),
    (∀ S3, S <+: S3 → gd S3 = true) → (∀ k ∈ ks, ∃ τ1, g (inj k) τw = some τ1 ∧ Ev (t τ1) S (tf k) ∧ (tf k = true → Ev (e τ1) S (ef k))) →
    ∃ k S2, lcL gd g t e τw (ks.map inj) acc S = .ok (.ref k) S2 ∧ S <+: S2 ∧ S2[k]? = some (.lst (acc ++ (ks.filter tf).map ef)) ∧ S.length ≤ k
  | [], acc, S, hg, _ => ⟨S.length, S ++ [.lst acc], by simp only [List.map_nil, lcL, if_pos (hg S (List.prefix_refl _))]; rfl, ⟨_, rfl⟩, by simp, Nat.le_refl _⟩
  | k :: ks, acc, S, hg, h => by
    obtain ⟨τ1, e1, ht, he⟩ := h k (by simp)
    obtain ⟨S1, et, p1⟩ := ht S (List.prefix_refl _)
    cases htf : tf k with
    | false =>
      obtain ⟨n, S2, e2, p2, g2, l2⟩ := lcL_spec ks acc S1 (fun S3 q => hg S3 (p1.trans q)) (fun k' hk' => by
        obtain ⟨τ', a, b, c⟩ := h k' (by simp [hk']); exact ⟨τ', a, b.mono p1, fun z => (c z).mono p1⟩)
      refine ⟨n, S2, ?_, p1.trans p2, by simpa [List.filter_cons, htf] using g2, Nat.le_trans (pre_len p1) l2⟩
      simp only [List.map_cons, lcL, if_pos (hg S (List.prefix_refl _)), e1, et, htf]
      exact e2
    | true =>
      obtain ⟨S1', ee, p1'⟩ := he htf S1 p1
      obtain ⟨n, S2, e2, p2, g2, l2⟩ := lcL_spec ks (acc ++ [ef k]) S1' (fun S3 q => hg S3 ((p1.trans p1').trans q)) (fun k' hk' => by
        obtain ⟨τ', a, b, c⟩ := h k' (by simp [hk']); exact ⟨τ', a, b.mono (p1.trans p1'), fun z => (c z).mono (p1.trans p1')⟩)
      refine ⟨n, S2, ?_, (p1.trans p1').trans p2, by simpa [List.filter_cons, htf] using g2, Nat.le_trans (pre_len (p1.trans p1')) l2⟩
      simp only [List.map_cons, lcL, if_pos (hg S (List.prefix_refl _)), e1, et, htf, ee]
      exact e2
theorem El.lc {κ : Type} {own : List Nat} {di : Env → Sto → R IT} {g : DenG} {t : DenT} {e : DenE} (ks : List κ) (inj : κ → D) (tf : κ → Bool) (ef : κ → D) (hi : Ei (di τ) S (ks.map inj)) (hl : ks.length ≤ 1000000)
    (h : ∀ k ∈ ks, ∃ τ1, g (inj k) (wipeD τ own) = some τ1 ∧ Ev (t τ1) S (tf k) ∧ (tf k = true → Ev (e τ1) S (ef k))) : El (dLc own di g t e τ) S ((ks.filter tf).map ef) := fun S1 p => by
  obtain ⟨gd, S2, e2, p2, hg⟩ := hi S1 p
  obtain ⟨n, S3, e3, p3, g3, l3⟩ := lcL_spec (gd := gd) (g := g) (t := t) (e := e) (τw := wipeD τ own) (inj := inj) (tf := tf) (ef := ef) ks [] S2 hg (fun k hk => by
    obtain ⟨τ', a, b, c⟩ := h k hk; exact ⟨τ', a, b.mono (p.trans p2), fun z => (c z).mono (p.trans p2)⟩)
  refine ⟨n, S3, ?_, p2.trans p3, by simpa using g3, Nat.le_trans (pre_len p2) l3⟩
  simp only [dLc, e2, R.bind, List.length_map, if_pos hl]
  exact e3
/-- a comprehension without an if -/
theorem El.lc1 {κ : Type} {own : List Nat} {di : Env → Sto → R IT} {g : DenG} {e : DenE} (ks : List κ) (inj : κ → D) (ef : κ → D) (hi : Ei (di τ) S (ks.map inj)) (hl : ks.length ≤ 1000000)
    (h : ∀ k ∈ ks, ∃ τ1, g (inj k) (wipeD τ own) = some τ1 ∧ Ev (e τ1) S (ef k)) : El (dLc own di g tTrue e τ) S (ks.map ef) := by
  have := El.lc (t := tTrue) ks inj (fun _ => true) ef hi hl (fun k hk => by obtain ⟨τ1, a, b⟩ := h k hk; exact ⟨τ1, a, .pure fun _ _ => rfl, fun _ => b⟩)
  have e : ks.filter (fun _ => true) = ks := List.filter_eq_self.mpr (by simp)
  rw [e] at this; exact this
end

section
variable {S : Sto} {i j : Int}
theorem Ev.gt : Ev (oGt (.int i) (.int j)) S (.bl (decide (j < i))) := .pure fun _ _ => rfl
theorem Ev.lt : Ev (oLt (.int i) (.int j)) S (.bl (decide (i < j))) := .pure fun _ _ => rfl
theorem Ev.ge : Ev (oGe (.int i) (.int j)) S (.bl (decide (j ≤ i))) := .pure fun _ _ => rfl
theorem Ev.le : Ev (oLe (.int i) (.int j)) S (.bl (decide (i ≤ j))) := .pure fun _ _ => rfl
theorem Ev.eqI : Ev (oEq (.int i) (.int j)) S (.bl (decide (i = j))) := .pure fun _ _ => rfl
theorem Ev.neI : Ev (oNe (.int i) (.int j)) S (.bl (!decide (i = j))) := .pure fun _ _ => rfl
theorem Ev.eqB {i j : Bool} : Ev (oEq (.bl i) (.bl j)) S (.bl (decide (i = j))) := .pure fun _ _ => rfl
theorem Ev.neB {i j : Bool} : Ev (oNe (.bl i) (.bl j)) S (.bl (!decide (i = j))) := .pure fun _ _ => rfl
theorem Ev.add : Ev (oAdd (.int i) (.int j)) S (.int (i + j)) := .pure fun _ _ => rfl
theorem Ev.sub : Ev (oSub (.int i) (.int j)) S (.int (i - j)) := .pure fun _ _ => rfl
theorem Ev.mul (h : mulOk i j = true) : Ev (oMul (.int i) (.int j)) S (.int (i * j)) := .pure fun _ _ => by simp only [oMul, if_pos h]
theorem Ev.isN {x : D} {neg : Bool} : Ev (oIsN neg x .non) S (.bl (neg != isNon x)) := .pure fun _ _ => rfl
end

/-! ### statements -/
structure Wn (Q : Rs → Prop) (r : Rs) : Prop where
  h : Q r
def Nxt (d : DenS) (Q : Rs → Prop) : Rs → Prop
  | .nx τ S => Wn Q (d τ S)
  | .bad => False
  | r => Q r
def Aft (P : Env → Sto → Prop) (Q : Rs → Prop) : Rs → Prop
  | .nx τ S => P τ S
  | .ct τ S => P τ S
  | .rt d S => Q (.rt d S)
  | .ex e τ S => Q (.ex e τ S)
  | .bk τ S => Q (.nx τ S)
  | .bad => False
/-- gives d and only adds to the store -/
def Rt (S : Sto) (d : D) : Rs → Prop := fun r => ∃ S', r = .rt d S' ∧ S <+: S'
section
variable {Q : Rs → Prop} {S S0 : Sto} {τ : Env}
theorem Wn.seq {a b : DenS} (h : Wn (Nxt b Q) (a τ S)) : Wn Q (sSeq a b τ S) := by
  simp only [sSeq]
  cases e : a τ S <;> rw [e] at h <;> first | exact h.h | exact ⟨h.h⟩ | exact absurd h.h (fun z => z)
theorem Wn.set {i : Nat} {e : DenE} {v : D} (p : S0 <+: S) (h : Ev (e τ) S0 v) (k : ∀ S1, S <+: S1 → Q (.nx (τ.set i (some v)) S1)) : Wn Q (sSet i e τ S) := by
  obtain ⟨S1, e1, q⟩ := h S p
  simp only [sSet, e1, R.go]; exact ⟨k S1 q⟩
theorem Wn.setL {i : Nat} {e : DenE} {xs : List D} (p : S0 <+: S) (h : El (e τ) S0 xs) (k : ∀ n S1, S <+: S1 → S1[n]? = some (.lst xs) → S.length ≤ n → Q (.nx (τ.set i (some (.ref n))) S1)) : Wn Q (sSet i e τ S) := by
  obtain ⟨n, S1, e1, q, g, l⟩ := h S p
  simp only [sSet, e1, R.go]; exact ⟨k n S1 q g l⟩
theorem Wn.ret {e : DenE} {v : D} (p : S0 <+: S) (h : Ev (e τ) S0 v) (k : ∀ S1, S <+: S1 → Q (.rt v S1)) : Wn Q (sRet e τ S) := by
  obtain ⟨S1, e1, q⟩ := h S p
  simp only [sRet, e1, R.go]; exact ⟨k S1 q⟩
theorem Wn.retL {e : DenE} {xs : List D} (p : S0 <+: S) (h : El (e τ) S0 xs) (k : ∀ n S1, S <+: S1 → S1[n]? = some (.lst xs) → S.length ≤ n → Q (.rt (.ref n) S1)) : Wn Q (sRet e τ S) := by
  obtain ⟨n, S1, e1, q, g, l⟩ := h S p
  simp only [sRet, e1, R.go]; exact ⟨k n S1 q g l⟩
theorem Wn.expr {e : DenE} {v : D} (p : S0 <+: S) (h : Ev (e τ) S0 v) (k : ∀ S1, S <+: S1 → Q (.nx τ S1)) : Wn Q (sExpr e τ S) := by
  obtain ⟨S1, e1, q⟩ := h S p
  simp only [sExpr, e1, R.go]; exact ⟨k S1 q⟩
theorem Wn.append {e : DenE} {v : D} {i t : Nat} {xs : List D} (hi : τ[i]? = some (some (.ref t))) (p : S0 <+: S) (h : Ev (e τ) S0 v) (ht : S[t]? = some (.lst xs)) (hl : xs.length < bigL) (k : ∀ S1, S <+: S1 → S1[t]? = some (.lst xs) → Q (.nx τ (DL.setL t (xs ++ [v]) S1))) : Wn Q (sExpr (dMeth mAppend (dVar i) (dCons e dNil)) τ S) := by
  obtain ⟨S1, e1, q⟩ := h S p
  have h2 : isL S (.ref t) = true := by simp [isL, lst_ref ht]
  have h3 := pre_get q ht
  have : sExpr (dMeth mAppend (dVar i) (dCons e dNil)) τ S = .nx τ (DL.setL t (xs ++ [v]) S1) := by
    simp only [sExpr, dMeth, dVar, hi, R.bind, h2, if_true, dCons, e1, dNil, mAppend, lst_ref h3, if_pos hl, R.go]
  rw [this]; exact ⟨k S1 q h3⟩
theorem Wn.if {t : DenT} {d d' : DenS} {b : Bool} (p : S0 <+: S) (h : Ev (t τ) S0 b) (k1 : b = true → ∀ S1, S <+: S1 → Wn Q (d τ S1)) (k2 : b = false → ∀ S1, S <+: S1 → Wn Q (d' τ S1)) : Wn Q (sIf t d d' τ S) := by
  obtain ⟨S1, e1, q⟩ := h S p
  simp only [sIf, e1, R.go]
  cases b with
  | true => exact k1 rfl S1 q
  | false => exact k2 rfl S1 q
theorem Wn.nil (h : Q (.nx τ S)) : Wn Q (sNil τ S) := ⟨h⟩
theorem forL_rule {κ : Type} {gd : Sto → Bool} {g : DenG} {body : DenS} {inj : κ → D} (P : List κ → Env → Sto → Prop) (hg : ∀ l τ S, P l τ S → gd S = true) (hend : ∀ τ S, P [] τ S → Q (.nx τ S))
    (hstep : ∀ k l τ S, P (k :: l) τ S → ∃ τ1, g (inj k) τ = some τ1 ∧ Wn (Aft (P l) Q) (body τ1 S)) : ∀ (ks : List κ) (τ : Env) (S : Sto), P ks τ S → Wn Q (forL gd g body (ks.map inj) τ S)
  | [], τ, S, h => by simp only [List.map_nil, forL, if_pos (hg _ _ _ h)]; exact ⟨hend _ _ h⟩
  | k :: ks, τ, S, h => by
    obtain ⟨τ1, e1, w⟩ := hstep k ks τ S h
    simp only [List.map_cons, forL, if_pos (hg _ _ _ h), e1]
    cases e : body τ1 S <;> rw [e] at w
    · exact forL_rule P hg hend hstep ks _ _ w.h
    · exact ⟨w.h⟩
    · exact ⟨w.h⟩
    · exact forL_rule P hg hend hstep ks _ _ w.h
    · exact ⟨w.h⟩
    · exact absurd w.h (fun z => z)
/-- a loop whose items come from what only adds to the store -/
theorem Wn.for {κ : Type} {di : Env → Sto → R IT} {g : DenG} {body : DenS} {ks : List κ} {inj : κ → D} (P : List κ → Env → Sto → Prop) {gd : Sto → Bool} {S1 : Sto} (hi : di τ S = .ok ⟨ks.map inj, gd⟩ S1) (h0 : P ks τ S1)
    (hg : ∀ l τ S, P l τ S → gd S = true) (hend : ∀ τ S, P [] τ S → Q (.nx τ S))
    (hstep : ∀ k l τ S, P (k :: l) τ S → ∃ τ1, g (inj k) τ = some τ1 ∧ Wn (Aft (P l) Q) (body τ1 S)) : Wn Q (sFor di g body τ S) := by
  simp only [sFor, hi, R.go]
  exact forL_rule P hg hend hstep ks τ S1 h0
/-- a loop over a range or a tuple -/
theorem Wn.forR {κ : Type} {di : Env → Sto → R IT} {g : DenG} {body : DenS} {ks : List κ} {inj : κ → D} (P : List κ → Env → Sto → Prop) (p : S0 <+: S) (hi : Er (di τ) S0 (ks.map inj)) (h0 : ∀ S1, S <+: S1 → P ks τ S1)
    (hend : ∀ τ S, P [] τ S → Q (.nx τ S))
    (hstep : ∀ k l τ S, P (k :: l) τ S → ∃ τ1, g (inj k) τ = some τ1 ∧ Wn (Aft (P l) Q) (body τ1 S)) : Wn Q (sFor di g body τ S) := by
  obtain ⟨S1, e, q⟩ := hi S p
  exact Wn.for P e (h0 S1 q) (fun _ _ _ _ => rfl) hend hstep
/-- a loop over what nothing changes -/
theorem Wn.forP {κ : Type} {di : Env → Sto → R IT} {g : DenG} {body : DenS} {ks : List κ} {inj : κ → D} (P : List κ → Env → Prop) (p : S0 <+: S) (hi : Ei (di τ) S0 (ks.map inj)) (h0 : P ks τ)
    (hend : ∀ τ S1, S <+: S1 → P [] τ → Q (.nx τ S1))
    (hstep : ∀ k l τ S1, S <+: S1 → P (k :: l) τ → ∃ τ1, g (inj k) τ = some τ1 ∧ Wn (Aft (fun τ' S' => S1 <+: S' ∧ P l τ') Q) (body τ1 S1)) : Wn Q (sFor di g body τ S) := by
  obtain ⟨gd, S1, e1, q, hg⟩ := hi S p
  refine Wn.for (fun l τ S' => S1 <+: S' ∧ P l τ) e1 ⟨List.prefix_refl _, h0⟩ (fun l τ S h => hg S h.1) (fun τ S' h => hend τ S' (q.trans h.1) h.2) (fun k l τ S' h => ?_)
  obtain ⟨τ1, e, w⟩ := hstep k l τ S' (q.trans h.1) h.2
  refine ⟨τ1, e, ⟨?_⟩⟩
  replace w := w.h
  revert w
  cases body τ1 S' <;> intro w
  · exact ⟨h.1.trans w.1, w.2⟩
  · exact w
  · exact w
  · exact ⟨h.1.trans w.1, w.2⟩
  · exact w
  · exact w
theorem Wn.while {t : DenT} {body : DenS} (P : Nat → Env → Sto → Prop)
    (hstep : ∀ m τ S, P m τ S → ∃ b S1, t τ S = .ok b S1 ∧ (b = false → Q (.nx τ S1)) ∧ (b = true → Wn (Aft (fun τ' S' => ∃ m', m' < m ∧ P m' τ' S') Q) (body τ S1))) : ∀ (n m : Nat) (τ : Env) (S : Sto), m < n → P m τ S → Wn Q (sWhile n t body τ S)
  | 0, m, _, _, h, _ => absurd h (by omega)
  | n + 1, m, τ, S, h, hp => by
    obtain ⟨b, S1, e, hf, ht⟩ := hstep m τ S hp
    simp only [sWhile, whileL, e, R.go]
    cases b with
    | false => exact ⟨hf rfl⟩
    | true =>
      have w := ht rfl
      simp only [if_true]
      cases eb : body τ S1 <;> rw [eb] at w
      · obtain ⟨m', hm, hp'⟩ := w.h; exact Wn.while P hstep n m' _ _ (by omega) hp'
      · exact ⟨w.h⟩
      · exact ⟨w.h⟩
      · obtain ⟨m', hm, hp'⟩ := w.h; exact Wn.while P hstep n m' _ _ (by omega) hp'
      · exact ⟨w.h⟩
      · exact absurd w.h (fun z => z)
theorem Ev.fn {n : Nat} {body : DenS} {ds : List D} {v : D} (h : ∀ S1, S <+: S1 → Wn (Rt S1 v) (body (ds.map some ++ List.replicate (n - ds.length) none) S1)) : Ev (dFn n body ds) S v := fun S1 p => by
  obtain ⟨S2, e, q⟩ := (h S1 p).h
  exact ⟨S2, by simp only [dFn, e], q⟩
theorem El.fn {n : Nat} {body : DenS} {ds : List D} {xs : List D} (h : ∀ S1, S <+: S1 → Wn (fun r => ∃ k S2, r = .rt (.ref k) S2 ∧ S1 <+: S2 ∧ S2[k]? = some (.lst xs) ∧ S1.length ≤ k) (body (ds.map some ++ List.replicate (n - ds.length) none) S1)) : El (dFn n body ds) S xs := fun S1 p => by
  obtain ⟨k, S2, e, q, g, l⟩ := (h S1 p).h
  exact ⟨k, S2, by simp only [dFn, e], q, g, l⟩
theorem Wn.imp {Q' : Rs → Prop} {r : Rs} (h : Wn Q r) (i : ∀ r, Q r → Q' r) : Wn Q' r := ⟨i r h.h⟩
end
end DL

set_option linter.all false
/-! Rules for dictionaries and the like. -/
namespace DL
open PySem L2
section
variable {Q : Rs → Prop} {S S0 : Sto} {τ : Env}
theorem dic_ref {d : Nat} {kvs : List (Key × D)} (h : S[d]? = some (.dic kvs)) : dicOf S (.ref d) = some kvs := by simp [dicOf, h]
theorem Ev.dget {d : Nat} {kvs : List (Key × D)} {y v : D} {k : Key} (h : S[d]? = some (.dic kvs)) (hk : keyD y = some k) (hv : valD kvs k = some v) : Ev (oDGet (.ref d) y) S v := .pure fun S1 p => by
  simp only [oDGet, dic_ref (pre_get p h), hk, hv]
theorem Ev.din {d : Nat} {kvs : List (Key × D)} {y : D} {k : Key} {neg : Bool} (h : S[d]? = some (.dic kvs)) (hk : keyD y = some k) : Ev (oDIn neg y (.ref d)) S (.bl (neg != (valD kvs k).isSome)) := .pure fun S1 p => by
  simp only [oDIn, dic_ref (pre_get p h), hk]
theorem Ev.dget1 {da db : DenE} {d : Nat} {kvs : List (Key × D)} {y : D} {k : Key} (ha : Ev (da τ) S (.ref d)) (hb : Ev (db τ) S y) (h : S[d]? = some (.dic kvs)) (hk : keyD y = some k) : Ev (mDGet1 da db τ) S ((valD kvs k).getD .non) := fun S1 p => by
  obtain ⟨S2, e2, p2⟩ := ha S1 p
  obtain ⟨S3, e3, p3⟩ := hb S2 (p.trans p2)
  exact ⟨S3, by simp only [mDGet1, e2, R.bind, dic_ref (pre_get (p.trans p2) h), Option.isSome_some, if_true, e3, dic_ref (pre_get ((p.trans p2).trans p3) h), hk], p2.trans p3⟩
theorem Ev.addT {xs ys : List D} (h : xs ≠ []) (hl : xs.length + ys.length ≤ bigL) : Ev (oAdd (.tup xs) (.tup ys)) S (.tup (xs ++ ys)) := .pure fun S1 p => by
  simp only [oAdd, if_pos (And.intro h hl)]
theorem El.flist {x : D} {xs : List D} (h : seqOf S x = some xs) : El (fList [x]) S xs := fun S1 p => by
  simp only [fList, seqOf_mono p h]
  exact El.new S1 p
theorem Wn.dput {dv do' dk : DenE} {v y : D} {d : Nat} {kvs : List (Key × D)} {k : Key} (hv : Ev (dv τ) S v) (ho : Ev (do' τ) S (.ref d)) (hy : Ev (dk τ) S y) (hk : keyD y = some k) (hd : S[d]? = some (.dic kvs)) (hl : kvs.length < bigL)
    (c : ∀ S1, S <+: S1 → Q (.nx τ (S1.set d (.dic (putKD kvs k v))))) : Wn Q (sDPut dv do' dk τ S) := by
  obtain ⟨S1, e1, p1⟩ := hv S (List.prefix_refl _)
  obtain ⟨S2, e2, p2⟩ := ho S1 p1
  obtain ⟨S3, e3, p3⟩ := hy S2 (p1.trans p2)
  have hp := (p1.trans p2).trans p3
  simp only [sDPut, e1, R.go, e2, e3, dic_ref (pre_get hp hd), hk, if_pos hl]
  exact ⟨c S3 hp⟩
/-- a list item is written -/
theorem Wn.put {dv do' dk : DenE} {v : D} {d i : Nat} {xs : List D} (hv : Ev (dv τ) S v) (ho : Ev (do' τ) S (.ref d)) (hy : Ev (dk τ) S (.int (i : Nat))) (hd : S[d]? = some (.lst xs)) (hi : i < xs.length)
    (c : ∀ S1, S <+: S1 → Q (.nx τ (DL.setL d (xs.set i v) S1))) : Wn Q (sPut dv do' dk τ S) := by
  obtain ⟨S1, e1, p1⟩ := hv S (List.prefix_refl _)
  obtain ⟨S2, e2, p2⟩ := ho S1 p1
  obtain ⟨S3, e3, p3⟩ := hy S2 (p1.trans p2)
  have hp := (p1.trans p2).trans p3
  have h1 : ixN xs.length (i : Int) = some i := by
    simp only [ixN]
    rw [if_pos (by omega)]
    simp [hi]
  simp only [sPut, e1, R.go, e2, e3, oPut, lst_ref (pre_get hp hd), h1]
  exact ⟨c S3 hp⟩
/-- gives something of which φ holds, and only adds to the store -/
def Ex (d : Sto → R D) (S : Sto) (φ : D → Prop) : Prop := ∀ S1, S <+: S1 → ∃ r S2, d S1 = .ok r S2 ∧ S1 <+: S2 ∧ φ r
theorem Ex.fn {n : Nat} {body : DenS} {ds : List D} {φ : D → Prop} (h : ∀ S1, S <+: S1 → Wn (fun r => ∃ v S', r = .rt v S' ∧ S1 <+: S' ∧ φ v) (body (ds.map some ++ List.replicate (n - ds.length) none) S1)) : Ex (dFn n body ds) S φ := fun S1 p => by
  obtain ⟨v, S2, e, q, f⟩ := (h S1 p).h
  exact ⟨v, S2, by simp only [dFn, e], q, f⟩
theorem Ex.args {f : List D → Sto → R D} {dd : DenA} {xs : List D} {φ : D → Prop} (ha : Ev (dd τ) S xs) (hf : Ex (f xs) S φ) : Ex (dArgs f dd τ) S φ := fun S1 p => by
  obtain ⟨S2, e, q⟩ := ha S1 p
  obtain ⟨r, S3, e3, q3, g⟩ := hf S2 (p.trans q)
  exact ⟨r, S3, by simp only [dArgs, e, R.bind, e3], q.trans q3, g⟩
theorem Wn.setX {i : Nat} {e : DenE} {φ : D → Prop} (p : S0 <+: S) (h : Ex (e τ) S0 φ) (k : ∀ v S1, S <+: S1 → φ v → Q (.nx (τ.set i (some v)) S1)) : Wn Q (sSet i e τ S) := by
  obtain ⟨v, S1, e1, q, f⟩ := h S p
  simp only [sSet, e1, R.go]; exact ⟨k v S1 q f⟩
def Ey (d : Sto → R D) (S : Sto) (φ : D → Sto → Prop) : Prop := ∀ S1, S <+: S1 → ∃ r S2, d S1 = .ok r S2 ∧ S1 <+: S2 ∧ φ r S2
theorem Ey.fn {n : Nat} {body : DenS} {ds : List D} {φ : D → Sto → Prop} (h : ∀ S1, S <+: S1 → Wn (fun r => ∃ v S', r = .rt v S' ∧ S1 <+: S' ∧ φ v S') (body (ds.map some ++ List.replicate (n - ds.length) none) S1)) : Ey (dFn n body ds) S φ := fun S1 p => by
  obtain ⟨v, S2, e, q, f⟩ := (h S1 p).h
  exact ⟨v, S2, by simp only [dFn, e], q, f⟩
theorem Ey.args {f : List D → Sto → R D} {dd : DenA} {xs : List D} {φ : D → Sto → Prop} (ha : Ev (dd τ) S xs) (hf : Ey (f xs) S φ) : Ey (dArgs f dd τ) S φ := fun S1 p => by
  obtain ⟨S2, e, q⟩ := ha S1 p
  obtain ⟨r, S3, e3, q3, g⟩ := hf S2 (p.trans q)
  exact ⟨r, S3, by simp only [dArgs, e, R.bind, e3], q.trans q3, g⟩
theorem Wn.setY {i : Nat} {e : DenE} {φ : D → Sto → Prop} (p : S0 <+: S) (h : Ey (e τ) S0 φ) (k : ∀ v S1, S <+: S1 → φ v S1 → Q (.nx (τ.set i (some v)) S1)) : Wn Q (sSet i e τ S) := by
  obtain ⟨v, S1, e1, q, f⟩ := h S p
  simp only [sSet, e1, R.go]; exact ⟨k v S1 q f⟩
end
theorem nodup_len {l : List Nat} {n : Nat} (h : l.Nodup) (hl : ∀ k ∈ l, k < n) : l.length ≤ n := by
  have hp : l.Perm ((List.range n).filter fun k => l.contains k) := by
    refine (List.perm_ext_iff_of_nodup h (List.nodup_range.filter _)).mpr fun a => ?_
    simp only [List.mem_filter, List.mem_range, List.contains_eq_mem, decide_eq_true_eq]
    exact ⟨fun z => ⟨hl a z, z⟩, fun z => z.2⟩
  rw [hp.length_eq]
  exact Nat.le_trans (List.length_filter_le _ _) (by simp)
end DL

set_option linter.all false
/-! What an expression gives, told by a postcondition: for what changes the store. -/
namespace DL
open PySem L2
structure We {α : Type} (r : R α) (Q : α → Sto → Prop) : Prop where
  h : ∃ v S, r = .ok v S ∧ Q v S
section
variable {α β : Type} {S : Sto} {τ : Env}
theorem We.ok {v : α} {Q : α → Sto → Prop} (h : Q v S) : We (.ok v S) Q := ⟨⟨v, S, rfl, h⟩⟩
theorem We.bind {r : R α} {f : α → Sto → R β} {Q : β → Sto → Prop} (h : We r fun x S1 => We (f x S1) Q) : We (r.bind f) Q := by
  obtain ⟨v, S, rfl, w⟩ := h.h
  exact ⟨w.h⟩
theorem We.var {i : Nat} {d : D} {Q : D → Sto → Prop} (h : τ[i]? = some (some d)) (k : Q d S) : We (dVar i τ S) Q := by simp only [dVar, h]; exact .ok k
theorem We.c {d : D} {Q : D → Sto → Prop} (k : Q d S) : We (dC d τ S) Q := .ok k
theorem We.op {f : D → D → Sto → R D} {da db : DenE} {Q : D → Sto → Prop} (h : We (da τ S) fun x S1 => We (db τ S1) fun y S2 => We (f x y S2) Q) : We (dOp f da db τ S) Q := by
  refine We.bind ?_
  obtain ⟨v, S1, e, w⟩ := h.h
  exact ⟨⟨v, S1, e, .bind w⟩⟩
theorem We.b {d : DenE} {Q : Bool → Sto → Prop} (h : We (d τ S) fun x S1 => ∃ b, x = .bl b ∧ Q b S1) : We (dB d τ S) Q := by
  refine We.bind ?_
  obtain ⟨v, S1, e, b, rfl, w⟩ := h.h
  exact ⟨⟨_, S1, e, .ok w⟩⟩
theorem We.and {d d' : DenT} {Q : Bool → Sto → Prop} (h : We (d τ S) fun b S1 => (b = true → We (d' τ S1) Q) ∧ (b = false → Q false S1)) : We (dAnd d d' τ S) Q := by
  refine We.bind ?_
  obtain ⟨v, S1, e, h1, h2⟩ := h.h
  refine ⟨⟨v, S1, e, ?_⟩⟩
  cases v with
  | true => simpa using h1 rfl
  | false => exact .ok (h2 rfl)
theorem We.args {f : List D → Sto → R D} {dd : DenA} {Q : D → Sto → Prop} (h : We (dd τ S) fun xs S1 => We (f xs S1) Q) : We (dArgs f dd τ S) Q := .bind h
theorem We.nil {Q : List D → Sto → Prop} (h : Q [] S) : We (dNil τ S) Q := .ok h
theorem We.cons {da : DenE} {dr : DenA} {Q : List D → Sto → Prop} (h : We (da τ S) fun x S1 => We (dr τ S1) fun xs S2 => Q (x :: xs) S2) : We (dCons da dr τ S) Q := by
  refine We.bind ?_
  obtain ⟨v, S1, e, w⟩ := h.h
  obtain ⟨xs, S2, e2, w2⟩ := w.h
  exact ⟨⟨v, S1, e, .bind ⟨⟨xs, S2, e2, .ok w2⟩⟩⟩⟩
theorem We.ev {d : Sto → R α} {v : α} {Q : α → Sto → Prop} (h : Ev d S v) (k : ∀ S1, S <+: S1 → Q v S1) : We (d S) Q := by
  obtain ⟨S1, e, p⟩ := h S (List.prefix_refl _)
  exact ⟨⟨v, S1, e, k S1 p⟩⟩
theorem We.el {d : Sto → R D} {xs : List D} {Q : D → Sto → Prop} (h : El d S xs) (k : ∀ n S1, S <+: S1 → S1[n]? = some (.lst xs) → S.length ≤ n → Q (.ref n) S1) : We (d S) Q := by
  obtain ⟨n, S1, e, p, g, l⟩ := h S (List.prefix_refl _)
  exact ⟨⟨_, S1, e, k n S1 p g l⟩⟩
theorem We.imp {r : R α} {Q Q' : α → Sto → Prop} (h : We r Q) (i : ∀ v S, Q v S → Q' v S) : We r Q' := by
  obtain ⟨v, S, e, w⟩ := h.h; exact ⟨⟨v, S, e, i v S w⟩⟩
variable {Q : Rs → Prop}
theorem Wn.setW {i : Nat} {e : DenE} (h : We (e τ S) fun v S1 => Q (.nx (τ.set i (some v)) S1)) : Wn Q (sSet i e τ S) := by
  obtain ⟨v, S1, e1, w⟩ := h.h
  simp only [sSet, e1, R.go]; exact ⟨w⟩
theorem Wn.retW {e : DenE} (h : We (e τ S) fun v S1 => Q (.rt v S1)) : Wn Q (sRet e τ S) := by
  obtain ⟨v, S1, e1, w⟩ := h.h
  simp only [sRet, e1, R.go]; exact ⟨w⟩
theorem Wn.exprW {e : DenE} (h : We (e τ S) fun v S1 => Q (.nx τ S1)) : Wn Q (sExpr e τ S) := by
  obtain ⟨v, S1, e1, w⟩ := h.h
  simp only [sExpr, e1, R.go]; exact ⟨w⟩
theorem Wn.ifW {t : DenT} {d d' : DenS} (h : We (t τ S) fun b S1 => (b = true → Wn Q (d τ S1)) ∧ (b = false → Wn Q (d' τ S1))) : Wn Q (sIf t d d' τ S) := by
  obtain ⟨b, S1, e1, h1, h2⟩ := h.h
  simp only [sIf, e1, R.go]
  cases b with
  | true => exact h1 rfl
  | false => exact h2 rfl
theorem We.fn {n : Nat} {body : DenS} {ds : List D} {Q : D → Sto → Prop} (h : Wn (fun r => ∃ v S', r = .rt v S' ∧ Q v S') (body (ds.map some ++ List.replicate (n - ds.length) none) S)) : We (dFn n body ds S) Q := by
  obtain ⟨v, S2, e, q⟩ := h.h
  exact ⟨⟨v, S2, by simp only [dFn, e], q⟩⟩
end
section
variable {S : Sto} {i j : Int}
theorem mulOk_small (hi : i.natAbs < 2 ^ 64) (hj : j.natAbs < 2 ^ 64) : mulOk i j = true := by
  have a := PyProof.Rows.intBits_le hi
  have b := PyProof.Rows.intBits_le hj
  simp only [mulOk, decide_eq_true_eq]
  omega
theorem Ev.mod (h : 0 < j) : Ev (oMod (.int i) (.int j)) S (.int (i % j)) := .pure fun _ _ => by
  have : decide (0 < j) = true := by simpa using h
  simp only [iop, this, if_true]
theorem Ev.fdiv (h : divOk i j = true) : Ev (oFdiv (.int i) (.int j)) S (.int (i / j)) := .pure fun _ _ => by simp only [iop, h, if_true]
theorem Ev.pow (h : powOk i j = true) : Ev (oPow (.int i) (.int j)) S (.int (i ^ j.toNat)) := .pure fun _ _ => by simp only [iop, h, if_true]
theorem Ev.fint : Ev (fInt [.int i]) S (.int i) := .pure fun _ _ => rfl
theorem Ev.min2 : Ev (fMin2 [.int i, .int j]) S (.int (if j < i then j else i)) := .pure fun _ _ => rfl
end
end DL

set_option linter.all false
/-! The denotations of the law's defs; printed by gen.py. -/
namespace K01
open PySem DL
def mt_BadLot (k : Nat) : Bool := k == 3
def mt_BadPlace (k : Nat) : Bool := k == 2
def mt_RatesError (k : Nat) : Bool := k == 0 || k == 1 || k == 2 || k == 3 || k == 4 || k == 5
def mt_ValueError (k : Nat) : Bool := k == 0 || k == 1 || k == 2 || k == 3 || k == 4 || k == 5
def b_is_whole : DenS :=
  sRet (dAndV (dUn (fIsi ["int"]) (dVar 0)) (dNotV (dUn (fIsi ["bool"]) (dVar 0))))
def d_is_whole : List D → Sto → R D := dFn 1 b_is_whole
def b__worlds_row : DenS :=
  sSeq (sIf (dOr (dNotT (dTru (dUn (fIsi ["tuple", "list"]) (dVar 0)))) (dB (dOp oNe (dArgs fLenSeq (dCons (dVar 0) (dNil))) (dVar 1)))) (sRaise 4 "row" (dVar 2)) (sNil)) (sSeq (sFor (dItA itEnum (dCons (dVar 0) (dNil))) (gT 2 (gsCons (gN 4) (gsCons (gN 5) (gsNil)))) (sSeq (sIf (dOr (dNotT (dTru (dArgs d_is_whole (dCons (dVar 5) (dNil))))) (dOr (dB (dOp oLt (dVar 5) (dC (.int 0)))) (dAnd (dB (dOp oEq (dVar 4) (dVar 2))) (dB (dOp oNe (dVar 5) (dC (.int 0))))))) (sRaise 4 "row" (dVar 2)) (sNil)) (sIf (dAnd (dB (dOp (oIsN true) (dVar 3) (dC .non))) (dAnd (dB (dOp oGt (dVar 5) (dC (.int 0)))) (dB (dOp oEq (dOp oIx (dVar 3) (dVar 4)) (dC (.int 0)))))) (sRaise 4 "row" (dVar 2)) (sNil)))) (sRet (dArgs fTuple (dCons (dVar 0) (dNil)))))
def d__worlds_row : List D → Sto → R D := dFn 6 b__worlds_row
def b__worlds_calls : DenS :=
  sSeq (sSet 2 (dArgs fLenSeq (dCons (dVar 1) (dNil)))) (sSeq (sIf (dB (dOp (oIsN false) (dVar 0) (dC .non))) (sRet (dArgs fTuple (dCons (dLc [4] (dItA itR1 (dCons (dVar 2) (dNil))) (gN 4) (tTrue) (dArgs fTuple (dCons (dLc [3] (dItA itR1 (dCons (dVar 2) (dNil))) (gN 3) (tTrue) (dC (.int 0))) (dNil)))) (dNil)))) (sNil)) (sSeq (sIf (dOr (dNotT (dTru (dUn (fIsi ["tuple", "list"]) (dVar 0)))) (dB (dOp oNe (dArgs fLenSeq (dCons (dVar 0) (dNil))) (dVar 2)))) (sRaise 4 "row" (dUn oNeg (dC (.int 1)))) (sNil)) (sRet (dArgs fTuple (dCons (dLc [4] (dItA itR1 (dCons (dVar 2) (dNil))) (gN 4) (tTrue) (dArgs d__worlds_row (dCons (dOp oIx (dVar 0) (dVar 4)) (dCons (dVar 2) (dCons (dVar 4) (dCons (dOp oIx (dVar 1) (dVar 4)) (dNil))))))) (dNil))))))
def d__worlds_calls : List D → Sto → R D := dFn 5 b__worlds_calls
def b__worlds_takes : DenS :=
  sSeq (sIf (dOr (dNotT (dTru (dUn (fIsi ["tuple", "list"]) (dVar 0)))) (dNotT (dB (dChain oLe oLe (dC (.int 2)) (dArgs fLenSeq (dCons (dVar 0) (dNil))) (dC (.int 6)))))) (sRaise 4 "row" (dUn oNeg (dC (.int 1)))) (sNil)) (sSeq (sSet 1 (dArgs fLenSeq (dCons (dVar 0) (dNil)))) (sRet (dArgs fTuple (dCons (dLc [2] (dItA itR1 (dCons (dVar 1) (dNil))) (gN 2) (tTrue) (dArgs d__worlds_row (dCons (dOp oIx (dVar 0) (dVar 2)) (dCons (dVar 1) (dCons (dVar 2) (dCons (dC .non) (dNil))))))) (dNil)))))
def d__worlds_takes : List D → Sto → R D := dFn 3 b__worlds_takes
def b_World_init : DenS :=
  sSeq (sSlot 6 2 (dArgs d__worlds_takes (dCons (dVar 1) (dNil))) (dVar 0)) (sSeq (sSlot 6 1 (dArgs fLenSeq (dCons (dUn (oSlot 6 2) (dVar 0)) (dNil))) (dVar 0)) (sSlot 6 0 (dArgs d__worlds_calls (dCons (dVar 2) (dCons (dUn (oSlot 6 2) (dVar 0)) (dNil)))) (dVar 0)))
def d_World_init : List D → Sto → R D := dFn 3 b_World_init
def b__law_closed : DenS :=
  sSeq (sFor (dIt itSeq (dVar 1)) (gN 2) (sFor (dItA itR1 (dCons (dArgs fLenSeq (dCons (dVar 0) (dNil))) (dNil))) (gN 3) (sIf (dAnd (dB (dOp oGt (dOp oIx (dOp oIx (dVar 0) (dVar 2)) (dVar 3)) (dC (.int 0)))) (dB (dOp (oIn true) (dVar 3) (dVar 1)))) (sRet (dC (.bl false))) (sNil)))) (sRet (dOp oGt (dArgs fLenSeq (dCons (dVar 1) (dNil))) (dC (.int 0))))
def d__law_closed : List D → Sto → R D := dFn 4 b__law_closed
def b__law_lots : DenS :=
  sSeq (sSet 1 (dArgs mkLst (dCons (dArgs mkLst (dNil)) (dNil)))) (sSeq (sFor (dItA itR1 (dCons (dVar 0) (dNil))) (gN 2) (sSet 1 (dOp oAdd (dVar 1) (dLc [3] (dIt itSeq (dVar 1)) (gN 3) (tTrue) (dOp oAdd (dVar 3) (dArgs mkLst (dCons (dVar 2) (dNil)))))))) (sRet (dVar 1)))
def d__law_lots : List D → Sto → R D := dFn 4 b__law_lots
def b__law_least_closed : DenS :=
  sSeq (sSet 1 (dLc [2] (dIt itSeq (dArgs d__law_lots (dCons (dArgs fLenSeq (dCons (dVar 0) (dNil))) (dNil)))) (gN 2) (dTru (dArgs d__law_closed (dCons (dVar 0) (dCons (dVar 2) (dNil))))) (dVar 2))) (sSeq (sSet 3 (dArgs mkLst (dNil))) (sSeq (sFor (dIt itSeq (dVar 1)) (gN 2) (sSeq (sSet 4 (dC (.int 0))) (sSeq (sFor (dIt itSeq (dVar 1)) (gN 5) (sIf (dAnd (dB (dOp oLt (dArgs fLenSeq (dCons (dVar 5) (dNil))) (dArgs fLenSeq (dCons (dVar 2) (dNil))))) (dB (dOp oEq (dArgs fLenSeq (dCons (dLc [6] (dIt itSeq (dVar 5)) (gN 6) (dB (dOp (oIn false) (dVar 6) (dVar 2))) (dVar 6)) (dNil))) (dArgs fLenSeq (dCons (dVar 5) (dNil)))))) (sSet 4 (dOp oAdd (dVar 4) (dC (.int 1)))) (sNil))) (sIf (dB (dOp oEq (dVar 4) (dC (.int 0)))) (sExpr (dMeth mAppend (dVar 3) (dCons (dArgs fTuple (dCons (dVar 2) (dNil))) (dNil)))) (sNil))))) (sRet (dArgs fTuple (dCons (dArgs fSorted (dCons (dVar 3) (dNil))) (dNil))))))
def d__law_least_closed : List D → Sto → R D := dFn 7 b__law_least_closed
def b__law_blank : DenS :=
  sSeq (sSet 1 (dArgs mkLst (dNil))) (sSeq (sFor (dItA itR1 (dCons (dVar 0) (dNil))) (gN 2) (sExpr (dMeth mAppend (dVar 1) (dCons (dOp oMul (dArgs mkLst (dCons (dC (.int 0)) (dNil))) (dVar 0)) (dNil))))) (sRet (dVar 1)))
def d__law_blank : List D → Sto → R D := dFn 3 b__law_blank
def b__law_pick : DenS :=
  sSeq (sIf (dB (dOp oEq (dArgs fLenSeq (dCons (dVar 0) (dNil))) (dC (.int 0)))) (sRet (dC (.int 0))) (sNil)) (sRet (dOp oMod (dArgs fInt (dCons (dMeth mPop (dVar 0) dNil) (dNil))) (dVar 1)))
def d__law_pick : List D → Sto → R D := dFn 2 b__law_pick
def b__law_rate : DenS :=
  sSeq (sSet 1 (dArgs d__law_pick (dCons (dVar 0) (dCons (dC (.int 12)) (dNil))))) (sSeq (sIf (dB (dOp oEq (dVar 1) (dC (.int 11)))) (sRet (dOp oAdd (dC (.int 100)) (dOp oMul (dC (.int 31)) (dArgs d__law_pick (dCons (dVar 0) (dCons (dC (.int 29)) (dNil))))))) (sNil)) (sRet (dOp oIx (dArgs mkLst (dCons (dC (.int 1)) (dCons (dC (.int 2)) (dCons (dC (.int 1)) (dCons (dC (.int 3)) (dCons (dC (.int 1)) (dCons (dC (.int 5)) (dCons (dC (.int 2)) (dCons (dC (.int 7)) (dCons (dC (.int 9)) (dCons (dC (.int 4)) (dCons (dC (.int 1)) (dNil))))))))))))) (dVar 1))))
def d__law_rate : List D → Sto → R D := dFn 2 b__law_rate
def b__law_loose : DenS :=
  sSeq (sSet 1 (dOp oIx (dArgs mkLst (dCons (dC (.int 3)) (dCons (dC (.int 2)) (dCons (dC (.int 4)) (dCons (dC (.int 5)) (dCons (dC (.int 6)) (dCons (dC (.int 3)) (dNil)))))))) (dArgs d__law_pick (dCons (dVar 0) (dCons (dC (.int 6)) (dNil)))))) (sSeq (sSet 2 (dOp oAdd (dC (.int 1)) (dArgs d__law_pick (dCons (dVar 0) (dCons (dC (.int 4)) (dNil)))))) (sSeq (sSet 3 (dOp oEq (dArgs d__law_pick (dCons (dVar 0) (dCons (dC (.int 2)) (dNil)))) (dC (.int 1)))) (sSeq (sSet 4 (dArgs d__law_blank (dCons (dVar 1) (dNil)))) (sSeq (sFor (dItA itR1 (dCons (dVar 1) (dNil))) (gN 5) (sSeq (sSet 6 (dOp oIx (dVar 4) (dVar 5))) (sFor (dItA itR1 (dCons (dVar 1) (dNil))) (gN 7) (sIf (dAnd (dB (dOp oNe (dVar 7) (dVar 5))) (dB (dOp oEq (dVar 3) (dOp oGe (dArgs d__law_pick (dCons (dVar 0) (dCons (dC (.int 5)) (dNil)))) (dVar 2))))) (sPut (dArgs d__law_rate (dCons (dVar 0) (dNil))) (dVar 6) (dVar 7)) (sNil))))) (sRet (dVar 4))))))
def d__law_loose : List D → Sto → R D := dFn 8 b__law_loose
def b__law_loud : DenS :=
  sSeq (sSet 2 (dArgs d__law_blank (dCons (dArgs fLenSeq (dCons (dVar 1) (dNil))) (dNil)))) (sSeq (sFor (dItA itR1 (dCons (dArgs fLenSeq (dCons (dVar 1) (dNil))) (dNil))) (gN 3) (sSeq (sSet 4 (dOp oIx (dVar 2) (dVar 3))) (sFor (dItA itR1 (dCons (dArgs fLenSeq (dCons (dVar 1) (dNil))) (dNil))) (gN 5) (sIf (dB (dOp oGt (dOp oIx (dOp oIx (dVar 1) (dVar 3)) (dVar 5)) (dC (.int 0)))) (sPut (dOp oIx (dArgs mkLst (dCons (dC (.int 0)) (dCons (dC (.int 1)) (dCons (dC (.int 0)) (dCons (dC (.int 2)) (dCons (dC (.int 0)) (dCons (dC (.int 7)) (dNil)))))))) (dArgs d__law_pick (dCons (dVar 0) (dCons (dC (.int 6)) (dNil))))) (dVar 4) (dVar 5)) (sNil))))) (sRet (dVar 2)))
def d__law_loud : List D → Sto → R D := dFn 6 b__law_loud
def b__law_pool : DenS :=
  sSeq (sSet 1 (dArgs mkLst (dNil))) (sSeq (sFor (dItA itR1 (dCons (dArgs fMin2 (dCons (dC (.int 63)) (dCons (dArgs fLenSeq (dCons (dVar 0) (dNil))) (dNil)))) (dNil))) (gN 2) (sSeq (sSet 3 (dArgs fInt (dCons (dOp oIx (dVar 0) (dVar 2)) (dNil)))) (sSeq (sIf (dB (dOp oLt (dVar 3) (dC (.int 0)))) (sSet 3 (dOp oSub (dC (.int 1)) (dOp oMul (dC (.int 2)) (dVar 3)))) (sNil)) (sIf (dB (dOp oGe (dVar 3) (dOp oPow (dC (.int 10)) (dC (.int 18))))) (sFor (dItA itR1 (dCons (dC (.int 50)) (dNil))) (gN 4) (sIf (dB (dOp oGt (dVar 3) (dC (.int 0)))) (sSeq (sExpr (dMeth mAppend (dVar 1) (dCons (dOp oMod (dArgs fInt (dCons (dVar 3) (dNil))) (dC (.int 30))) (dNil)))) (sSet 3 (dOp oFdiv (dVar 3) (dC (.int 30))))) (sNil))) (sSeq (sSet 5 (dOp oMod (dArgs fInt (dCons (dOp oAdd (dOp oAdd (dOp oMul (dVar 3) (dC (.int 39373))) (dOp oMul (dVar 2) (dC (.int 10007)))) (dC (.int 17))) (dNil))) (dC (.int 1000003)))) (sFor (dItA itR1 (dCons (dC (.int 6)) (dNil))) (gN 4) (sSeq (sSet 5 (dOp oMod (dArgs fInt (dCons (dOp oAdd (dOp oAdd (dOp oMul (dVar 5) (dVar 5)) (dOp oMul (dOp oAdd (dVar 4) (dC (.int 3))) (dC (.int 7919)))) (dVar 3)) (dNil))) (dC (.int 1000033)))) (sSeq (sSet 5 (dOp oMod (dArgs fInt (dCons (dOp oAdd (dOp oAdd (dOp oMul (dVar 5) (dC (.int 40014))) (dVar 2)) (dVar 4)) (dNil))) (dC (.int 1000037)))) (sExpr (dMeth mAppend (dVar 1) (dCons (dOp oFdiv (dVar 5) (dC (.int 5))) (dNil)))))))))))) (sSeq (sExpr (dMeth mReverse (dVar 1) dNil)) (sRet (dVar 1))))
def d__law_pool : List D → Sto → R D := dFn 6 b__law_pool
def b__law_reached : DenS :=
  sSeq (sSet 2 (dArgs mkLst (dCons (dVar 1) (dNil)))) (sSeq (sFor (dItA itR1 (dCons (dArgs fLenSeq (dCons (dVar 0) (dNil))) (dNil))) (gN 3) (sFor (dIt itSeq (dArgs fList (dCons (dVar 2) (dNil)))) (gN 4) (sFor (dItA itR1 (dCons (dArgs fLenSeq (dCons (dVar 0) (dNil))) (dNil))) (gN 5) (sIf (dAnd (dB (dOp oGt (dOp oIx (dOp oIx (dVar 0) (dVar 4)) (dVar 5)) (dC (.int 0)))) (dB (dOp (oIn true) (dVar 5) (dVar 2)))) (sExpr (dMeth mAppend (dVar 2) (dCons (dVar 5) (dNil)))) (sNil))))) (sRet (dArgs fSorted (dCons (dVar 2) (dNil)))))
def d__law_reached : List D → Sto → R D := dFn 6 b__law_reached
def b_bits_of : DenS :=
  sSeq (sSet 1 (dC (.int 0))) (sSeq (sFor (dIt itSeq (dVar 0)) (gN 2) (sSet 1 (dOp oOr (dVar 1) (dOp oShl (dC (.int 1)) (dVar 2))))) (sRet (dVar 1)))
def d_bits_of : List D → Sto → R D := dFn 3 b_bits_of
def b__linking_looks : DenS :=
  sSeq (sSet 1 (dUn (oSlot 6 1) (dVar 0))) (sRet (dLc [3] (dIt itSeq (dUn (oSlot 6 2) (dVar 0))) (gN 3) (tTrue) (dArgs d_bits_of (dCons (dLc [2] (dItA itR1 (dCons (dVar 1) (dNil))) (gN 2) (dB (dOp oGt (dOp oIx (dVar 3) (dVar 2)) (dC (.int 0)))) (dVar 2)) (dNil)))))
def d__linking_looks : List D → Sto → R D := dFn 4 b__linking_looks
def b_lot_from : DenS :=
  sRet (dArgs fTuple (dCons (dLc [1] (dItA itR1 (dCons (dUn oBits (dVar 0)) (dNil))) (gN 1) (dTru (dOp oAnd (dOp oShr (dVar 0) (dVar 1)) (dC (.int 1)))) (dVar 1)) (dNil)))
def d_lot_from : List D → Sto → R D := dFn 2 b_lot_from
def b__linking_reached : DenS :=
  sSeq (sSet 2 (dOp oShl (dC (.int 1)) (dVar 1))) (sSeq (sSet 3 (dArgs mkLst (dCons (dVar 1) (dNil)))) (sSeq (sWhile 1000 (dTru (dVar 3)) (sSeq (sSet 4 (dOp oAnd (dOp oIx (dVar 0) (dMeth mPop (dVar 3) dNil)) (dUn oInv (dVar 2)))) (sSeq (sSet 2 (dOp oOr (dVar 2) (dVar 4))) (sExpr (dMeth mExtend (dVar 3) (dCons (dArgs d_lot_from (dCons (dVar 4) (dNil))) (dNil))))))) (sRet (dVar 2))))
def d__linking_reached : List D → Sto → R D := dFn 5 b__linking_reached
def b_place_of : DenS :=
  sSeq (sIf (dOr (dNotT (dTru (dArgs d_is_whole (dCons (dVar 0) (dNil))))) (dNotT (dB (dChain oLe oLt (dC (.int 0)) (dVar 0) (dVar 1))))) (sRaise 2 "place" (dVar 0)) (sNil)) (sRet (dVar 0))
def d_place_of : List D → Sto → R D := dFn 2 b_place_of
def b_reaches : DenS :=
  sSeq (sExpr (dArgs d_place_of (dCons (dVar 1) (dCons (dUn (oSlot 6 1) (dVar 0)) (dNil))))) (sRet (dArgs d_lot_from (dCons (dArgs d__linking_reached (dCons (dArgs d__linking_looks (dCons (dVar 0) (dNil))) (dCons (dVar 1) (dNil)))) (dNil))))
def d_reaches : List D → Sto → R D := dFn 2 b_reaches
def b_way : DenS :=
  sSeq (sExpr (dArgs d_place_of (dCons (dVar 1) (dCons (dUn (oSlot 6 1) (dVar 0)) (dNil))))) (sSeq (sExpr (dArgs d_place_of (dCons (dVar 2) (dCons (dUn (oSlot 6 1) (dVar 0)) (dNil))))) (sSeq (sSet 3 (eDisp1 (dVar 1) (dArgs mkTup (dCons (dVar 1) (dNil))))) (sSeq (sSet 4 (dArgs mkLst (dCons (dVar 1) (dNil)))) (sSeq (sWhile 1000 (dAnd (dTru (dVar 4)) (dB (dOp (oDIn true) (dVar 2) (dVar 3)))) (sSeq (sSet 5 (dArgs mkLst (dNil))) (sSeq (sFor (dIt itSeq (dArgs fList (dCons (dVar 4) (dNil)))) (gN 6) (sFor (dItA itR1 (dCons (dUn (oSlot 6 1) (dVar 0)) (dNil))) (gN 7) (sIf (dAnd (dB (dOp oGt (dOp oIx (dOp oIx (dUn (oSlot 6 2) (dVar 0)) (dVar 6)) (dVar 7)) (dC (.int 0)))) (dB (dOp (oDIn true) (dVar 7) (dVar 3)))) (sSeq (sDPut (dOp oAdd (dOp oDGet (dVar 3) (dVar 6)) (dArgs mkTup (dCons (dVar 7) (dNil)))) (dVar 3) (dVar 7)) (sExpr (dMeth mAppend (dVar 5) (dCons (dVar 7) (dNil))))) (sNil)))) (sSet 4 (dVar 5))))) (sRet (mDGet1 (dVar 3) (dVar 2)))))))
def d_way : List D → Sto → R D := dFn 8 b_way
def b__law_refused : DenS :=
  sSeq (sSet 4 (dArgs mkTup (dCons (dC (.str "told")) (dCons (dC (.int 0)) (dCons (dC (.bl true)) (dNil)))))) (sSeq (sTry 6 mt_BadPlace 5 (sIf (dB (dOp oEq (dVar 1) (dC (.int 0)))) (sExpr (dArgs d_reaches (dCons (dVar 0) (dCons (dVar 2) (dNil))))) (sExpr (dArgs d_way (dCons (dVar 0) (dCons (dVar 2) (dCons (dVar 3) (dNil))))))) (fun ex => sSeq (sSet 6 (dAndV (eXis 6 mt_RatesError ex) (eXis 6 mt_ValueError ex))) (sSet 4 (dArgs mkTup (dCons (dC (.str "refused")) (dCons (eXf 6 "place" ex) (dCons (dAndV (dVar 6) (dNotV (eXis 6 mt_BadLot ex))) (dNil)))))))) (sRet (dVar 4)))
def d__law_refused : List D → Sto → R D := dFn 7 b__law_refused
def b__law_far : DenS :=
  sSeq (sSet 2 (dArgs fLenSeq (dCons (dVar 0) (dNil)))) (sSeq (sSet 3 (dOp oMul (dArgs mkLst (dCons (dUn oNeg (dC (.int 1))) (dNil))) (dVar 2))) (sSeq (sPut (dC (.int 0)) (dVar 3) (dVar 1)) (sSeq (sFor (dItA itR1 (dCons (dVar 2) (dNil))) (gN 4) (sFor (dItA itR1 (dCons (dVar 2) (dNil))) (gN 5) (sIf (dB (dOp oEq (dOp oIx (dVar 3) (dVar 5)) (dVar 4))) (sFor (dItA itR1 (dCons (dVar 2) (dNil))) (gN 6) (sIf (dAnd (dB (dOp oGt (dOp oIx (dOp oIx (dVar 0) (dVar 5)) (dVar 6)) (dC (.int 0)))) (dB (dOp oLt (dOp oIx (dVar 3) (dVar 6)) (dC (.int 0))))) (sPut (dOp oAdd (dVar 4) (dC (.int 1))) (dVar 3) (dVar 6)) (sNil))) (sNil)))) (sRet (dVar 3)))))
def d__law_far : List D → Sto → R D := dFn 7 b__law_far
def b__law_int : DenS :=
  sRet (dAndV (dUn (fIsi ["int"]) (dVar 0)) (dNotV (dUn (fIsi ["bool"]) (dVar 0))))
def d__law_int : List D → Sto → R D := dFn 1 b__law_int
def b__law_is_way : DenS :=
  sSeq (sIf (dOr (dNotT (dTru (dUn (fIsi ["tuple"]) (dVar 4)))) (dB (dOp oNe (dArgs fLenSeq (dCons (dVar 4) (dNil))) (dVar 3)))) (sRet (dC (.bl false))) (sNil)) (sSeq (sFor (dIt itSeq (dVar 4)) (gN 5) (sIf (dOr (dNotT (dTru (dArgs d__law_int (dCons (dVar 5) (dNil))))) (dOr (dB (dOp oLt (dVar 5) (dC (.int 0)))) (dB (dOp oGe (dVar 5) (dArgs fLenSeq (dCons (dVar 0) (dNil))))))) (sRet (dC (.bl false))) (sNil))) (sSeq (sFor (dItA itR1 (dCons (dOp oSub (dVar 3) (dC (.int 1))) (dNil))) (gN 6) (sIf (dB (dOp oEq (dOp oIx (dOp oIx (dVar 0) (dOp oIx (dVar 4) (dVar 6))) (dOp oIx (dVar 4) (dOp oAdd (dVar 6) (dC (.int 1))))) (dC (.int 0)))) (sRet (dC (.bl false))) (sNil))) (sRet (dAndV (dOp oEq (dOp oIx (dVar 4) (dC (.int 0))) (dVar 1)) (dOp oEq (dOp oIx (dVar 4) (dOp oSub (dVar 3) (dC (.int 1)))) (dVar 2))))))
def d__law_is_way : List D → Sto → R D := dFn 7 b__law_is_way
def b__law_ways_told : DenS :=
  sSeq (sSet 3 (dArgs d__law_far (dCons (dVar 0) (dCons (dVar 2) (dNil))))) (sSeq (sFor (dItA itR1 (dCons (dArgs fLenSeq (dCons (dVar 0) (dNil))) (dNil))) (gN 4) (sSeq (sSet 5 (dArgs d_way (dCons (dVar 1) (dCons (dVar 2) (dCons (dVar 4) (dNil)))))) (sIf (dB (dOp oLt (dOp oIx (dVar 3) (dVar 4)) (dC (.int 0)))) (sIf (dB (dOp (oIsN true) (dVar 5) (dC .non))) (sRet (dC (.bl false))) (sNil)) (sIf (dNotT (dTru (dArgs d__law_is_way (dCons (dVar 0) (dCons (dVar 2) (dCons (dVar 4) (dCons (dOp oAdd (dOp oIx (dVar 3) (dVar 4)) (dC (.int 1))) (dCons (dVar 5) (dNil))))))))) (sRet (dC (.bl false))) (sNil))))) (sRet (dC (.bl true))))
def d__law_ways_told : List D → Sto → R D := dFn 6 b__law_ways_told
def b_heads : DenS :=
  sSeq (sSet 1 (dArgs d__linking_looks (dCons (dVar 0) (dNil)))) (sSeq (sSet 2 (dLc [3] (dItA itR1 (dCons (dUn (oSlot 6 1) (dVar 0)) (dNil))) (gN 3) (tTrue) (dArgs d__linking_reached (dCons (dVar 1) (dCons (dVar 3) (dNil)))))) (sSeq (sSet 4 (dArgs mkLst (dNil))) (sSeq (sFor (dItA itR1 (dCons (dUn (oSlot 6 1) (dVar 0)) (dNil))) (gN 3) (sSeq (sSet 5 (dArgs d_lot_from (dCons (dOp oIx (dVar 2) (dVar 3)) (dNil)))) (sIf (dAnd (dB (dOp oEq (dOp oIx (dVar 5) (dC (.int 0))) (dVar 3))) (dTru (dArgs fAll (dCons (dLc [6] (dIt itSeq (dVar 5)) (gN 6) (tTrue) (dOp oEq (dOp oIx (dVar 2) (dVar 6)) (dOp oIx (dVar 2) (dVar 3)))) (dNil))))) (sExpr (dMeth mAppend (dVar 4) (dCons (dVar 5) (dNil)))) (sNil)))) (sRet (dArgs fTuple (dCons (dVar 4) (dNil)))))))
def d_heads : List D → Sto → R D := dFn 7 b_heads
def b_shut_lot : DenS :=
  sSeq (sSet 1 (dUn (oSlot 6 1) (dVar 0))) (sSeq (sSet 2 (dArgs d__linking_looks (dCons (dVar 0) (dNil)))) (sSeq (sFor (dItA itR2 (dCons (dC (.int 1)) (dCons (dOp oSub (dOp oShl (dC (.int 1)) (dVar 1)) (dC (.int 1))) (dNil)))) (gN 3) (sIf (dTru (dArgs fAll (dCons (dLc [4] (dIt itSeq (dArgs d_lot_from (dCons (dVar 3) (dNil)))) (gN 4) (tTrue) (dOp oEq (dOp oAnd (dOp oIx (dVar 2) (dVar 4)) (dUn oInv (dVar 3))) (dC (.int 0)))) (dNil)))) (sRet (dArgs d_lot_from (dCons (dVar 3) (dNil)))) (sNil))) (sRet (dC .non))))
def d_shut_lot : List D → Sto → R D := dFn 5 b_shut_lot
def b_is_linked : DenS :=
  sRet (dOp (oIsN false) (dArgs d_shut_lot (dCons (dVar 0) (dNil))) (dC .non))
def d_is_linked : List D → Sto → R D := dFn 1 b_is_linked
def b_law : DenS :=
  sSeq (sSet 1 (dArgs d__law_pool (dCons (dVar 0) (dNil)))) (sSeq (sSet 2 (dArgs d__law_loose (dCons (dVar 1) (dNil)))) (sSeq (sSet 3 (dArgs fLenSeq (dCons (dVar 2) (dNil)))) (sSeq (sSet 4 (dMakeK 6 d_World_init (fun xs ys => xs ++ ys) (dCons (dVar 2) (dNil)) (dCons (dArgs d__law_loud (dCons (dVar 1) (dCons (dVar 2) (dNil)))) dNil))) (sSeq (sSet 5 (dArgs d__law_lots (dCons (dVar 3) (dNil)))) (sSeq (sSet 6 (dC .non)) (sSeq (sFor (dItA itR2 (dCons (dC (.int 1)) (dCons (dOp oSub (dArgs fLenSeq (dCons (dVar 5) (dNil))) (dC (.int 1))) (dNil)))) (gN 7) (sIf (dAnd (dB (dOp (oIsN false) (dVar 6) (dC .non))) (dTru (dArgs d__law_closed (dCons (dVar 2) (dCons (dOp oIx (dVar 5) (dVar 7)) (dNil)))))) (sSet 6 (dArgs fTuple (dCons (dOp oIx (dVar 5) (dVar 7)) (dNil)))) (sNil))) (sSeq (sSet 8 (dArgs d_is_linked (dCons (dVar 4) (dNil)))) (sSeq (sIf (dOr (dNotT (dTru (dUn (fIsi ["bool"]) (dVar 8)))) (dOr (dB (dOp oNe (dVar 8) (dOp (oIsN false) (dVar 6) (dC .non)))) (dB (dOp oNe (dArgs d_shut_lot (dCons (dVar 4) (dNil))) (dVar 6))))) (sRet (dC (.bl false))) (sNil)) (sSeq (sIf (dB (dOp oNe (dArgs d_heads (dCons (dVar 4) (dNil))) (dArgs d__law_least_closed (dCons (dVar 2) (dNil))))) (sRet (dC (.bl false))) (sNil)) (sSeq (sFor (dItA itR1 (dCons (dVar 3) (dNil))) (gN 9) (sIf (dB (dOp oNe (dArgs d_reaches (dCons (dVar 4) (dCons (dVar 9) (dNil)))) (dArgs fTuple (dCons (dArgs d__law_reached (dCons (dVar 2) (dCons (dVar 9) (dNil)))) (dNil))))) (sRet (dC (.bl false))) (sNil))) (sSeq (sIf (dNotT (dTru (dArgs d__law_ways_told (dCons (dVar 2) (dCons (dVar 4) (dCons (dArgs d__law_pick (dCons (dVar 1) (dCons (dVar 3) (dNil)))) (dNil))))))) (sRet (dC (.bl false))) (sNil)) (sSeq (sSet 10 (dOp oIx (dArgs mkLst (dCons (dUn oNeg (dC (.int 1))) (dCons (dVar 3) (dCons (dC (.bl true)) (dCons (dC .non) (dCons (dArgs mkTup (dCons (dC (.int 0)) (dNil))) (dNil))))))) (dArgs d__law_pick (dCons (dVar 1) (dCons (dC (.int 5)) (dNil)))))) (sSeq (sIf (dB (dOp oNe (dArgs d__law_refused (dCons (dVar 4) (dCons (dC (.int 0)) (dCons (dVar 10) (dCons (dC (.int 0)) (dNil)))))) (dArgs mkTup (dCons (dC (.str "refused")) (dCons (dVar 10) (dCons (dC (.bl true)) (dNil))))))) (sRet (dC (.bl false))) (sNil)) (sSeq (sIf (dB (dOp oNe (dArgs d__law_refused (dCons (dVar 4) (dCons (dC (.int 1)) (dCons (dVar 10) (dCons (dUn oNeg (dC (.int 2))) (dNil)))))) (dArgs mkTup (dCons (dC (.str "refused")) (dCons (dVar 10) (dCons (dC (.bl true)) (dNil))))))) (sRet (dC (.bl false))) (sNil)) (sRet (dOp oEq (dArgs d__law_refused (dCons (dVar 4) (dCons (dC (.int 1)) (dCons (dOp oSub (dVar 3) (dC (.int 1))) (dCons (dVar 10) (dNil)))))) (dArgs mkTup (dCons (dC (.str "refused")) (dCons (dVar 10) (dCons (dC (.bl true)) (dNil)))))))))))))))))))))
def d_law : List D → Sto → R D := dFn 11 b_law
end K01

set_option linter.all false
namespace K01
open DL

def cell (M : List (List Int)) (i j : Nat) : Int := (M.getD i []).getD j 0
def adj (M : List (List Int)) (i j : Nat) : Bool := decide (0 < cell M i j)
structure Sq (M : List (List Int)) (n : Nat) : Prop where
  len : M.length = n
  row : ∀ i, i < n → (M.getD i []).length = n
  lo : 2 ≤ n
  hi : n ≤ 6
def Rows (S : Sto) (x : D) (M : List (List Int)) (n : Nat) : Prop := ∃ rs, seqOf S x = some rs ∧ rs.length = n ∧ ∀ i, i < n → ∃ r, rs[i]? = some r ∧ seqOf S r = some ((M.getD i []).map .int)
theorem Rows.mono {S S' : Sto} {x : D} {M : List (List Int)} {n : Nat} (h : Rows S x M n) (p : S <+: S') : Rows S' x M n := by
  obtain ⟨rs, a, b, c⟩ := h
  exact ⟨rs, seqOf_mono p a, b, fun i hi => by obtain ⟨r, d, e⟩ := c i hi; exact ⟨r, d, seqOf_mono p e⟩⟩
section
variable {M : List (List Int)} {n : Nat} {S : Sto} {τ : Env} {x : D}
theorem Rows.len (h : Rows S x M n) : Ev (fLenSeq [x]) S (.int n) := by
  obtain ⟨rs, a, b, c⟩ := h
  exact (Ev.len a).of_eq (by rw [b])
theorem Rows.cell (h : Rows S x M n) (q : Sq M n) {ex ei ej : DenE} {i j : Nat} (hx : Ev (ex τ) S x) (hi : Ev (ei τ) S (.int i)) (hj : Ev (ej τ) S (.int j)) (li : i < n) (lj : j < n) : Ev (dOp oIx (dOp oIx ex ei) ej τ) S (.int (cell M i j)) := by
  obtain ⟨rs, a, b, c⟩ := h
  obtain ⟨r, d, e⟩ := c i li
  refine .op (.op hx hi (.ix a d)) hj (.ix e ?_)
  have := q.row i li
  rw [List.getElem?_map]
  have hl : j < (M.getD i []).length := by omega
  rw [List.getElem?_eq_getElem hl]
  simp only [Option.map_some, K01.cell]
  rw [List.getD_eq_getElem?_getD (l := M.getD i []), List.getElem?_eq_getElem hl]; rfl
theorem Rows.adj (h : Rows S x M n) (q : Sq M n) {ex ei ej : DenE} {i j : Nat} (hx : Ev (ex τ) S x) (hi : Ev (ei τ) S (.int i)) (hj : Ev (ej τ) S (.int j)) (li : i < n) (lj : j < n) : Ev (dB (dOp oGt (dOp oIx (dOp oIx ex ei) ej) (dC (.int 0))) τ) S (adj M i j) :=
  .b (.op (h.cell q hx hi hj li lj) .c .gt)
end
theorem inV_ints (j : Nat) (ks : List Nat) : L2.inV (.int (j : Int)) (ks.map fun k => L2.V.int (k : Nat)) = ks.contains j := by
  induction ks with
  | nil => rfl
  | cons k ks ih =>
    simp only [L2.inV, List.map_cons, List.any_cons, List.contains_cons] at ih ⊢
    rw [ih]
    congr 1
    show decide ((k : Int) = (j : Int)) = (j == k)
    by_cases h : k = j
    · subst h; simp
    · have h1 : ¬ ((k : Int) = j) := by omega
      have h2 : ¬ (j = k) := fun z => h z.symm
      simp [h1, h2]
def nats (ks : List Nat) : List D := ks.map fun (k : Nat) => .int (k : Nat)
theorem Ev.oin {S : Sto} {x : D} {j : Nat} {ks : List Nat} {neg : Bool} (h : seqOf S x = some (nats ks)) : Ev (oIn neg (.int (j : Nat)) x) S (.bl (if neg then !ks.contains j else ks.contains j)) := .pure fun S1 p => by
  have hm : (nats ks).mapM flatD = some (ks.map fun k => L2.V.int (k : Nat)) := by
    clear h
    unfold nats
    induction ks with
    | nil => rfl
    | cons k ks ih => simp [List.map_cons, List.mapM_cons, flatD, ih]
  simp only [oIn, flatD, seqOf_mono p h, Option.bind_some, hm, inV_ints]

/-! ### closed lots -/
def closedB (M : List (List Int)) (n : Nat) (ks : List Nat) : Bool := (ks.all fun i => (List.range n).all fun j => !(adj M i j) || ks.contains j) && !ks.isEmpty
section
variable {M : List (List Int)} {n : Nat} {S : Sto} {x : D}
theorem ev_closed {m : Nat} {ks : List Nat} (h : Rows S x M n) (q : Sq M n) (hm : S[m]? = some (.lst (nats ks))) (hk : ∀ k ∈ ks, k < n) : Ev (d__law_closed [x, .ref m]) S (.bl (closedB M n ks)) := by
  refine Ev.fn fun S0 p0 => ?_
  have h0 := h.mono p0
  have hm0 := pre_get p0 hm
  refine Wn.seq (Wn.forP (κ := Nat) (ks := ks) (inj := fun k => .int (k : Nat)) (P := fun l τ => ∃ a b, τ = [some x, some (.ref m), a, b] ∧ (∀ k ∈ l, k < n) ∧ closedB M n ks = ((l.all fun i => (List.range n).all fun j => !(adj M i j) || ks.contains j) && !ks.isEmpty)) (List.prefix_refl _) (Ei.seqR (.var rfl) hm0) ⟨none, none, rfl, hk, rfl⟩ ?_ ?_)
  · rintro τ S1 p1 ⟨a, b, rfl, -, e⟩
    refine Wn.ret (S0 := S0) p1 (.op (.args1 (.var rfl) (.len (seq_ref hm0))) .c .gt) fun S2 p2 => ⟨S2, ?_, p1.trans p2⟩
    congr 2
    rw [e]
    cases ks <;> simp [nats]
  · rintro i l τ S1 p1 ⟨a, b, rfl, hl, e⟩
    refine ⟨_, rfl, ?_⟩
    have li : i < n := hl i (by simp)
    refine Wn.forP (κ := Nat) (ks := List.range n) (inj := fun k => .int (k : Nat)) (P := fun l' τ => ∃ b, τ = [some x, some (.ref m), some (.int (i : Nat)), b] ∧ (∀ k ∈ l', k < n) ∧ ((List.range n).all fun j => !(adj M i j) || ks.contains j) = (l'.all fun j => !(adj M i j) || ks.contains j)) (S0 := S0) p1 (Ei.r1 (.cons (.args1 (.var rfl) h0.len) .nil) (by have := q.hi; omega)) ⟨b, rfl, fun k hk => List.mem_range.mp hk, rfl⟩ ?_ ?_
    · rintro τ S2 p2 ⟨b', rfl, -, e2⟩
      refine ⟨p2, some (.int (i : Nat)), b', rfl, fun k hk => hl k (by simp [hk]), ?_⟩
      rw [e, List.all_cons, e2]; simp
    · rintro j l' τ S2 p2 ⟨b', rfl, hl', e2⟩
      refine ⟨_, rfl, ?_⟩
      have lj : j < n := hl' j (by simp)
      refine Wn.if (S0 := S0) (p1.trans p2) (.and (h0.adj q (.var rfl) (.var rfl) (.var rfl) li lj) fun _ => .b (.op (.var rfl) (.var rfl) (Ev.oin (seq_ref hm0)))) (fun hb S3 p3 => ?_) (fun hb S3 p3 => ?_)
      · refine Wn.ret (S0 := S0) ((p1.trans p2).trans p3) .c fun S4 p4 => ⟨S4, ?_, ((p1.trans p2).trans p3).trans p4⟩
        congr 2
        rw [e, List.all_cons, e2, List.all_cons]
        simp only [if_true, Bool.and_eq_true, Bool.not_eq_true'] at hb
        have : j ∉ ks := by simpa using hb.2
        simp [hb.1, this]
      · refine Wn.nil ⟨p3, some (.int (j : Nat)), rfl, fun k hk => hl' k (by simp [hk]), ?_⟩
        rw [e2, List.all_cons]
        simp only [if_true] at hb
        revert hb
        cases adj M i j <;> cases ks.contains j <;> simp
end
end K01

set_option linter.all false
set_option maxRecDepth 100000
namespace K01
open DL

/-! ### masks -/
def places (m : Nat) : List Nat := (List.range 6).filter fun k => m.testBit k
def maskOf (ks : List Nat) : Nat := ks.foldl (fun a k => a ||| 2 ^ k) 0
theorem bitOr_nat (a b : Nat) : PySem.Builtin.bitOr (a : Int) (b : Int) = ((a ||| b : Nat) : Int) := by
  have h : ∀ a : Nat, decide (0 ≤ PySem.Builtin.bitNot (a : Int)) = false := fun a => decide_eq_false (by show ¬ (0 : Int) ≤ -(a : Int) - 1; omega)
  have h2 : ∀ a : Int, PySem.Builtin.bitNot (PySem.Builtin.bitNot a) = a := fun a => by simp only [PySem.Builtin.bitNot]; omega
  simp only [PySem.Builtin.bitOr, PySem.Builtin.bitAnd, h, h2, Int.toNat_natCast]
theorem bitAndNot_nat (a b : Nat) : PySem.Builtin.bitAnd (a : Int) (PySem.Builtin.bitNot (b : Int)) = ((a - (a &&& b) : Nat) : Int) := by
  have h : decide (0 ≤ PySem.Builtin.bitNot (b : Int)) = false := decide_eq_false (by show ¬ (0 : Int) ≤ -(b : Int) - 1; omega)
  have h1 : decide (0 ≤ (a : Int)) = true := by simp
  have h2 : ∀ a : Int, PySem.Builtin.bitNot (PySem.Builtin.bitNot a) = a := fun a => by simp only [PySem.Builtin.bitNot]; omega
  have h3 : a &&& b ≤ a := Nat.and_le_left
  simp only [PySem.Builtin.bitAnd, h, h1, h2, Int.toNat_natCast]
  omega
theorem bitAnd_nat (a b : Nat) : PySem.Builtin.bitAnd (a : Int) (b : Int) = ((a &&& b : Nat) : Int) := by
  have h : ∀ a : Nat, decide (0 ≤ (a : Int)) = true := by simp
  simp only [PySem.Builtin.bitAnd, h, Int.toNat_natCast]
theorem testBit_foldl (ks : List Nat) : ∀ a k : Nat, (ks.foldl (fun a k => a ||| 2 ^ k) a).testBit k = (a.testBit k || ks.contains k) := by
  induction ks with
  | nil => simp
  | cons j ks ih =>
    intro a k
    rw [List.foldl_cons, ih, Nat.testBit_or, Nat.testBit_two_pow, List.contains_cons]
    by_cases h : j = k
    · subst h; simp
    · have : (k == j) = false := by simpa using fun z : k = j => h z.symm
      simp [h, this]
theorem testBit_maskOf (ks : List Nat) (k : Nat) : (maskOf ks).testBit k = ks.contains k := by simp [maskOf, testBit_foldl]
theorem maskOf_lt {ks : List Nat} {n : Nat} (h : ∀ k ∈ ks, k < n) : maskOf ks < 2 ^ n := by
  refine Nat.lt_pow_two_of_testBit _ fun i hi => ?_
  rw [testBit_maskOf]
  simp only [List.contains_eq_mem, decide_eq_false_iff_not]
  exact fun z => absurd (h i z) (by omega)
theorem mask_ext {a b : Nat} (ha : a < 64) (hb : b < 64) (h : ∀ k, k < 6 → a.testBit k = b.testBit k) : a = b := by
  refine Nat.eq_of_testBit_eq fun k => ?_
  by_cases hk : k < 6
  · exact h k hk
  · have p : 2 ^ 6 ≤ 2 ^ k := Nat.pow_le_pow_right (by omega) (by omega)
    rw [Nat.testBit_lt_two_pow (by omega : a < 2 ^ k), Nat.testBit_lt_two_pow (by omega : b < 2 ^ k)]
theorem mem_places {m k : Nat} : k ∈ places m ↔ k < 6 ∧ m.testBit k = true := by simp [places]
def unset (m : Nat) : Nat := ((List.range 6).filter fun k => !m.testBit k).length
theorem bits_places : ∀ m : Nat, m < 64 → (List.range (PySem.Builtin.Int.intBits (m : Int))).filter (fun k => (m / 2 ^ k &&& 1) != 0) = places m := by decide +kernel
theorem fresh_table : ∀ l : Nat, l < 64 → ∀ f : Nat, f < 64 → (l - (l &&& f) < 64 ∧ (f ||| (l - (l &&& f))) < 64 ∧ unset (f ||| (l - (l &&& f))) + (places (l - (l &&& f))).length = unset f) := by decide +kernel
theorem fresh_bits : ∀ l : Nat, l < 64 → ∀ f : Nat, f < 64 → ∀ k : Nat, k < 6 → ((l - (l &&& f)).testBit k = (l.testBit k && !f.testBit k)) := by decide +kernel

/-! ### what a place can reach -/
inductive Reach (M : List (List Int)) (n p : Nat) : Nat → Prop where
  | refl : Reach M n p p
  | step {i k : Nat} : Reach M n p i → k < n → adj M i k = true → Reach M n p k
open Classical in
noncomputable def rc (M : List (List Int)) (n p : Nat) : Nat := maskOf ((List.range n).filter fun k => decide (Reach M n p k))
theorem rc_bit {M : List (List Int)} {n p k : Nat} : (rc M n p).testBit k = true ↔ k < n ∧ Reach M n p k := by
  simp [rc, testBit_maskOf]
theorem rc_lt {M : List (List Int)} {n p : Nat} : rc M n p < 2 ^ n := maskOf_lt fun k hk => by simp at hk; exact hk.1
theorem Reach.lt {M : List (List Int)} {n p k : Nat} (h : Reach M n p k) (hp : p < n) : k < n := by
  cases h with
  | refl => exact hp
  | step _ h _ => exact h
theorem Reach.trans {M : List (List Int)} {n p k j : Nat} (h : Reach M n p k) (h2 : Reach M n k j) : Reach M n p j := by
  induction h2 with
  | refl => exact h
  | step _ a b ih => exact ih.step a b
def lk (M : List (List Int)) (n i : Nat) : Nat := maskOf ((List.range n).filter fun j => adj M i j)
theorem lk_bit {M : List (List Int)} {n i k : Nat} : (lk M n i).testBit k = (decide (k < n) && adj M i k) := by
  rw [lk, testBit_maskOf, Bool.eq_iff_iff]; simp
theorem lk_lt {M : List (List Int)} {n i : Nat} : lk M n i < 2 ^ n := maskOf_lt fun k hk => by simp at hk; exact hk.1
theorem Sq.pow {M : List (List Int)} {n : Nat} (q : Sq M n) : 2 ^ n ≤ 64 := by
  have := Nat.pow_le_pow_right (n := 2) (by omega) q.hi
  simpa using this

/-! ### the program's defs -/
section
variable {S : Sto} {τ : Env} {M : List (List Int)} {n : Nat}
theorem ev_or {a b : Nat} : Ev (oOr (.int a) (.int b)) S (.int ((a ||| b : Nat) : Int)) := .pure fun _ _ => by simp only [iop0, bitOr_nat]
theorem ev_and {a b : Nat} : Ev (oAnd (.int a) (.int b)) S (.int ((a &&& b : Nat) : Int)) := .pure fun _ _ => by simp only [iop0, bitAnd_nat]
theorem ev_shl1 {k : Nat} (h : k < 1000) : Ev (oShl (.int 1) (.int k)) S (.int ((2 ^ k : Nat) : Int)) := .pure fun _ _ => by
  have : powOk 1 (k : Int) = true := by simp only [powOk, decide_eq_true_eq]; refine ⟨by omega, by omega, by decide⟩
  simp only [iop, this, if_true, Int.toNat_natCast, Int.one_mul]
  simp
theorem ev_shr {a k : Nat} : Ev (oShr (.int a) (.int k)) S (.int ((a / 2 ^ k : Nat) : Int)) := .pure fun _ _ => by
  have : decide (0 ≤ (k : Int)) = true := by simp
  simp only [iop, this, if_true, Int.toNat_natCast]
  simp
theorem ev_bits_of {m : Nat} {ks : List Nat} (hm : S[m]? = some (.lst (nats ks))) (hk : ∀ k ∈ ks, k < 1000) : Ev (d_bits_of [.ref m]) S (.int (maskOf ks)) := by
  refine Ev.fn fun S0 p0 => ?_
  have hm0 := pre_get p0 hm
  refine Wn.seq (Wn.set (List.prefix_refl _) .c fun S1 p1 => ?_)
  refine Wn.seq (Wn.forP (κ := Nat) (ks := ks) (inj := fun k => .int (k : Nat)) (P := fun l τ => ∃ (a : Nat) (b : Option D), τ = [some (.ref m), some (.int (a : Nat)), b] ∧ (∀ k ∈ l, k < 1000) ∧ l.foldl (fun a k => a ||| 2 ^ k) a = maskOf ks) p1 (Ei.seqR (.var rfl) hm0) ⟨0, none, rfl, hk, rfl⟩ ?_ ?_)
  · rintro τ S2 p2 ⟨a, b, rfl, -, e⟩
    exact Wn.ret (S0 := S0) (p1.trans p2) (.var rfl) fun S3 p3 => ⟨S3, by rw [← e]; rfl, (p1.trans p2).trans p3⟩
  · rintro k l τ S2 p2 ⟨a, b, rfl, hl, e⟩
    refine ⟨_, rfl, ?_⟩
    refine Wn.set (S0 := S0) (p1.trans p2) (.op (.var rfl) (.op .c (.var rfl) (ev_shl1 (hl k (by simp)))) ev_or) fun S3 p3 => ⟨p3, _, _, rfl, fun k hk => hl k (by simp [hk]), e⟩
theorem ev_lot_from {m : Nat} (h : m < 64) : Ev (d_lot_from [.int (m : Nat)]) S (.tup (nats (places m))) := by
  refine Ev.fn fun S0 p0 => ?_
  refine Wn.ret (S0 := S0) (List.prefix_refl _) (v := .tup (nats (places m))) ?_ fun S3 p3 => ⟨S3, rfl, p3⟩
  refine Ev.argsL (zs := nats (places m)) ?_ fun k S1 _ hk => .ftup (lst_ref hk)
  rw [← bits_places m h]
  have hb : PySem.Builtin.Int.intBits (m : Int) ≤ 1000 := by
    revert m; decide +kernel
  refine El.lc (List.range (PySem.Builtin.Int.intBits (m : Int))) (fun k => .int (k : Nat)) (fun k => (m / 2 ^ k &&& 1) != 0) (fun k => .int (k : Nat)) (Ei.r1 (.cons (.un (.var rfl) (.pure fun _ _ => rfl)) .nil) (by omega)) (by simp; omega) fun k _ => ⟨_, rfl, ?_, fun _ => .var rfl⟩
  refine (Ev.truI (.op (.op (.var rfl) (.var rfl) ev_shr) .c (ev_and (b := 1)))).of_eq ?_
  cases (m / 2 ^ k &&& 1) with
  | zero => rfl
  | succ a => simp; omega
/-- the world's object -/
def Wd (S : Sto) (w : Nat) (M : List (List Int)) (n : Nat) : Prop := ∃ cs, S[w]? = some (.sl 6 [some cs, some (.int (n : Nat)), some (.tup (M.map fun r => .tup (r.map .int)))])
theorem Wd.mono {S' : Sto} {w : Nat} (h : Wd S w M n) (p : S <+: S') : Wd S' w M n := by obtain ⟨cs, h⟩ := h; exact ⟨cs, pre_get p h⟩
theorem Wd.size {w : Nat} (h : Wd S w M n) : Ev (oSlot 6 1 (.ref w)) S (.int (n : Nat)) := .pure fun S1 p => by
  obtain ⟨cs, h⟩ := h.mono p
  simp [oSlot, h]
theorem Wd.takes {w : Nat} (h : Wd S w M n) : Ev (oSlot 6 2 (.ref w)) S (.tup (M.map fun r => .tup (r.map .int))) := .pure fun S1 p => by
  obtain ⟨cs, h⟩ := h.mono p
  simp [oSlot, h]
theorem rows_tup (q : Sq M n) : Rows S (.tup (M.map fun r => .tup (r.map .int))) M n := by
  refine ⟨_, rfl, by simp [q.len], fun i hi => ⟨.tup ((M.getD i []).map .int), ?_, rfl⟩⟩
  have : i < M.length := by rw [q.len]; exact hi
  simp [List.getElem?_map, List.getElem?_eq_getElem this, List.getD_eq_getElem?_getD]
def looksD (M : List (List Int)) (n : Nat) : List D := (List.range n).map fun i => .int (lk M n i : Nat)
theorem el_looks {w : Nat} (h : Wd S w M n) (q : Sq M n) : El (d__linking_looks [.ref w]) S (looksD M n) := by
  refine El.fn fun S0 p0 => ?_
  have h0 := h.mono p0
  refine Wn.seq (Wn.set (S0 := S0) (List.prefix_refl _) (.un (.var rfl) h0.size) fun S1 p1 => ?_)
  refine Wn.retL (S0 := S0) (xs := looksD M n) p1 ?_ fun k S2 p2 g l => ⟨k, S2, rfl, p1.trans p2, g, Nat.le_trans (pre_len p1) l⟩
  have e1 : (M.map fun r => D.tup (r.map D.int)) = (List.range n).map fun i => D.tup ((M.getD i []).map D.int) := by
    refine List.ext_getElem? fun i => ?_
    by_cases hi : i < n
    · have hM : i < M.length := by rw [q.len]; exact hi
      simp [List.getElem?_map, hM, hi, List.getElem?_range, List.getD_eq_getElem?_getD]
    · have hM : ¬ i < M.length := by rw [q.len]; exact hi
      rw [List.getElem?_eq_none (by simp; omega), List.getElem?_eq_none (by simp; omega)]
  refine El.lc1 (List.range n) (fun i => D.tup ((M.getD i []).map D.int)) (fun i => .int (lk M n i : Nat)) ?_ (by simp; have := q.hi; omega) fun i hi => ⟨_, rfl, ?_⟩
  · rw [← e1]; exact Ei.seqT (.un (.var rfl) h0.takes)
  · have hi' : i < n := List.mem_range.mp hi
    refine Ev.argsL (zs := nats ((List.range n).filter fun j => adj M i j)) ?_ fun k S2 p2 hk => ev_bits_of hk fun j hj => by have := q.hi; simp at hj; omega
    refine El.lc (List.range n) (fun k => .int (k : Nat)) (fun j => adj M i j) (fun k => .int (k : Nat)) (Ei.r1 (.cons (.var rfl) .nil) (by have := q.hi; omega)) (by simp; have := q.hi; omega) fun j hj => ⟨_, rfl, ?_, fun _ => .var rfl⟩
    have hj' : j < n := List.mem_range.mp hj
    have hr := q.row i hi'
    refine .b (.op (.op (.var rfl) (.var rfl) (.ix (d := .int (cell M i j)) rfl ?_)) .c .gt)
    have hl : j < (M.getD i []).length := by omega
    rw [List.getElem?_map, List.getElem?_eq_getElem hl]
    simp only [Option.map_some, K01.cell]
    rw [List.getD_eq_getElem?_getD (l := M.getD i []), List.getElem?_eq_getElem hl]; rfl
end
end K01

set_option linter.all false
set_option maxRecDepth 100000
namespace K01
open DL
section
variable {S : Sto} {τ : Env} {M : List (List Int)} {n : Nat}
theorem nats_len (ks : List Nat) : (nats ks).length = ks.length := by simp [nats]
/-- what the work list keeps -/
structure WL (M : List (List Int)) (n p f : Nat) (todo : List Nat) : Prop where
  lt : f < 64
  me : f.testBit p = true
  sub : ∀ k ∈ todo, k < n ∧ f.testBit k = true
  rch : ∀ k, k < 6 → f.testBit k = true → k < n ∧ Reach M n p k
  cl : ∀ i k, i < n → f.testBit i = true → i ∉ todo → k < n → adj M i k = true → f.testBit k = true
theorem WL.step {p f : Nat} {todo : List Nat} {i : Nat} (q : Sq M n) (h : WL M n p f (todo ++ [i])) :
    WL M n p (f ||| (lk M n i - (lk M n i &&& f))) (todo ++ places (lk M n i - (lk M n i &&& f))) := by
  have hl : lk M n i < 64 := Nat.lt_of_lt_of_le lk_lt q.pow
  obtain ⟨hg, hf, -⟩ := fresh_table _ hl f h.lt
  have hb := fresh_bits _ hl f h.lt
  have hn := q.hi
  have hor : ∀ k, k < 6 → (f ||| (lk M n i - (lk M n i &&& f))).testBit k = (f.testBit k || (lk M n i).testBit k) := fun k hk => by
    rw [Nat.testBit_or, hb k hk]
    cases f.testBit k <;> simp
  have hi := h.sub i (by simp)
  refine ⟨hf, ?_, ?_, ?_, ?_⟩
  · rw [Nat.testBit_or, h.me]; rfl
  · intro k hk
    rcases List.mem_append.mp hk with hk | hk
    · obtain ⟨a, b⟩ := h.sub k (by simp [hk])
      exact ⟨a, by rw [Nat.testBit_or, b]; rfl⟩
    · obtain ⟨a, b⟩ := mem_places.mp hk
      rw [hb k a, lk_bit] at b
      simp at b
      refine ⟨b.1.1, ?_⟩
      rw [hor k a, lk_bit]
      simp [b.1]
  · intro k hk ht
    rw [hor k hk, lk_bit] at ht
    simp at ht
    rcases ht with ht | ⟨a, b⟩
    · exact h.rch k hk ht
    · exact ⟨a, ((h.rch i (by omega) hi.2).2).step a b⟩
  · intro j k hj hjf hjt hk ha
    rw [hor j (by omega), lk_bit] at hjf
    simp only [List.mem_append, not_or] at hjt
    rw [hor k (by omega), lk_bit]
    by_cases hjf' : f.testBit j = true
    · by_cases e : j = i
      · subst e; simp [hk, ha]
      · rw [h.cl j k hj hjf' (by simp [hjt.1, e]) hk ha]; rfl
    · exfalso
      refine hjt.2 (mem_places.mpr ⟨by omega, ?_⟩)
      rw [hb j (by omega), lk_bit]
      simp at hjf' hjf ⊢
      simp [hjf'] at hjf
      simp [hjf', hjf]
theorem WL.all {p f k : Nat} (hp : p < n) (h : WL M n p f []) (hr : Reach M n p k) : f.testBit k = true := by
  induction hr with
  | refl => exact h.me
  | step r a b ih => exact h.cl _ _ (r.lt hp) ih (by simp) a b
theorem WL.done {p f : Nat} (q : Sq M n) (hp : p < n) (h : WL M n p f []) : f = rc M n p := by
  have hn := q.hi
  refine mask_ext h.lt (Nat.lt_of_lt_of_le rc_lt q.pow) fun k hk => ?_
  rw [Bool.eq_iff_iff, rc_bit]
  refine ⟨fun ht => h.rch k hk ht, fun z => h.all hp z.2⟩
theorem unset_le (m : Nat) : unset m ≤ 6 := by
  unfold unset
  exact Nat.le_trans (List.length_filter_le _ _) (by simp)
theorem ev_reached {l p : Nat} (q : Sq M n) (hl : S[l]? = some (.lst (looksD M n))) (hp : p < n) : Ev (d__linking_reached [.ref l, .int (p : Nat)]) S (.int (rc M n p : Nat)) := by
  refine Ev.fn fun S0 p0 => ?_
  have hl0 := pre_get p0 hl
  have hn := q.hi
  refine Wn.seq (Wn.set (S0 := S0) (List.prefix_refl _) (.op .c (.var rfl) (ev_shl1 (by omega))) fun S1 p1 => ?_)
  refine Wn.seq (Wn.setL (S0 := S0) p1 (xs := nats [p]) (.args (.cons (.var rfl) .nil) (.mk (by simp))) fun t S2 p2 ht lt => ?_)
  have lt0 : S0.length ≤ t := Nat.le_trans (pre_len p1) lt
  refine Wn.seq (Wn.while (P := fun m τ S' => ∃ (f : Nat) (todo : List Nat) (b : Option D), τ = [some (.ref l), some (.int (p : Nat)), some (.int (f : Nat)), some (.ref t), b] ∧ S0 <+: S' ∧ S'[t]? = some (.lst (nats todo)) ∧ WL M n p f todo ∧ todo.length + 2 * unset f = m ∧ m ≤ 20)
    ?_ 1000 (1 + 2 * unset (2 ^ p)) _ _ (by have := unset_le (2 ^ p); omega) ⟨2 ^ p, [p], none, rfl, p1.trans p2, ht, ?_, rfl, by have := unset_le (2 ^ p); omega⟩)
  · rintro m τ S3 ⟨f, todo, b, rfl, p3, ht3, w, hm, hm20⟩
    refine ⟨!(nats todo).isEmpty, S3, ?_, ?_, ?_⟩
    · simp only [dTru, dVar, List.getElem?_cons_succ, List.getElem?_cons_zero, R.bind, truD, ht3]
    · intro he
      have : todo = [] := by cases todo <;> simp [nats] at he ⊢
      subst this
      refine Wn.ret (S0 := S0) p3 (.var rfl) fun S4 p4 => ⟨S4, ?_, p3.trans p4⟩
      rw [w.done q hp]
    · intro he
      have hne : todo ≠ [] := by rintro rfl; simp [nats] at he
      obtain ⟨todo', i, rfl⟩ : ∃ todo' i, todo = todo' ++ [i] := ⟨todo.dropLast, todo.getLast hne, (List.dropLast_concat_getLast hne).symm⟩
      have hi := w.sub i (by simp)
      have hpop : nats (todo' ++ [i]) = nats todo' ++ [.int (i : Nat)] := by simp [nats]
      have hk : lk M n i < 64 := Nat.lt_of_lt_of_le lk_lt q.pow
      obtain ⟨hg, hf, hu⟩ := fresh_table _ hk f w.lt
      have hll : (looksD M n)[i]? = some (.int (lk M n i : Nat)) := by
        unfold looksD; rw [List.getElem?_map, List.getElem?_range hi.1]; rfl
      -- the pop
      have htl : t < S3.length := get_lt ht3
      have hlS3 : S3[l]? = some (.lst (looksD M n)) := pre_get p3 hl0
      have hne' : t ≠ l := by
        have := get_lt hl0; omega
      have ex : sSet 4 (dOp oAnd (dOp oIx (dVar 0) (dMeth mPop (dVar 3) dNil)) (dUn oInv (dVar 2))) [some (.ref l), some (.int (p : Nat)), some (.int (f : Nat)), some (.ref t), b] S3 =
          .nx [some (.ref l), some (.int (p : Nat)), some (.int (f : Nat)), some (.ref t), some (.int ((lk M n i - (lk M n i &&& f) : Nat) : Int))] (setL t (nats todo') S3) := by
        have e2 : isL S3 (.ref t) = true := by simp [isL, lst_ref ht3]
        have e3 : mPop (.ref t) [] S3 = .ok (.int (i : Nat)) (setL t (nats todo') S3) := by
          simp only [mPop, lst_ref ht3, hpop]
          simp
        have e4 : oIx (.ref l) (.int (i : Nat)) (setL t (nats todo') S3) = .ok (.int (lk M n i : Nat)) (setL t (nats todo') S3) := by
          have : (setL t (nats todo') S3)[l]? = some (.lst (looksD M n)) := set_ne hne' hlS3
          exact ix_eq (seq_ref this) hll
        simp only [sSet, dOp, dVar, List.getElem?_cons_succ, List.getElem?_cons_zero, R.bind, dMeth, dNil, e2, if_true, e3, e4, dUn, uop, iop0, bitAndNot_nat, R.go]
        rfl
      refine Wn.seq ⟨?_⟩
      rw [ex]
      have p4 : S0 <+: setL t (nats todo') S3 := pre_set p3 lt0 _
      have ht4 : (setL t (nats todo') S3)[t]? = some (.lst (nats todo')) := set_self ht3
      refine Wn.seq (Wn.set (S0 := S0) p4 (.op (.var rfl) (.var rfl) ev_or) fun S5 p5 => ?_)
      have ht5 := pre_get p5 ht4
      obtain ⟨S6, e6, p6⟩ := ev_lot_from (S := S5) hg S5 (List.prefix_refl _)
      have ht6 := pre_get p6 ht5
      refine ⟨?_⟩
      have hlen : (nats todo').length + (nats (places (lk M n i - (lk M n i &&& f)))).length ≤ bigL := by
        have h1 : (places (lk M n i - (lk M n i &&& f))).length ≤ 6 := Nat.le_trans (List.length_filter_le _ _) (by simp)
        have := unset_le f
        simp only [List.length_append, List.length_singleton] at hm
        simp only [nats_len]
        unfold bigL
        omega
      have ee : sExpr (dMeth mExtend (dVar 3) (dCons (dArgs d_lot_from (dCons (dVar 4) dNil)) dNil)) [some (.ref l), some (.int (p : Nat)), some (.int ((f ||| (lk M n i - (lk M n i &&& f)) : Nat) : Int)), some (.ref t), some (.int ((lk M n i - (lk M n i &&& f) : Nat) : Int))] S5 =
          .nx [some (.ref l), some (.int (p : Nat)), some (.int ((f ||| (lk M n i - (lk M n i &&& f)) : Nat) : Int)), some (.ref t), some (.int ((lk M n i - (lk M n i &&& f) : Nat) : Int))] (setL t (nats todo' ++ nats (places (lk M n i - (lk M n i &&& f)))) S6) := by
        have e2 : isL S5 (.ref t) = true := by simp [isL, lst_ref ht5]
        simp only [sExpr, dMeth, dVar, List.getElem?_cons_succ, List.getElem?_cons_zero, R.bind, e2, if_true, dCons, dArgs, dNil, e6, mExtend, lst_ref ht6, if_pos hlen, R.go]
      show Aft _ _ (sExpr (dMeth mExtend (dVar 3) (dCons (dArgs d_lot_from (dCons (dVar 4) dNil)) dNil)) _ S5)
      erw [ee]
      refine ⟨_, ?_, _, _, _, rfl, pre_set ((p4.trans p5).trans p6) lt0 _, ?_, w.step q, rfl, by simp only [List.length_append, List.length_singleton] at hm ⊢; omega⟩
      · simp only [List.length_append, List.length_singleton] at hm ⊢; omega
      · rw [show nats (todo' ++ places (lk M n i - (lk M n i &&& f))) = nats todo' ++ nats (places (lk M n i - (lk M n i &&& f))) by simp [nats]]
        exact set_self ht6
  · have hp2 : 2 ^ p < 64 := Nat.lt_of_lt_of_le (Nat.pow_lt_pow_right (by omega) hp) q.pow
    refine ⟨hp2, by simp, fun k hk => ?_, fun k hk ht => ?_, fun i k hi hf hni => ?_⟩
    · simp at hk; subst hk; exact ⟨hp, by simp⟩
    · rw [Nat.testBit_two_pow] at ht; simp at ht; subst ht; exact ⟨hp, .refl⟩
    · rw [Nat.testBit_two_pow] at hf; simp at hf; subst hf; simp at hni
end
end K01

set_option linter.all false
set_option maxRecDepth 100000
namespace K01
open DL
section
variable {S : Sto} {τ : Env} {M : List (List Int)} {n : Nat}
theorem ev_is_whole {i : Int} : Ev (d_is_whole [.int i]) S (.bl true) := by
  refine Ev.fn fun S0 p0 => Wn.ret (S0 := S0) (List.prefix_refl _) (v := .bl true) ?_ fun S1 p1 => ⟨S1, rfl, p1⟩
  exact Ev.andV (b := true) (b' := true) (.un (.var rfl) (.pure fun _ _ => rfl)) fun _ => Ev.notV (b := false) (.un (.var rfl) (.pure fun _ _ => rfl))
theorem ev_place_of {p : Nat} (hp : p < n) : Ev (d_place_of [.int (p : Nat), .int (n : Nat)]) S (.int (p : Nat)) := by
  refine Ev.fn fun S0 p0 => ?_
  refine Wn.seq (Wn.if (S0 := S0) (List.prefix_refl _) (.or (.not (.truB (.args (.cons (.var rfl) .nil) ev_is_whole))) fun _ => .not (.b (.chain .c (.var rfl) .le fun _ => ⟨.var rfl, .lt⟩))) (fun hb S1 p1 => ?_) fun _ S1 p1 => ?_)
  · exfalso; simp at hb; omega
  · exact Wn.nil (Wn.ret (S0 := S0) p1 (.var rfl) fun S2 p2 => ⟨S2, rfl, p1.trans p2⟩)
theorem ev_reaches {w p : Nat} (h : Wd S w M n) (q : Sq M n) (hp : p < n) : Ev (d_reaches [.ref w, .int (p : Nat)]) S (.tup (nats (places (rc M n p)))) := by
  refine Ev.fn fun S0 p0 => ?_
  have h0 := h.mono p0
  refine Wn.seq (Wn.expr (S0 := S0) (List.prefix_refl _) (.args (.cons (.var rfl) (.cons (.un (.var rfl) h0.size) .nil)) (ev_place_of hp)) fun S1 p1 => ?_)
  refine Wn.ret (S0 := S0) p1 (v := .tup (nats (places (rc M n p)))) ?_ fun S2 p2 => ⟨S2, rfl, p1.trans p2⟩
  refine .args1 (x := .int (rc M n p : Nat)) ?_ (ev_lot_from (Nat.lt_of_lt_of_le rc_lt q.pow))
  intro S3 p3
  obtain ⟨k, S4, e4, p4, g4, l4⟩ := (El.args (f := d__linking_looks) (dd := dCons (dVar 0) dNil) (τ := List.map some [D.ref w, D.int ↑p] ++ List.replicate (2 - [D.ref w, D.int ↑p].length) none) (.cons (.var rfl) .nil) (el_looks h0 q)) S3 p3
  obtain ⟨S5, e5, p5⟩ := ev_reached q g4 hp S4 (List.prefix_refl _)
  exact ⟨S5, by simp only [dArgs, dCons, dNil, R.bind] at e4 ⊢; simp only [e4]; exact e5, p4.trans p5⟩

/-! ### the shut lot -/
/-- m is closed, told on masks -/
def shutB (M : List (List Int)) (n m : Nat) : Bool := (places m).all fun i => (lk M n i - (lk M n i &&& m)) == 0
def lotD (m : Nat) : D := .tup (nats (places m))
def firstShut (M : List (List Int)) (n : Nat) : Option Nat := ((List.range (2 ^ n - 2)).map fun k => 1 + k).find? (shutB M n)
theorem places_lt {m n k : Nat} (h : m < 2 ^ n) (hk : k ∈ places m) : k < n := by
  obtain ⟨a, b⟩ := mem_places.mp hk
  refine Nat.lt_of_not_le fun z => ?_
  have := Nat.testBit_lt_two_pow (Nat.lt_of_lt_of_le h (Nat.pow_le_pow_right (by omega) z))
  rw [this] at b; cases b
theorem ev_shut_lot {w : Nat} (h : Wd S w M n) (q : Sq M n) : Ev (d_shut_lot [.ref w]) S (match firstShut M n with | some m => lotD m | none => .non) := by
  refine Ev.fn fun S0 p0 => ?_
  have h0 := h.mono p0
  have hn := q.hi
  have hlo := q.lo
  have h64 := q.pow
  have h4 : 4 ≤ 2 ^ n := by have := Nat.pow_le_pow_right (n := 2) (by omega) hlo; simpa using this
  refine Wn.seq (Wn.set (S0 := S0) (List.prefix_refl _) (.un (.var rfl) h0.size) fun S1 p1 => ?_)
  refine Wn.seq (Wn.setL (S0 := S0) p1 (.args (.cons (.var rfl) .nil) (el_looks h0 q)) fun l S2 p2 hl ll => ?_)
  refine Wn.seq (Wn.forP (S0 := S2) (κ := Nat) (ks := (List.range (2 ^ n - 2)).map fun k => 1 + k) (inj := fun k => .int (k : Nat)) (P := fun ks τ => ∃ a b, τ = [some (.ref w), some (.int (n : Nat)), some (.ref l), a, b] ∧ (∀ k ∈ ks, k < 2 ^ n) ∧ firstShut M n = ks.find? (shutB M n)) (List.prefix_refl _) ?_ ⟨none, none, rfl, fun k hk => by simp at hk; omega, rfl⟩ ?_ ?_)
  · have := Ei.r2 (S := S2) (τ := [some (.ref w), some (.int (n : Nat)), some (.ref l), none, none]) (n := 1) (m := ((2 ^ n : Nat) : Int) - 1) (dd := dCons (dC (.int 1)) (dCons (dOp oSub (dOp oShl (dC (.int 1)) (dVar 1)) (dC (.int 1))) dNil)) (.cons .c (.cons (.op (.op .c (.var rfl) (ev_shl1 (by omega))) .c .sub) .nil)) (by omega) (by omega) (by omega)
    have e : (((2 ^ n : Nat) : Int) - 1 - ((1 : Nat) : Int)).toNat = 2 ^ n - 2 := by omega
    rw [e] at this
    rw [List.map_map]
    exact this
  · rintro τ S3 p3 ⟨a, b, rfl, -, e⟩
    rw [e]
    exact Wn.ret (S0 := S2) p3 .c fun S4 p4 => ⟨S4, rfl, ((p1.trans p2).trans p3).trans p4⟩
  · rintro m ks τ S3 p3 ⟨a, b, rfl, hk, e⟩
    have hm := hk m (by simp)
    refine ⟨_, rfl, ?_⟩
    have hl3 := pre_get p3 hl
    refine Wn.if (S0 := S3) (b := shutB M n m) (List.prefix_refl _) ?_ (fun hb S4 p4 => ?_) (fun hb S4 p4 => ?_)
    · refine .truB (.of_eq (.argsL (zs := ((places m).map fun i => (lk M n i - (lk M n i &&& m)) == 0).map .bl) ?_ fun k S4 p4 hk => .fall (lst_ref hk)) (by simp [shutB, List.all_map, Function.comp_def]))
      rw [List.map_map]
      refine El.lc1 (places m) (fun i => .int (i : Nat)) _ (Ei.seqT (.args1 (.var rfl) (ev_lot_from (by omega)))) (Nat.le_trans (List.length_filter_le _ _) (by simp)) fun i hi => ⟨_, rfl, ?_⟩
      have hin := places_lt hm hi
      have hll : (looksD M n)[i]? = some (.int (lk M n i : Nat)) := by
        unfold looksD; rw [List.getElem?_map, List.getElem?_range hin]; rfl
      refine .of_eq (.op (.op (.op (.var rfl) (.var rfl) (.ix (seq_ref hl3) hll)) (.un (.var rfl) (.pure fun _ _ => rfl)) (.pure fun _ _ => by simp only [iop0, bitAndNot_nat]; rfl)) .c .eqI) ?_
      simp only [Function.comp, D.bl.injEq]
      rw [Bool.eq_iff_iff]
      simp only [decide_eq_true_eq, beq_iff_eq]
      omega
    · refine Wn.ret (S0 := S3) p4 (.args1 (.var rfl) (ev_lot_from (by omega))) fun S5 p5 => ⟨S5, ?_, (((p1.trans p2).trans p3).trans p4).trans p5⟩
      rw [e, List.find?_cons_of_pos hb]; rfl
    · refine Wn.nil ⟨p4, _, _, rfl, fun k hk' => hk k (by simp [hk']), ?_⟩
      rw [e, List.find?_cons_of_neg (by simp [hb])]
end
end K01

set_option linter.all false
set_option maxRecDepth 100000
namespace K01
open DL
section
variable {S : Sto} {τ : Env} {M : List (List Int)} {n : Nat}
/-! ### heads -/
noncomputable def headB (M : List (List Int)) (n i : Nat) : Bool := decide ((places (rc M n i)).head? = some i ∧ ∀ j ∈ places (rc M n i), rc M n j = rc M n i)
end
noncomputable def headsM (M : List (List Int)) (n : Nat) : List Nat := ((List.range n).filter (headB M n)).map (rc M n)
noncomputable def foundD (M : List (List Int)) (n : Nat) : List D := (List.range n).map fun i => .int (rc M n i : Nat)
section
variable {S : Sto} {τ : Env} {M : List (List Int)} {n : Nat}
theorem rc_self {i : Nat} (h : i < n) : (rc M n i).testBit i = true := rc_bit.mpr ⟨h, .refl⟩
theorem mem_rc {i k : Nat} (q : Sq M n) : k ∈ places (rc M n i) ↔ k < n ∧ Reach M n i k := by
  rw [mem_places, rc_bit]; have := q.hi; exact ⟨fun h => h.2, fun h => ⟨by omega, h⟩⟩
theorem ev_heads {w : Nat} (h : Wd S w M n) (q : Sq M n) : Ev (d_heads [.ref w]) S (.tup ((headsM M n).map lotD)) := by
  refine Ev.fn fun S0 p0 => ?_
  have h0 := h.mono p0
  have hn := q.hi
  have h64 := q.pow
  refine Wn.seq (Wn.setL (S0 := S0) (List.prefix_refl _) (.args (.cons (.var rfl) .nil) (el_looks h0 q)) fun l S1 p1 hl _ => ?_)
  refine Wn.seq (Wn.setL (S0 := S1) (xs := foundD M n) (List.prefix_refl _) ?_ fun f S2 p2 hf _ => ?_)
  · refine El.lc1 (List.range n) (fun i => .int (i : Nat)) _ (Ei.r1 (.cons (.un (.var rfl) (h0.mono p1).size) .nil) (by omega)) (by simp; omega) fun i hi => ⟨_, rfl, ?_⟩
    exact .args (.cons (.var rfl) (.cons (.var rfl) .nil)) (ev_reached q hl (List.mem_range.mp hi))
  refine Wn.seq (Wn.setL (S0 := S2) (xs := []) (List.prefix_refl _) (.args .nil (.mk (by simp))) fun t S3 p3 ht lt => ?_)
  have h2 := (h0.mono p1).mono p2
  refine Wn.seq (Wn.forR (κ := Nat) (ks := List.range n) (inj := fun k => .int (k : Nat)) (S0 := S2) (P := fun ks τ S' => S2 <+: S' ∧ ∃ (a b c : Option D) (acc : List Nat), τ = [some (.ref w), some (.ref l), some (.ref f), a, some (.ref t), b, c] ∧ S'[t]? = some (.lst (acc.map lotD)) ∧ (∀ k ∈ ks, k < n) ∧ acc ++ (ks.filter (headB M n)).map (rc M n) = headsM M n ∧ acc.length + ks.length ≤ 6) p3 (Er.r1 (.cons (.un (.var rfl) h2.size) .nil) (by omega)) ?_ ?_ ?_)
  · exact fun S3' p3' => ⟨p3.trans p3', none, none, none, [], rfl, pre_get p3' ht, fun k hk => List.mem_range.mp hk, by simp [headsM], by simp; omega⟩
  · rintro τ S4 ⟨p4, a, b, c, acc, rfl, ht4, -, e, -⟩
    have e' : acc = headsM M n := by simpa using e
    subst e'
    refine Wn.ret (S0 := S4) (List.prefix_refl _) (.args1 (.var rfl) (.ftup (lst_ref ht4))) fun S5 p5 => ⟨S5, rfl, (p1.trans p2).trans (p4.trans p5)⟩
  · rintro i ks τ S4 ⟨p4, a, b, c, acc, rfl, ht4, hk, e, hlen⟩
    have hi := hk i (by simp)
    refine ⟨_, rfl, ?_⟩
    have hff : ∀ j, j < n → (foundD M n)[j]? = some (.int (rc M n j : Nat)) := fun j hj => by
      unfold foundD; rw [List.getElem?_map, List.getElem?_range hj]; rfl
    have hrc : ∀ j, rc M n j < 64 := fun j => Nat.lt_of_lt_of_le rc_lt h64
    refine Wn.seq (Wn.set (S0 := S2) p4 (.args1 (.op (.var rfl) (.var rfl) (.ix (seq_ref hf) (hff i hi))) (ev_lot_from (hrc i))) fun S5 p5 => ?_)
    have hne : places (rc M n i) ≠ [] := fun z => by
      have : i ∈ places (rc M n i) := (mem_rc q).mpr ⟨hi, .refl⟩
      rw [z] at this; cases this
    obtain ⟨k0, ks0, hk0⟩ := List.exists_cons_of_ne_nil hne
    have hpl : ∀ j ∈ places (rc M n i), j < n := fun j hj => ((mem_rc q).mp hj).1
    refine Wn.if (S0 := S2) (b := headB M n i) (p4.trans p5) ?_ (fun hb S6 p6 => ?_) (fun hb S6 p6 => ?_)
    · refine .of_eq (.and (b := decide ((k0 : Int) = (i : Int))) (.b (.op (.op (.var rfl) .c (.ix (i := 0) (d := .int (k0 : Nat)) rfl (by rw [hk0]; rfl))) (.var rfl) .eqI)) fun _ => .truB (.argsL (zs := ((places (rc M n i)).map fun j => rc M n j == rc M n i).map .bl) ?_ fun k S6 p6 hk => .fall (lst_ref hk))) ?_
      · rw [List.map_map]
        refine El.lc1 (places (rc M n i)) (fun i => .int (i : Nat)) _ (Ei.seqT (.var rfl)) (Nat.le_trans (List.length_filter_le _ _) (by simp)) fun j hj => ⟨_, rfl, ?_⟩
        refine .of_eq (.op (.op (.var rfl) (.var rfl) (.ix (seq_ref hf) (hff j (hpl j hj)))) (.op (.var rfl) (.var rfl) (.ix (seq_ref hf) (hff i hi))) .eqI) ?_
        simp only [Function.comp, D.bl.injEq]
        rw [Bool.eq_iff_iff]
        simp only [decide_eq_true_eq, beq_iff_eq]
        omega
      · rw [Bool.eq_iff_iff]
        simp only [headB, Bool.and_eq_true, decide_eq_true_eq, List.all_map, List.all_eq_true, Function.comp, id, beq_iff_eq, hk0, List.head?_cons, Option.some.injEq]
        constructor
        · rintro ⟨a1, a2⟩; exact ⟨by omega, a2⟩
        · rintro ⟨a1, a2⟩; exact ⟨by omega, a2⟩
    · have ht6 := pre_get (p5.trans p6) ht4
      simp only [List.length_cons] at hlen
      refine Wn.append (S0 := S2) rfl ((p4.trans p5).trans p6) (.var rfl) ht6 (by simp [bigL]; omega) fun S7 p7 ht7 => ⟨?_, _, _, _, acc ++ [rc M n i], rfl, ?_, fun k hk' => hk k (by simp [hk']), ?_, by simp; omega⟩
      · exact pre_set (((p4.trans p5).trans p6).trans p7) lt _
      · rw [show (acc ++ [rc M n i]).map lotD = acc.map lotD ++ [lotD (rc M n i)] by simp]
        exact set_self ht7
      · rw [← e, List.filter_cons, hb]; simp
    · refine Wn.nil ⟨(p4.trans p5).trans p6, _, _, _, acc, rfl, pre_get (p5.trans p6) ht4, fun k hk' => hk k (by simp [hk']), ?_, by simp at hlen ⊢; omega⟩
      rw [← e, List.filter_cons, hb]; simp
end
end K01

set_option linter.all false
set_option maxRecDepth 100000
namespace K01
open DL
/-! ### levels -/
def Ball (M : List (List Int)) (n p : Nat) : Nat → Nat → Prop
  | 0, k => k = p
  | t + 1, k => Ball M n p t k ∨ (k < n ∧ ∃ i, Ball M n p t i ∧ adj M i k = true)
structure At (M : List (List Int)) (n p t k : Nat) : Prop where
  ball : Ball M n p t k
  new : ∀ s, s < t → ¬ Ball M n p s k
section
variable {M : List (List Int)} {n p : Nat}
theorem Ball.mono {t s k : Nat} (h : Ball M n p t k) (l : t ≤ s) : Ball M n p s k := by
  induction l with
  | refl => exact h
  | step _ ih => exact .inl ih
theorem Ball.lt {t k : Nat} (hp : p < n) (h : Ball M n p t k) : k < n := by
  induction t with
  | zero => exact h ▸ hp
  | succ t ih => rcases h with h | h; exact ih h; exact h.1
theorem Ball.at {t k : Nat} (h : Ball M n p t k) : ∃ s, s ≤ t ∧ At M n p s k := by
  induction t using Nat.strongRecOn with
  | ind t ih =>
    by_cases h' : ∃ s, s < t ∧ Ball M n p s k
    · obtain ⟨s, hs, hb⟩ := h'
      obtain ⟨r, hr, ha⟩ := ih s hs hb
      exact ⟨r, by omega, ha⟩
    · exact ⟨t, Nat.le_refl _, h, fun s hs hb => h' ⟨s, hs, hb⟩⟩
theorem At.pred {t k : Nat} (h : At M n p (t + 1) k) : k < n ∧ ∃ i, At M n p t i ∧ adj M i k = true := by
  rcases h.ball with hb | ⟨hk, i, hb, ha⟩
  · exact absurd hb (h.new t (by omega))
  · exact ⟨hk, i, ⟨hb, fun s hs z => h.new (s + 1) (by omega) (.inr ⟨hk, i, z, ha⟩)⟩, ha⟩
theorem At.succ {t i k : Nat} (hb : Ball M n p t i) (ha : adj M i k = true) (hk : k < n) (hn : ¬ Ball M n p t k) : At M n p (t + 1) k :=
  ⟨.inr ⟨hk, i, hb, ha⟩, fun s hs z => hn (z.mono (by omega))⟩
theorem At.uniq {t s k : Nat} (h : At M n p t k) (h' : At M n p s k) : t = s := by
  rcases Nat.lt_trichotomy t s with z | z | z
  · exact absurd h.ball (h'.new t z)
  · exact z
  · exact absurd h'.ball (h.new s z)
theorem At.many {t : Nat} (hp : p < n) : ∀ {k : Nat}, At M n p t k → ∃ l : List Nat, l.length = t + 1 ∧ l.Nodup ∧ ∀ x ∈ l, x < n ∧ Ball M n p t x := by
  induction t with
  | zero => intro k h; exact ⟨[k], rfl, by simp, fun x hx => by simp at hx; subst hx; exact ⟨h.ball.lt hp, h.ball⟩⟩
  | succ t ih =>
    intro k h
    obtain ⟨hk, i, hi, ha⟩ := h.pred
    obtain ⟨l, hl, hd, ha⟩ := ih hi
    refine ⟨k :: l, by simp [hl], List.nodup_cons.mpr ⟨fun z => h.new t (by omega) (ha k z).2, hd⟩, fun x hx => ?_⟩
    rcases List.mem_cons.mp hx with rfl | hx
    · exact ⟨hk, h.ball⟩
    · exact ⟨(ha x hx).1, .inl (ha x hx).2⟩
theorem At.lt {t k : Nat} (hp : p < n) (h : At M n p t k) : t < n := by
  obtain ⟨l, hl, hd, ha⟩ := h.many hp
  have := nodup_len hd fun x hx => (ha x hx).1
  omega
/-- a path of s steps -/
structure Path (M : List (List Int)) (n p k s : Nat) (path : List Nat) : Prop where
  len : path.length = s + 1
  all : ∀ x ∈ path, x < n
  h0 : path.getD 0 0 = p
  hl : path.getD s 0 = k
  tie : ∀ a, a < s → adj M (path.getD a 0) (path.getD (a + 1) 0) = true
theorem getD_app {a b : List Nat} {i : Nat} (h : i < a.length) : (a ++ b).getD i 0 = a.getD i 0 := by
  rw [List.getD_eq_getElem?_getD, List.getD_eq_getElem?_getD, List.getElem?_append_left h]
theorem getD_last {a : List Nat} {x i : Nat} (h : a.length = i) : (a ++ [x]).getD i 0 = x := by
  subst h; simp [List.getD_eq_getElem?_getD]
theorem Path.snoc {i j s : Nat} {path : List Nat} (h : Path M n p i s path) (ha : adj M i j = true) (hj : j < n) : Path M n p j (s + 1) (path ++ [j]) := by
  have l := h.len
  refine ⟨by simp [l], fun x hx => ?_, ?_, getD_last l, fun a hs => ?_⟩
  · simp at hx; rcases hx with hx | rfl
    · exact h.all x hx
    · exact hj
  · rw [getD_app (by omega)]; exact h.h0
  · by_cases e : a = s
    · subst e; rw [getD_app (by omega), getD_last l, h.hl]; exact ha
    · rw [getD_app (by omega), getD_app (by omega)]; exact h.tie a (by omega)

/-! ### what the search keeps -/
def keys (ents : List (Nat × List Nat)) : List Nat := ents.map Prod.fst
structure WO (M : List (List Int)) (n p t : Nat) (ents : List (Nat × List Nat)) (todo : List Nat) : Prop where
  nd : (keys ents).Nodup
  pt : ∀ e ∈ ents, e.1 < n ∧ ∃ s, s ≤ t ∧ At M n p s e.1 ∧ Path M n p e.1 s e.2
  ball : ∀ k, Ball M n p t k → k ∈ keys ents
  lev : ∀ k, k ∈ todo ↔ At M n p t k
  len : todo.length ≤ ents.length
structure WI (M : List (List Int)) (n p t : Nat) (ents : List (Nat × List Nat)) (later : List Nat) : Prop where
  nd : (keys ents).Nodup
  pt : ∀ e ∈ ents, e.1 < n ∧ ∃ s, s ≤ t + 1 ∧ At M n p s e.1 ∧ Path M n p e.1 s e.2
  ball : ∀ k, Ball M n p t k → k ∈ keys ents
  late : ∀ k, k ∈ keys ents → Ball M n p t k ∨ k ∈ later
  lat : ∀ k, k ∈ later → At M n p (t + 1) k
  len : later.length ≤ ents.length
theorem WO.into {t : Nat} {ents : List (Nat × List Nat)} {todo : List Nat} (h : WO M n p t ents todo) : WI M n p t ents [] :=
  ⟨h.nd, fun e he => by obtain ⟨a, s, b, c⟩ := h.pt e he; exact ⟨a, s, by omega, c⟩, h.ball, fun k hk => by
    obtain ⟨e, he, rfl⟩ := List.mem_map.mp hk
    obtain ⟨a, s, b, c, d⟩ := h.pt e he
    exact .inl (c.ball.mono b), fun k hk => (by cases hk), by simp⟩
theorem WI.small {t : Nat} {ents : List (Nat × List Nat)} {later : List Nat} (h : WI M n p t ents later) : ents.length ≤ n := by
  have := nodup_len (n := n) h.nd fun k hk => by
    obtain ⟨e, he, rfl⟩ := List.mem_map.mp hk
    exact (h.pt e he).1
  simpa [keys] using this
theorem WI.out {t : Nat} {ents : List (Nat × List Nat)} {later : List Nat} (h : WI M n p t ents later) (hd : ∀ i, At M n p t i → ∀ j, j < n → adj M i j = true → j ∈ keys ents) : WO M n p (t + 1) ents later := by
  have hb : ∀ k, Ball M n p (t + 1) k → k ∈ keys ents := fun k hk => by
    rcases hk with hk | ⟨hk, i, hi, ha⟩
    · exact h.ball k hk
    · by_cases hx : Ball M n p t k
      · exact h.ball k hx
      · refine hd i ⟨hi, fun s hs z => hx ?_⟩ k hk ha
        have : Ball M n p (s + 1) k := .inr ⟨hk, i, z, ha⟩
        exact this.mono (by omega)
  refine ⟨h.nd, h.pt, hb, fun k => ⟨h.lat k, fun hk => ?_⟩, h.len⟩
  rcases h.late k (hb k hk.ball) with z | z
  · exact absurd z (hk.new t (by omega))
  · exact z
theorem WI.entry {t i : Nat} {ents : List (Nat × List Nat)} {later : List Nat} (h : WI M n p t ents later) (hi : At M n p t i) : ∃ path, ents.find? (fun e => e.1 == i) = some (i, path) ∧ Path M n p i t path := by
  obtain ⟨e, he, hei⟩ := List.mem_map.mp (h.ball i hi.ball)
  have hf : (ents.find? fun e => e.1 == i).isSome := List.find?_isSome.mpr ⟨e, he, by simpa using hei⟩
  obtain ⟨⟨k, path⟩, hf⟩ := Option.isSome_iff_exists.mp hf
  have h1 := List.find?_some hf
  have h2 := List.mem_of_find?_eq_some hf
  simp at h1
  subst h1
  obtain ⟨_, s, _, ha, hpth⟩ := h.pt _ h2
  have : s = t := ha.uniq hi
  subst this
  exact ⟨path, hf, hpth⟩
theorem WI.step {t i j : Nat} {ents : List (Nat × List Nat)} {later path : List Nat} (h : WI M n p t ents later) (hi : At M n p t i) (hpth : Path M n p i t path) (hj : j < n) (ha : adj M i j = true) (hn : j ∉ keys ents) : WI M n p t (ents ++ [(j, path ++ [j])]) (later ++ [j]) := by
  have hA : At M n p (t + 1) j := At.succ hi.ball ha hj fun z => hn (h.ball j z)
  refine ⟨?_, fun e he => ?_, fun k hk => ?_, fun k hk => ?_, fun k hk => ?_, ?_⟩
  · simp only [keys, List.map_append, List.map_cons, List.map_nil]
    exact List.nodup_append.mpr ⟨h.nd, by simp, fun a h1 b hb => by simp at hb; subst hb; rintro rfl; exact hn h1⟩
  · rcases List.mem_append.mp he with he | he
    · exact h.pt e he
    · simp at he; subst he; exact ⟨hj, t + 1, Nat.le_refl _, hA, hpth.snoc ha hj⟩
  · have := h.ball k hk; simp [keys] at this ⊢; exact .inl this
  · simp only [keys, List.map_append, List.map_cons, List.map_nil, List.mem_append, List.mem_singleton] at hk ⊢
    rcases hk with hk | rfl
    · rcases h.late k hk with z | z; exact .inl z; exact .inr (.inl z)
    · exact .inr (.inr rfl)
  · rcases List.mem_append.mp hk with hk | hk
    · exact h.lat k hk
    · simp at hk; subst hk; exact hA
  · have := h.len; simp; omega
end
end K01

set_option linter.all false
set_option maxRecDepth 100000
namespace K01
open DL
section
variable {S : Sto} {τ : Env} {M : List (List Int)} {n p : Nat}
def dicD (ents : List (Nat × List Nat)) : List (L2.Key × D) := ents.map fun e => (.inl (e.1 : Int), .tup (nats e.2))
theorem valD_dic {ents : List (Nat × List Nat)} {k : Nat} : valD (dicD ents) (.inl (k : Int)) = (ents.find? fun e => e.1 == k).map fun e => .tup (nats e.2) := by
  induction ents with
  | nil => rfl
  | cons e ents ih =>
    simp only [valD, dicD, List.map_cons, List.find?_cons] at ih ⊢
    by_cases h : e.1 = k
    · subst h; simp
    · have h1 : ¬ ((e.1 : Int) = (k : Int)) := by omega
      simp only [Sum.inl.injEq, h1, decide_false, beq_eq_false_iff_ne.mpr h]
      exact ih
theorem find_keys {ents : List (Nat × List Nat)} {k : Nat} : (ents.find? fun e => e.1 == k).isSome = (keys ents).contains k := by
  rw [Bool.eq_iff_iff]
  simp only [List.find?_isSome, beq_iff_eq, List.contains_eq_mem, decide_eq_true_eq, keys, List.mem_map]
theorem putKD_dic {ents : List (Nat × List Nat)} {j : Nat} {path : List Nat} (h : j ∉ keys ents) : putKD (dicD ents) (.inl (j : Int)) (.tup (nats path)) = dicD (ents ++ [(j, path)]) := by
  have : (dicD ents).any (fun kv => decide (kv.1 = (.inl (j : Int) : L2.Key))) = false := by
    rw [List.any_eq_false]
    intro x hx
    obtain ⟨e, he, rfl⟩ := List.mem_map.mp hx
    have : e.1 ≠ j := fun z => h (z ▸ List.mem_map_of_mem he)
    simp; omega
  rw [putKD, this]
  simp [dicD]
/-- the answer of way -/
def WayIs (M : List (List Int)) (n p g : Nat) (r : D) : Prop := ((∀ t, ¬ At M n p t g) → r = .non) ∧ ∀ t, At M n p t g → ∃ path, r = .tup (nats path) ∧ Path M n p g t path
theorem nats_app (a : List Nat) (j : Nat) : nats (a ++ [j]) = nats a ++ [.int (j : Nat)] := by simp [nats]
theorem ex_way {w g : Nat} (h : Wd S w M n) (q : Sq M n) (hp : p < n) (hg : g < n) : Ex (d_way [.ref w, .int (p : Nat), .int (g : Nat)]) S (WayIs M n p g) := by
  refine Ex.fn fun S0 p0 => ?_
  have h0 := h.mono p0
  have hn := q.hi
  refine Wn.seq (Wn.expr (S0 := S0) (List.prefix_refl _) (.args (.cons (.var rfl) (.cons (.un (.var rfl) h0.size) .nil)) (ev_place_of hp)) fun S1 p1 => ?_)
  refine Wn.seq (Wn.expr (S0 := S0) p1 (.args (.cons (.var rfl) (.cons (.un (.var rfl) h0.size) .nil)) (ev_place_of hg)) fun S2 p2 => ?_)
  -- the ways and the list
  refine Wn.seq ⟨?_⟩
  have e1 : sSet 3 (eDisp1 (dVar 1) (dArgs mkTup (dCons (dVar 1) dNil))) [some (.ref w), some (.int (p : Nat)), some (.int (g : Nat)), none, none, none, none, none] S2 =
      .nx [some (.ref w), some (.int (p : Nat)), some (.int (g : Nat)), some (.ref S2.length), none, none, none, none] (S2 ++ [.dic (dicD [(p, [p])])]) := by
    simp [sSet, eDisp1, dVar, dArgs, dCons, dNil, R.bind, R.go, mkTup, keyD, dicD, nats]
  erw [e1]
  generalize hd : S2.length = d
  have p3 : S0 <+: S2 ++ [.dic (dicD [(p, [p])])] := (p1.trans p2).trans ⟨_, rfl⟩
  have hd3 : (S2 ++ [.dic (dicD [(p, [p])])])[d]? = some (.dic (dicD [(p, [p])])) := by rw [← hd]; exact app_new
  have ld : S0.length ≤ d := by rw [← hd]; exact pre_len (p1.trans p2)
  generalize S2 ++ [.dic (dicD [(p, [p])])] = S3 at p3 hd3
  refine Wn.seq (Wn.setL (S0 := S0) p3 (xs := nats [p]) (.args (.cons (.var rfl) .nil) (.mk (by simp))) fun r0 S4 p4 hr0 lr0 => ?_)
  refine Wn.seq (Wn.while (P := fun m τ S' => ∃ (t r : Nat) (ents : List (Nat × List Nat)) (todo : List Nat) (a b c : Option D), τ = [some (.ref w), some (.int (p : Nat)), some (.int (g : Nat)), some (.ref d), some (.ref r), a, b, c] ∧ S0 <+: S' ∧ S0.length ≤ r ∧ S'[d]? = some (.dic (dicD ents)) ∧ S'[r]? = some (.lst (nats todo)) ∧ WO M n p t ents todo ∧ t ≤ n ∧ m = n - t)
    ?_ 1000 n _ _ (by omega) ⟨0, r0, [(p, [p])], [p], none, none, none, rfl, p3.trans p4, ?_, pre_get p4 hd3, hr0, ?_, by omega, rfl⟩)
  · rintro m τ S5 ⟨t, r, ents, todo, a, b, c, rfl, p5, lr, hd5, hr5, w5, htn, rfl⟩
    have h5 := h0.mono p5
    refine ⟨!(nats todo).isEmpty && !(keys ents).contains g, S5, ?_, ?_, ?_⟩
    · have : (valD (dicD ents) (.inl (g : Int))).isSome = (keys ents).contains g := by rw [valD_dic, Option.isSome_map, find_keys]
      simp only [dAnd, dTru, dVar, List.getElem?_cons_succ, List.getElem?_cons_zero, R.bind, truD, hr5, dB, dOp, oDIn, dic_ref hd5, keyD, this, asB]
      cases (nats todo).isEmpty <;> simp
    · intro hb
      refine Wn.ret (S0 := S5) (List.prefix_refl _) (.dget1 (.var rfl) (.var rfl) hd5 rfl) fun S6 p6 => ⟨_, S6, rfl, p5.trans p6, ?_, ?_⟩
      · intro hno
        rw [valD_dic]
        cases hf : ents.find? fun e => e.1 == g with
        | none => rfl
        | some e =>
          have h1 := List.find?_some hf
          simp at h1
          obtain ⟨_, s, _, ha, _⟩ := w5.pt e (List.mem_of_find?_eq_some hf)
          rw [h1] at ha
          exact absurd ha (hno s)
      · intro s hs
        have hk : g ∈ keys ents := by
          by_cases hk : g ∈ keys ents
          · exact hk
          · have : todo = [] := by
              cases todo with
              | nil => rfl
              | cons x l => simp [nats, hk] at hb
            subst this
            -- nothing is left at this level: none above it
            have hno : ∀ k u, t ≤ u → ¬ At M n p u k := by
              intro k u hu
              induction hu generalizing k with
              | refl => intro z; exact absurd ((w5.lev k).mpr z) (by simp)
              | step _ ih => intro z; obtain ⟨_, i, hi, _⟩ := z.pred; exact ih i hi
            by_cases hts : t ≤ s
            · exact absurd hs (hno g s hts)
            · exact w5.ball g (hs.ball.mono (by omega))
        obtain ⟨e, he, hei⟩ := List.mem_map.mp hk
        have hf : (ents.find? fun e => e.1 == g).isSome := List.find?_isSome.mpr ⟨e, he, by simpa using hei⟩
        obtain ⟨⟨k, path⟩, hf⟩ := Option.isSome_iff_exists.mp hf
        have h1 := List.find?_some hf
        simp at h1
        subst h1
        obtain ⟨_, s', _, ha, hpth⟩ := w5.pt _ (List.mem_of_find?_eq_some hf)
        have := ha.uniq hs
        subst this
        exact ⟨path, by rw [valD_dic, hf]; rfl, hpth⟩
    · intro hb
      simp only [Bool.and_eq_true, Bool.not_eq_true', List.isEmpty_eq_false_iff] at hb
      have hlt : t < n := by
        cases todo with
        | nil => exact absurd rfl hb.1
        | cons x l => exact ((w5.lev x).mp (by simp)).lt hp
      refine Wn.seq (Wn.setL (S0 := S5) (xs := nats []) (List.prefix_refl _) (.args .nil (.mk (by simp))) fun r' S6 p6 hr6 lr6 => ?_)
      have hd6 := pre_get p6 hd5
      have hr6' := pre_get p6 hr5
      have hrr : r ≠ r' := fun z => by subst z; exact absurd (get_lt hr5) (by omega)
      refine Wn.seq ?_
      -- the copy
      obtain ⟨cc, S7, e7, p7, hc7, lc7⟩ := (El.args (τ := [some (.ref w), some (.int (p : Nat)), some (.int (g : Nat)), some (.ref d), some (.ref r), some (.ref r'), b, c]) (dd := dCons (dVar 4) dNil) (.cons (.var rfl) .nil) (El.flist (seq_ref hr6'))) S6 (List.prefix_refl _)
      have hrc : r' ≠ cc := fun z => by subst z; exact absurd (get_lt hr6) (by omega)
      have hdr : d ≠ r' := fun z => by subst z; rw [hr6] at hd6; cases hd6
      have hdc : d ≠ cc := fun z => by subst z; exact absurd (get_lt hd6) (by omega)
      have l0r : S0.length ≤ r' := Nat.le_trans (pre_len p5) lr6
      refine Wn.for (κ := Nat) (ks := todo) (inj := fun k => .int (k : Nat)) (gd := lstIs cc (nats todo)) (S1 := S7)
        (P := fun l τ S' => ∃ (ents : List (Nat × List Nat)) (later : List Nat) (b c : Option D), τ = [some (.ref w), some (.int (p : Nat)), some (.int (g : Nat)), some (.ref d), some (.ref r), some (.ref r'), b, c] ∧ S0 <+: S' ∧ S'[d]? = some (.dic (dicD ents)) ∧ S'[r']? = some (.lst (nats later)) ∧ S'[cc]? = some (.lst (nats todo)) ∧ WI M n p t ents later ∧ ∃ done, todo = done ++ l ∧ ∀ i ∈ done, ∀ j, j < n → adj M i j = true → j ∈ keys ents)
        ?_ ⟨ents, [], b, c, rfl, (p5.trans p6).trans p7, pre_get p7 hd6, pre_get p7 hr6, hc7, w5.into, [], rfl, by simp⟩ ?_ ?_ ?_
      · have := e7
        simp only [dIt] at *
        show R.bind ((dArgs fList (dCons (dVar 4) dNil)) [some (.ref w), some (.int (p : Nat)), some (.int (g : Nat)), some (.ref d), some (.ref r), some (.ref r'), b, c] S6) itSeq = _
        rw [e7]
        simp only [R.bind, itSeq, itOf, lst_ref hc7]
        rfl
      · rintro l τ S8 ⟨_, _, _, _, _, _, _, _, hc8, _⟩
        exact lstIs_of hc8
      · rintro τ S8 ⟨ents8, later, b8, c8, rfl, p8, hd8, hr8, hc8, w8, done, he, hdone⟩
        refine Wn.set (S0 := S8) (List.prefix_refl _) (.var rfl) fun S9 p9 => ⟨n - (t + 1), by omega, t + 1, r', ents8, later, _, _, _, rfl, p8.trans p9, l0r, pre_get p9 hd8, pre_get p9 hr8, w8.out ?_, by omega, rfl⟩
        intro i hi j hj ha
        have : i ∈ todo := (w5.lev i).mpr hi
        rw [he, List.append_nil] at this
        exact hdone i this j hj ha
      · rintro i l τ S8 ⟨ents8, later, b8, c8, rfl, p8, hd8, hr8, hc8, w8, done, he, hdone⟩
        refine ⟨_, rfl, ?_⟩
        have hiA : At M n p t i := (w5.lev i).mp (by rw [he]; simp)
        have hin : i < n := hiA.ball.lt hp
        refine Wn.forR (κ := Nat) (ks := List.range n) (inj := fun k => .int (k : Nat)) (S0 := S8)
          (P := fun l' τ S' => ∃ (ents : List (Nat × List Nat)) (later : List Nat) (c : Option D), τ = [some (.ref w), some (.int (p : Nat)), some (.int (g : Nat)), some (.ref d), some (.ref r), some (.ref r'), some (.int (i : Nat)), c] ∧ S0 <+: S' ∧ S'[d]? = some (.dic (dicD ents)) ∧ S'[r']? = some (.lst (nats later)) ∧ S'[cc]? = some (.lst (nats todo)) ∧ WI M n p t ents later ∧ (∀ i ∈ done, ∀ j, j < n → adj M i j = true → j ∈ keys ents) ∧ ∃ done', List.range n = done' ++ l' ∧ ∀ j ∈ done', adj M i j = true → j ∈ keys ents)
          (List.prefix_refl _) (Er.r1 (.cons (.un (.var rfl) (h0.mono p8).size) .nil) (by omega)) ?_ ?_ ?_
        · exact fun S9 p9 => ⟨ents8, later, c8, rfl, p8.trans p9, pre_get p9 hd8, pre_get p9 hr8, pre_get p9 hc8, w8, hdone, [], rfl, by simp⟩
        · rintro τ S9 ⟨ents9, later9, c9, rfl, p9, hd9, hr9, hc9, w9, hdone9, done', he', hd'⟩
          refine ⟨ents9, later9, _, _, rfl, p9, hd9, hr9, hc9, w9, done ++ [i], by rw [he]; simp, fun i' hi' j hj ha => ?_⟩
          rcases List.mem_append.mp hi' with hi' | hi'
          · exact hdone9 i' hi' j hj ha
          · simp at hi'; subst hi'
            exact hd' j (by rw [List.append_nil] at he'; rw [← he']; exact List.mem_range.mpr hj) ha
        · rintro j l' τ S9 ⟨ents9, later9, c9, rfl, p9, hd9, hr9, hc9, w9, hdone9, done', he', hd'⟩
          have hj : j < n := List.mem_range.mp (by rw [he']; simp)
          have hval : (valD (dicD ents9) (.inl (j : Int))).isSome = (keys ents9).contains j := by rw [valD_dic, Option.isSome_map, find_keys]
          have h9 := h0.mono p9
          have rw9 : Rows S9 (.tup (M.map fun r => .tup (r.map .int))) M n := rows_tup q
          obtain ⟨path, hf, hpth⟩ := w9.entry hiA
          refine ⟨_, rfl, ?_⟩
          refine Wn.if (S0 := S9) (List.prefix_refl _) (.and (rw9.adj q (.un (.var rfl) h9.takes) (.var rfl) (.var rfl) hin hj) fun _ => .b (.op (.var rfl) (.var rfl) (.din hd9 rfl))) (fun hb S10 p10 => ?_) (fun hb S10 p10 => ?_)
          · rw [hval] at hb
            simp only [Bool.and_eq_true, bne_iff_ne, ne_eq, Bool.true_eq, Bool.not_eq_true, List.contains_eq_mem, decide_eq_false_iff_not] at hb
            have hd10 := pre_get p10 hd9
            have hr10 := pre_get p10 hr9
            have hc10 := pre_get p10 hc9
            have hsm := w9.small
            have hpl := hpth.len
            have htl := hiA.lt hp
            have hne : nats path ≠ [] := by cases path with | nil => simp at hpl | cons x l => simp [nats]
            refine Wn.seq (Wn.dput (v := .tup (nats (path ++ [j]))) (d := d) (y := .int (j : Nat)) ?_ (.var rfl) (.var rfl) rfl hd10 (by simp [dicD, bigL]; omega) fun S11 p11 => ?_)
            · rw [nats_app]
              exact .op (.op (.var rfl) (.var rfl) (.dget hd10 rfl (by rw [valD_dic, hf]; rfl))) (.args (.cons (.var rfl) .nil) (.tup (by simp))) (.addT hne (by simp [nats, bigL]; omega))
            · have hd11 := pre_get p11 hd10
              have hr11 := pre_get p11 hr10
              have hc11 := pre_get p11 hc10
              rw [putKD_dic hb.2]
              have q12 : S0 <+: S11.set d (.dic (dicD (ents9 ++ [(j, path ++ [j])]))) := pre_set ((p9.trans p10).trans p11) ld _
              have hll := w9.len
              refine Wn.append (S0 := S11.set d (.dic (dicD (ents9 ++ [(j, path ++ [j])])))) rfl (List.prefix_refl _) (.var rfl) (set_ne hdr hr11) (by simp [nats, bigL]; omega) fun S13 p13 hr13 => ?_
              refine ⟨ents9 ++ [(j, path ++ [j])], later9 ++ [j], _, rfl, pre_set (q12.trans p13) l0r _, set_ne hdr.symm (pre_get p13 (set_self hd11)), ?_, set_ne hrc (pre_get p13 (set_ne hdc hc11)), w9.step hiA hpth hj hb.1 hb.2, fun i' hi' j' hj' ha' => ?_, done' ++ [j], by rw [he']; simp, fun j' hj' ha' => ?_⟩
              · rw [nats_app]; exact set_self hr13
              · have := hdone9 i' hi' j' hj' ha'; simp [keys] at this ⊢; exact .inl this
              · rcases List.mem_append.mp hj' with hj' | hj'
                · have := hd' j' hj' ha'; simp [keys] at this ⊢; exact .inl this
                · simp at hj'; subst hj'; simp [keys]
          · refine Wn.nil ⟨ents9, later9, _, rfl, p9.trans p10, pre_get p10 hd9, pre_get p10 hr9, pre_get p10 hc9, w9, hdone9, done' ++ [j], by rw [he']; simp, fun j' hj' ha' => ?_⟩
            rcases List.mem_append.mp hj' with hj' | hj'
            · exact hd' j' hj' ha'
            · simp at hj'; subst hj'
              rw [hval, ha'] at hb
              simpa using hb
  · exact Nat.le_trans (pre_len p3) lr0
  · refine ⟨by simp [keys], fun e he => ?_, fun k hk => by simp [keys]; exact hk, fun k => ?_, by simp⟩
    · simp at he; subst he
      exact ⟨hp, 0, Nat.le_refl _, ⟨rfl, fun s hs => absurd hs (by omega)⟩, rfl, fun x hx => by simp at hx; subst hx; exact hp, rfl, rfl, fun a ha => absurd ha (by omega)⟩
    · simp only [List.mem_singleton]
      exact ⟨fun z => ⟨z, fun s hs => absurd hs (by omega)⟩, fun z => z.ball⟩
end
end K01

set_option linter.all false
set_option maxRecDepth 100000
namespace K01
open DL
section
variable {S : Sto} {τ : Env} {M : List (List Int)} {n p : Nat} {x : D}
structure FI (M : List (List Int)) (n p s : Nat) (fs : List Int) : Prop where
  len : fs.length = n
  is : ∀ k, k < n → (∃ t, t ≤ s ∧ At M n p t k ∧ fs.getD k 0 = (t : Nat)) ∨ (¬ Ball M n p s k ∧ fs.getD k 0 = -1)
structure FJ (M : List (List Int)) (n p s : Nat) (fs : List Int) : Prop where
  len : fs.length = n
  is : ∀ k, k < n → (∃ t, t ≤ s ∧ At M n p t k ∧ fs.getD k 0 = (t : Nat)) ∨ (¬ Ball M n p s k ∧ (fs.getD k 0 = -1 ∨ (fs.getD k 0 = ((s + 1 : Nat) : Int) ∧ At M n p (s + 1) k)))
theorem FI.into {s : Nat} {fs : List Int} (h : FI M n p s fs) : FJ M n p s fs := ⟨h.len, fun k hk => by
  rcases h.is k hk with z | ⟨a, b⟩
  · exact .inl z
  · exact .inr ⟨a, .inl b⟩⟩
theorem FJ.out {s : Nat} {fs : List Int} (h : FJ M n p s fs) (hp : p < n) (hd : ∀ i, i < n → At M n p s i → ∀ j, j < n → adj M i j = true → 0 ≤ fs.getD j 0) : FI M n p (s + 1) fs := ⟨h.len, fun k hk => by
  rcases h.is k hk with ⟨t, a, b, c⟩ | ⟨a, b | ⟨b, c⟩⟩
  · exact .inl ⟨t, by omega, b, c⟩
  · refine .inr ⟨fun z => ?_, b⟩
    rcases z with z | ⟨_, i, hi, ha⟩
    · exact a z
    · have hA : At M n p s i := ⟨hi, fun u hu z => a (by
        have : Ball M n p (u + 1) k := .inr ⟨hk, i, z, ha⟩
        exact this.mono (by omega))⟩
      have := hd i (hi.lt hp) hA k hk ha
      omega
  · exact .inl ⟨s + 1, Nat.le_refl _, c, b⟩⟩
theorem FJ.at {s i : Nat} {fs : List Int} (h : FJ M n p s fs) (hi : i < n) : fs.getD i 0 = (s : Nat) ↔ At M n p s i := by
  rcases h.is i hi with ⟨t, a, b, c⟩ | ⟨a, b⟩
  · constructor
    · intro z; have : t = s := by omega
      exact this ▸ b
    · intro z; rw [c, b.uniq z]
  · constructor
    · intro z; exfalso; rcases b with b | ⟨b, _⟩ <;> omega
    · intro z; exact absurd z.ball a
theorem getD_set {fs : List Int} {j k : Nat} {v : Int} (hj : j < fs.length) : (fs.set j v).getD k 0 = if j = k then v else fs.getD k 0 := by
  rw [List.getD_eq_getElem?_getD, List.getElem?_set, List.getD_eq_getElem?_getD]
  by_cases e : j = k
  · subst e; simp [hj]
  · simp [e]
theorem FJ.set {s i j : Nat} {fs : List Int} (h : FJ M n p s fs) (hi : At M n p s i) (hj : j < n) (ha : adj M i j = true) (hn : fs.getD j 0 < 0) : FJ M n p s (fs.set j ((s + 1 : Nat) : Int)) ∧ ∀ k, 0 ≤ fs.getD k 0 → 0 ≤ (fs.set j ((s + 1 : Nat) : Int)).getD k 0 := by
  have hjl : j < fs.length := by rw [h.len]; exact hj
  refine ⟨⟨by simp [h.len], fun k hk => ?_⟩, fun k hk => ?_⟩
  · rw [getD_set hjl]
    by_cases e : j = k
    · subst e
      rw [if_pos rfl]
      rcases h.is j hj with ⟨t, a, b, c⟩ | ⟨a, b⟩
      · omega
      · exact .inr ⟨a, .inr ⟨rfl, At.succ hi.ball ha hj a⟩⟩
    · rw [if_neg e]; exact h.is k hk
  · rw [getD_set hjl]
    by_cases e : j = k
    · rw [if_pos e]; omega
    · rw [if_neg e]; exact hk
theorem getI {fs : List Int} {i : Nat} (h : i < fs.length) : (fs.map D.int)[i]? = some (.int (fs.getD i 0)) := by
  rw [List.getElem?_map, List.getElem?_eq_getElem h, List.getD_eq_getElem?_getD, List.getElem?_eq_getElem h]; rfl
theorem set_mapI {fs : List Int} {i : Nat} {v : Int} : (fs.map D.int).set i (.int v) = (fs.set i v).map D.int := by rw [List.map_set]
theorem ey_far (h : Rows S x M n) (q : Sq M n) (hp : p < n) : Ey (d__law_far [x, .int (p : Nat)]) S fun r S' => ∃ d fs, r = .ref d ∧ S'[d]? = some (.lst (fs.map .int)) ∧ FI M n p n fs := by
  refine Ey.fn fun S0 p0 => ?_
  have h0 := h.mono p0
  have hn := q.hi
  refine Wn.seq (Wn.set (S0 := S0) (List.prefix_refl _) (.args1 (.var rfl) h0.len) fun S1 p1 => ?_)
  -- [-1] * size
  refine Wn.seq (Wn.setL (S0 := S0) (xs := (List.replicate n (-1)).map .int) p1 ?_ fun d S2 p2 hd ld => ?_)
  · intro S1' p1'
    obtain ⟨k, S3, e3, p3, g3, l3⟩ := (El.mk (S := S0) (xs := [.int (-1)]) (by simp)) S1' p1'
    refine ⟨S3.length, S3 ++ [.lst ((List.replicate n (-1)).map .int)], ?_, p3.trans ⟨_, rfl⟩, app_new, pre_len p3⟩
    have e4 : dArgs mkLst (dCons (dUn oNeg (dC (.int 1))) dNil) [some x, some (.int (p : Nat)), some (.int (n : Nat)), none, none, none, none] S1' = .ok (.ref k) S3 := e3
    have e5 : oMul (.ref k) (.int (n : Nat)) S3 = .ok (.ref S3.length) (S3 ++ [.lst ((List.replicate n (-1)).map .int)]) := by
      simp only [oMul, lst_ref g3]
      rw [if_pos (by simp [bigL]; omega)]
      simp only [newL, Int.toNat_natCast]
      congr 3
      simp [List.flatten_replicate_singleton]
    show dOp oMul (dArgs mkLst (dCons (dUn oNeg (dC (.int 1))) dNil)) (dVar 2) [some x, some (.int (p : Nat)), some (.int (n : Nat)), none, none, none, none] S1' = _
    simp only [dOp, e4, R.bind, dVar, List.getElem?_cons_succ, List.getElem?_cons_zero, e5]
  have ld0 : S0.length ≤ d := Nat.le_trans (pre_len p1) ld
  refine Wn.seq (Wn.put (v := .int 0) (d := d) (i := p) .c (.var rfl) (.var rfl) hd (by simp; exact hp) fun S3 p3 => ?_)
  have hd3 : (DL.setL d (((List.replicate n (-1)).map D.int).set p (.int 0)) S3)[d]? = some (.lst (((List.replicate n (-1)).set p 0).map .int)) := by
    rw [set_mapI]; exact set_self (pre_get p3 hd)
  have p4 : S0 <+: DL.setL d (((List.replicate n (-1)).map D.int).set p (.int 0)) S3 := pre_set ((p1.trans p2).trans p3) ld0 _
  generalize DL.setL d (((List.replicate n (-1)).map D.int).set p (.int 0)) S3 = S4 at hd3 p4
  refine Wn.seq (Wn.forR (κ := Nat) (ks := List.range n) (inj := fun k => .int (k : Nat)) (S0 := S0)
    (P := fun l τ S' => ∃ (s : Nat) (fs : List Int) (a b c : Option D), τ = [some x, some (.int (p : Nat)), some (.int (n : Nat)), some (.ref d), a, b, c] ∧ S0 <+: S' ∧ S'[d]? = some (.lst (fs.map .int)) ∧ FI M n p s fs ∧ s + l.length = n ∧ l = (List.range n).drop s)
    p4 (Er.r1 (.cons (.var rfl) .nil) (by omega)) ?_ ?_ ?_)
  · refine fun S5 p5 => ⟨0, _, none, none, none, rfl, p4.trans p5, pre_get p5 hd3, ⟨by simp, fun k hk => ?_⟩, by simp, by simp⟩
    rw [getD_set (by simpa using hp)]
    by_cases e : p = k
    · subst e; exact .inl ⟨0, Nat.le_refl _, ⟨rfl, fun s hs => absurd hs (by omega)⟩, by simp⟩
    · refine .inr ⟨fun z => e z.symm, ?_⟩
      rw [if_neg e]
      simp [List.getD_eq_getElem?_getD, hk]
  · rintro τ S5 ⟨s, fs, a, b, c, rfl, p5, hd5, w5, hl, -⟩
    refine Wn.ret (S0 := S5) (List.prefix_refl _) (.var rfl) fun S6 p6 => ⟨_, S6, rfl, p5.trans p6, d, fs, rfl, pre_get p6 hd5, ?_⟩
    simp at hl; subst hl; exact w5
  · rintro s' l τ S5 ⟨s, fs, a, b, c, rfl, p5, hd5, w5, hl, hdr⟩
    have hs : s' = s := by
      have := congrArg List.head? hdr
      simp only [List.head?_cons, List.head?_drop] at this
      rw [List.getElem?_range (by simp at hl; omega)] at this
      simpa using this
    subst hs
    refine ⟨_, rfl, ?_⟩
    refine Wn.forR (κ := Nat) (ks := List.range n) (inj := fun k => .int (k : Nat)) (S0 := S0)
      (P := fun l' τ S' => ∃ (fs : List Int) (b c : Option D), τ = [some x, some (.int (p : Nat)), some (.int (n : Nat)), some (.ref d), some (.int (s' : Nat)), b, c] ∧ S0 <+: S' ∧ S'[d]? = some (.lst (fs.map .int)) ∧ FJ M n p s' fs ∧ ∃ done, List.range n = done ++ l' ∧ ∀ i ∈ done, At M n p s' i → ∀ j, j < n → adj M i j = true → 0 ≤ fs.getD j 0)
      p5 (Er.r1 (.cons (.var rfl) .nil) (by omega)) ?_ ?_ ?_
    · exact fun S6 p6 => ⟨fs, b, c, rfl, p5.trans p6, pre_get p6 hd5, w5.into, [], rfl, by simp⟩
    · rintro τ S6 ⟨fs6, b6, c6, rfl, p6, hd6, w6, done, he, hdn⟩
      refine ⟨s' + 1, fs6, _, _, _, rfl, p6, hd6, w6.out hp fun i hi => hdn i (by rw [List.append_nil] at he; rw [← he]; exact List.mem_range.mpr hi), by simp at hl; omega, ?_⟩
      have := congrArg List.tail hdr
      simpa using this
    · rintro i l' τ S6 ⟨fs6, b6, c6, rfl, p6, hd6, w6, done, he, hdn⟩
      have hi : i < n := List.mem_range.mp (by rw [he]; simp)
      have hil : i < fs6.length := by rw [w6.len]; exact hi
      refine ⟨_, rfl, ?_⟩
      refine Wn.if (S0 := S6) (List.prefix_refl _) (.b (.op (.op (.var rfl) (.var rfl) (.ix (seq_ref hd6) (getI hil))) (.var rfl) .eqI)) (fun hb S7 p7 => ?_) (fun hb S7 p7 => ?_)
      · have hA : At M n p s' i := (w6.at hi).mp (by simpa using hb)
        have h7 := h0.mono (p6.trans p7)
        refine Wn.forR (κ := Nat) (ks := List.range n) (inj := fun k => .int (k : Nat)) (S0 := S0)
          (P := fun l'' τ S' => ∃ (fs : List Int) (c : Option D), τ = [some x, some (.int (p : Nat)), some (.int (n : Nat)), some (.ref d), some (.int (s' : Nat)), some (.int (i : Nat)), c] ∧ S0 <+: S' ∧ S'[d]? = some (.lst (fs.map .int)) ∧ FJ M n p s' fs ∧ (∀ i ∈ done, At M n p s' i → ∀ j, j < n → adj M i j = true → 0 ≤ fs.getD j 0) ∧ ∃ done', List.range n = done' ++ l'' ∧ ∀ j ∈ done', adj M i j = true → 0 ≤ fs.getD j 0)
          (p6.trans p7) (Er.r1 (.cons (.var rfl) .nil) (by omega)) ?_ ?_ ?_
        · exact fun S8 p8 => ⟨fs6, c6, rfl, (p6.trans p7).trans p8, pre_get (p7.trans p8) hd6, w6, hdn, [], rfl, by simp⟩
        · rintro τ S8 ⟨fs8, c8, rfl, p8, hd8, w8, hdn8, done', he', hd'⟩
          refine ⟨fs8, _, _, rfl, p8, hd8, w8, done ++ [i], by rw [he]; simp, fun i' hi' hA' j hj ha => ?_⟩
          rcases List.mem_append.mp hi' with hi' | hi'
          · exact hdn8 i' hi' hA' j hj ha
          · simp at hi'; subst hi'
            exact hd' j (by rw [List.append_nil] at he'; rw [← he']; exact List.mem_range.mpr hj) ha
        · rintro j l'' τ S8 ⟨fs8, c8, rfl, p8, hd8, w8, hdn8, done', he', hd'⟩
          have hj : j < n := List.mem_range.mp (by rw [he']; simp)
          have hjl : j < fs8.length := by rw [w8.len]; exact hj
          have h8 := h0.mono p8
          refine ⟨_, rfl, ?_⟩
          refine Wn.if (S0 := S8) (List.prefix_refl _) (.and (h8.adj q (.var rfl) (.var rfl) (.var rfl) hi hj) fun _ => .b (.op (.op (.var rfl) (.var rfl) (.ix (seq_ref hd8) (getI hjl))) .c .lt)) (fun hb S9 p9 => ?_) (fun hb S9 p9 => ?_)
          · simp only [Bool.and_eq_true, decide_eq_true_eq] at hb
            have hd9 := pre_get p9 hd8
            obtain ⟨w10, hmono⟩ := w8.set hA hj hb.1 hb.2
            refine Wn.put (v := .int ((s' + 1 : Nat) : Int)) (d := d) (i := j) (.op (.var rfl) .c .add) (.var rfl) (.var rfl) hd9 (by simp; exact hjl) fun S10 p10 => ?_
            rw [set_mapI]
            refine ⟨_, _, rfl, pre_set ((p8.trans p9).trans p10) ld0 _, set_self (pre_get p10 hd9), w10, fun i' hi' hA' j' hj' ha' => hmono _ (hdn8 i' hi' hA' j' hj' ha'), done' ++ [j], by rw [he']; simp, fun j' hj' ha' => ?_⟩
            rcases List.mem_append.mp hj' with hj' | hj'
            · exact hmono _ (hd' j' hj' ha')
            · simp at hj'; subst hj'
              rw [getD_set hjl, if_pos rfl]; omega
          · refine Wn.nil ⟨fs8, _, rfl, p8.trans p9, pre_get p9 hd8, w8, hdn8, done' ++ [j], by rw [he']; simp, fun j' hj' ha' => ?_⟩
            rcases List.mem_append.mp hj' with hj' | hj'
            · exact hd' j' hj' ha'
            · simp at hj'; subst hj'
              rw [ha'] at hb
              simpa using hb
      · refine Wn.nil ⟨fs6, _, _, rfl, p6.trans p7, pre_get p7 hd6, w6, done ++ [i], by rw [he]; simp, fun i' hi' hA' => ?_⟩
        rcases List.mem_append.mp hi' with hi' | hi'
        · exact hdn i' hi' hA'
        · simp at hi'; subst hi'
          rw [(w6.at hi).mpr hA'] at hb; simp at hb
end
end K01

set_option linter.all false
set_option maxRecDepth 100000
namespace K01
open DL
section
variable {S : Sto} {τ : Env} {M : List (List Int)} {n p : Nat} {x : D}
theorem ev_law_int {i : Int} : Ev (d__law_int [.int i]) S (.bl true) := by
  refine Ev.fn fun S0 p0 => Wn.ret (S0 := S0) (List.prefix_refl _) (v := .bl true) ?_ fun S1 p1 => ⟨S1, rfl, p1⟩
  exact Ev.andV (b := true) (b' := true) (.un (.var rfl) (.pure fun _ _ => rfl)) fun _ => Ev.notV (b := false) (.un (.var rfl) (.pure fun _ _ => rfl))
theorem nats_get {ks : List Nat} {i : Nat} (h : i < ks.length) : (nats ks)[i]? = some (.int (ks.getD i 0 : Nat)) := by
  unfold nats
  rw [List.getElem?_map, List.getElem?_eq_getElem h, List.getD_eq_getElem?_getD, List.getElem?_eq_getElem h]; rfl
theorem ev_is_way {g s : Nat} {path : List Nat} (h : Rows S x M n) (q : Sq M n) (hp : p < n) (hw : Path M n p g s path) (hs : s < n) : Ev (d__law_is_way [x, .int (p : Nat), .int (g : Nat), .int ((s + 1 : Nat) : Int), .tup (nats path)]) S (.bl true) := by
  refine Ev.fn fun S0 p0 => ?_
  have h0 := h.mono p0
  have hn := q.hi
  have hl := hw.len
  refine Wn.seq (Wn.if (S0 := S0) (List.prefix_refl _) (.or (.not (Ev.truB (b := true) (.un (.var rfl) (.pure fun _ _ => rfl)))) fun _ => .b (.op (.args1 (.var rfl) (.len (xs := nats path) rfl)) (.var rfl) .neI)) (fun hb S1 p1 => ?_) fun _ S1 p1 => Wn.nil ?_)
  · exfalso; simp [nats_len, hl] at hb
  refine Wn.seq (Wn.forR (κ := Nat) (ks := path) (inj := fun k => .int (k : Nat)) (S0 := S0)
    (P := fun l τ S' => ∃ a, τ = [some x, some (.int (p : Nat)), some (.int (g : Nat)), some (.int ((s + 1 : Nat) : Int)), some (.tup (nats path)), a, none] ∧ S0 <+: S' ∧ ∀ k ∈ l, k < n) p1 (Er.tup (.var rfl)) (fun S2 p2 => ⟨none, rfl, p1.trans p2, hw.all⟩) ?_ ?_)
  · rintro τ S2 ⟨a, rfl, p2, -⟩
    refine Wn.seq (Wn.forR (κ := Nat) (ks := List.range s) (inj := fun k => .int (k : Nat)) (S0 := S0)
      (P := fun l τ S' => ∃ b, τ = [some x, some (.int (p : Nat)), some (.int (g : Nat)), some (.int ((s + 1 : Nat) : Int)), some (.tup (nats path)), a, b] ∧ S0 <+: S' ∧ ∀ k ∈ l, k < s) p2 (Er.r1 (.cons (.of_eq (.op (.var rfl) .c .sub) (by simp)) .nil) (by omega)) (fun S3 p3 => ⟨none, rfl, p2.trans p3, fun k hk => List.mem_range.mp hk⟩) ?_ ?_)
    · rintro τ S3 ⟨b, rfl, p3, -⟩
      have e1 := hw.h0
      have e2 := hw.hl
      refine Wn.ret (S0 := S0) p3 (.andV (b' := true) (.op (.op (.var rfl) .c (.ix (xs := nats path) (i := 0) rfl (nats_get (by omega)))) (.var rfl) .eqI) fun _ => .of_eq (.op (.op (.var rfl) (.of_eq (w := .int (s : Nat)) (.op (.var rfl) .c .sub) (by simp)) (.ix (xs := nats path) (i := s) rfl (nats_get (by omega)))) (.var rfl) .eqI) (by rw [e2]; simp)) fun S4 p4 => ⟨S4, ?_, p3.trans p4⟩
      rw [e1]; simp
    · rintro k l τ S3 ⟨b, rfl, p3, hk⟩
      have hks := hk k (by simp)
      have ht := hw.tie k hks
      have m1 : path.getD k 0 < n := hw.all _ (by rw [List.getD_eq_getElem?_getD, List.getElem?_eq_getElem (by omega : k < path.length)]; simp)
      have m2 : path.getD (k + 1) 0 < n := hw.all _ (by rw [List.getD_eq_getElem?_getD, List.getElem?_eq_getElem (by omega : k + 1 < path.length)]; simp)
      have h3 := h0.mono p3
      refine ⟨_, rfl, ?_⟩
      refine Wn.if (S0 := S3) (List.prefix_refl _) (.b (.op (h3.cell q (.var rfl) (.op (.var rfl) (.var rfl) (.ix (xs := nats path) rfl (nats_get (by omega)))) (.op (.var rfl) (.of_eq (w := .int ((k + 1 : Nat) : Int)) (.op (.var rfl) .c .add) rfl) (.ix (xs := nats path) rfl (nats_get (by omega)))) m1 m2) .c .eqI)) (fun hb S4 p4 => ?_) fun _ S4 p4 => Wn.nil ⟨_, rfl, p3.trans p4, fun k hk' => hk k (by simp [hk'])⟩
      exfalso
      simp only [adj, decide_eq_true_eq] at ht hb
      omega
  · rintro k l τ S2 ⟨a, rfl, p2, hk⟩
    have hkn := hk k (by simp)
    have h2 := h0.mono p2
    refine ⟨_, rfl, ?_⟩
    refine Wn.if (S0 := S2) (List.prefix_refl _) (.or (.not (.truB (.args (.cons (.var rfl) .nil) ev_law_int))) fun _ => .or (.b (.op (.var rfl) .c .lt)) fun _ => .b (.op (.var rfl) (.args1 (.var rfl) h2.len) .ge)) (fun hb S3 p3 => ?_) fun _ S3 p3 => Wn.nil ⟨_, rfl, p2.trans p3, fun k hk' => hk k (by simp [hk'])⟩
    exfalso
    simp at hb
    omega
theorem ev_is_way' {g s : Nat} {m : Int} {path : List Nat} (h : Rows S x M n) (q : Sq M n) (hp : p < n) (hw : Path M n p g s path) (hs : s < n) (hm : m = ((s + 1 : Nat) : Int)) : Ev (d__law_is_way [x, .int (p : Nat), .int (g : Nat), .int m, .tup (nats path)]) S (.bl true) := by
  subst hm; exact ev_is_way h q hp hw hs
theorem ev_ways_told {w : Nat} (h : Rows S x M n) (hw : Wd S w M n) (q : Sq M n) (hp : p < n) : Ev (d__law_ways_told [x, .ref w, .int (p : Nat)]) S (.bl true) := by
  refine Ev.fn fun S0 p0 => ?_
  have h0 := h.mono p0
  have w0 := hw.mono p0
  have hn := q.hi
  refine Wn.seq (Wn.setY (S0 := S0) (List.prefix_refl _) (.args (.cons (.var rfl) (.cons (.var rfl) .nil)) (ey_far h0 q hp)) fun v S1 p1 hv => ?_)
  obtain ⟨d, fs, rfl, hd, hf⟩ := hv
  have h1 := h0.mono p1
  have w1 := w0.mono p1
  refine Wn.seq (Wn.forR (κ := Nat) (ks := List.range n) (inj := fun k => .int (k : Nat)) (S0 := S1)
    (P := fun l τ S' => ∃ a b, τ = [some x, some (.ref w), some (.int (p : Nat)), some (.ref d), a, b] ∧ S1 <+: S' ∧ ∀ k ∈ l, k < n) (List.prefix_refl _) (Er.r1 (.cons (.args1 (.var rfl) h1.len) .nil) (by omega)) (fun S2 p2 => ⟨none, none, rfl, p2, fun k hk => List.mem_range.mp hk⟩) ?_ ?_)
  · rintro τ S2 ⟨a, b, rfl, p2, -⟩
    exact Wn.ret (S0 := S1) p2 .c fun S3 p3 => ⟨S3, rfl, (p1.trans p2).trans p3⟩
  · rintro g l τ S2 ⟨a, b, rfl, p2, hk⟩
    have hg := hk g (by simp)
    have hgl : g < fs.length := by rw [hf.len]; exact hg
    refine ⟨_, rfl, ?_⟩
    refine Wn.seq (Wn.setX (S0 := S1) p2 (.args (.cons (.var rfl) (.cons (.var rfl) (.cons (.var rfl) .nil))) (ex_way w1 q hp hg)) fun r S3 p3 hr => ?_)
    have efar : ∀ {τ : Env} {S' : Sto}, S1 <+: S' → τ[3]? = some (some (.ref d)) → τ[4]? = some (some (.int (g : Nat))) → Ev ((dOp oIx (dVar 3) (dVar 4)) τ) S' (.int (fs.getD g 0)) := fun p' a b => .op (.var a) (.var b) (.ix (seq_ref (pre_get p' hd)) (getI hgl))
    rcases hf.is g hg with ⟨t, ht, hA, e⟩ | ⟨hB, e⟩
    · obtain ⟨path, rfl, hpth⟩ := hr.2 t hA
      have htn := hA.lt hp
      refine Wn.if (S0 := S3) (List.prefix_refl _) (.b (.op (efar (p2.trans p3) rfl rfl) .c .lt)) (fun hb => ?_) fun _ S4 p4 => ?_
      · exfalso; simp only [decide_eq_true_eq] at hb; omega
      · have h4 := h1.mono ((p2.trans p3).trans p4)
        refine Wn.if (S0 := S4) (List.prefix_refl _) (.not (.truB (.args (.cons (.var rfl) (.cons (.var rfl) (.cons (.var rfl) (.cons (.op (efar ((p2.trans p3).trans p4) rfl rfl) .c .add) (.cons (.var rfl) .nil))))) (ev_is_way' h4 q hp hpth htn (by rw [e]; omega))))) (fun hb => ?_) fun _ S5 p5 => Wn.nil ⟨_, _, rfl, ((p2.trans p3).trans p4).trans p5, fun k hk' => hk k (by simp [hk'])⟩
        exfalso; simp at hb
    · have : r = .non := hr.1 fun t hA => hB (hA.ball.mono (Nat.le_of_lt (hA.lt hp)))
      subst this
      refine Wn.if (S0 := S3) (List.prefix_refl _) (.b (.op (efar (p2.trans p3) rfl rfl) .c .lt)) (fun _ S4 p4 => ?_) fun hb => ?_
      · refine Wn.if (S0 := S4) (List.prefix_refl _) (.b (.op (.var rfl) .c .isN)) (fun hb => ?_) fun _ S5 p5 => Wn.nil ⟨_, _, rfl, ((p2.trans p3).trans p4).trans p5, fun k hk' => hk k (by simp [hk'])⟩
        exfalso; simp [isNon] at hb
      · exfalso; simp only [decide_eq_false_iff_not] at hb; omega
end
end K01

set_option linter.all false
set_option maxRecDepth 100000
namespace K01
open DL
theorem ins1_perm (x : Int) : ∀ l : List Int, (ins1 x l).Perm (x :: l)
  | [] => List.Perm.refl _
  | y :: r => by
    simp only [ins1]
    split
    · exact List.Perm.refl _
    · exact ((ins1_perm x r).cons y).trans (List.Perm.swap x y r)
theorem isort_perm : ∀ l : List Int, (isort l).Perm l
  | [] => List.Perm.refl _
  | x :: r => (ins1_perm x _).trans ((isort_perm r).cons x)
theorem ins1_sorted (x : Int) : ∀ l : List Int, l.Pairwise (· ≤ ·) → (ins1 x l).Pairwise (· ≤ ·)
  | [], _ => by simp [ins1]
  | y :: r, h => by
    simp only [ins1]
    obtain ⟨h1, h2⟩ := List.pairwise_cons.mp h
    split
    · rename_i hxy
      refine List.pairwise_cons.mpr ⟨fun z hz => ?_, h⟩
      rcases List.mem_cons.mp hz with rfl | hz
      · exact hxy
      · exact Int.le_trans hxy (h1 z hz)
    · rename_i hxy
      refine List.pairwise_cons.mpr ⟨fun z hz => ?_, ins1_sorted x r h2⟩
      rcases List.mem_cons.mp ((ins1_perm x r).subset hz) with rfl | hz
      · omega
      · exact h1 z hz
theorem isort_sorted : ∀ l : List Int, (isort l).Pairwise (· ≤ ·)
  | [] => List.Pairwise.nil
  | x :: r => ins1_sorted x _ (isort_sorted r)
def zs (ks : List Nat) : List Int := ks.map fun (k : Nat) => (k : Int)
theorem nats_zs (ks : List Nat) : nats ks = (zs ks).map .int := by simp [nats, zs]
theorem places_sorted (m : Nat) : (places m).Pairwise (· < ·) := List.Pairwise.filter _ List.pairwise_lt_range
theorem places_nodup (m : Nat) : (places m).Nodup := (places_sorted m).imp fun h => Nat.ne_of_lt h
theorem isort_places {ks : List Nat} {m : Nat} (hd : ks.Nodup) (h : ∀ k, k ∈ ks ↔ k ∈ places m) : isort (zs ks) = zs (places m) := by
  refine List.Perm.eq_of_pairwise (le := fun a b => a ≤ b) (fun a b _ _ => Int.le_antisymm) (isort_sorted _) ?_ ?_
  · unfold zs
    rw [List.pairwise_map]
    exact (places_sorted m).imp fun h => by omega
  · refine (isort_perm _).trans (List.Perm.map _ ?_)
    exact (List.perm_ext_iff_of_nodup hd (places_nodup m)).mpr h
section
variable {S : Sto} {τ : Env} {M : List (List Int)} {n p : Nat} {x : D}
structure GF (M : List (List Int)) (n p : Nat) (fs : List Nat) : Prop where
  nd : fs.Nodup
  all : ∀ k ∈ fs, k < n ∧ Reach M n p k
  has : p ∈ fs
def Cl (M : List (List Int)) (n : Nat) (fs : List Nat) : Prop := ∀ i ∈ fs, ∀ j, j < n → adj M i j = true → j ∈ fs
theorem GF.len {fs : List Nat} (h : GF M n p fs) : fs.length ≤ n := nodup_len h.nd fun k hk => (h.all k hk).1
theorem GF.snoc {fs : List Nat} {i j : Nat} (h : GF M n p fs) (hi : i ∈ fs) (hj : j < n) (ha : adj M i j = true) (hn : j ∉ fs) : GF M n p (fs ++ [j]) :=
  ⟨List.nodup_append.mpr ⟨h.nd, by simp, fun a h1 b hb => by simp at hb; subst hb; rintro rfl; exact hn h1⟩, fun k hk => by
    rcases List.mem_append.mp hk with hk | hk
    · exact h.all k hk
    · simp at hk; subst hk; exact ⟨hj, (h.all i hi).2.step hj ha⟩, by simp [h.has]⟩
theorem GF.full {fs : List Nat} (h : GF M n p fs) (hc : Cl M n fs) {k : Nat} (hr : Reach M n p k) : k ∈ fs := by
  induction hr with
  | refl => exact h.has
  | step _ a b ih => exact hc _ ih _ a b
theorem el_law_reached (h : Rows S x M n) (q : Sq M n) (hp : p < n) : El (d__law_reached [x, .int (p : Nat)]) S (nats (places (rc M n p))) := by
  refine El.fn fun S0 p0 => ?_
  have h0 := h.mono p0
  have hn := q.hi
  refine Wn.seq (Wn.setL (S0 := S0) (List.prefix_refl _) (xs := nats [p]) (.args (.cons (.var rfl) .nil) (.mk (by simp))) fun d S1 p1 hd ld => ?_)
  refine Wn.seq (Wn.forR (κ := Nat) (ks := List.range n) (inj := fun k => .int (k : Nat)) (S0 := S0)
    (P := fun l τ S' => ∃ (fs : List Nat) (a b c : Option D), τ = [some x, some (.int (p : Nat)), some (.ref d), a, b, c] ∧ S0 <+: S' ∧ S'[d]? = some (.lst (nats fs)) ∧ GF M n p fs ∧ (Cl M n fs ∨ n + 1 ≤ fs.length + l.length))
    p1 (Er.r1 (.cons (.args1 (.var rfl) h0.len) .nil) (by omega)) (fun S2 p2 => ⟨[p], none, none, none, rfl, p1.trans p2, pre_get p2 hd, ⟨by simp, fun k hk => by simp at hk; subst hk; exact ⟨hp, .refl⟩, by simp⟩, .inr (by simp; omega)⟩) ?_ ?_)
  · rintro τ S2 ⟨fs, a, b, c, rfl, p2, hd2, w2, hc⟩
    have hcl : Cl M n fs := hc.resolve_right (by have := w2.len; simp; omega)
    have e : isort (zs fs) = zs (places (rc M n p)) := isort_places w2.nd fun k => ⟨fun z => (mem_rc q).mpr (w2.all k z), fun z => w2.full hcl ((mem_rc q).mp z).2⟩
    refine Wn.retL (S0 := S2) (xs := nats (places (rc M n p))) (List.prefix_refl _) (.args (.cons (.var rfl) .nil) ?_) fun k S3 p3 g3 l3 => ⟨k, S3, rfl, p2.trans p3, g3, Nat.le_trans (pre_len p2) l3⟩
    rw [nats_zs (places _), ← e]
    exact El.fsortI (by rw [← nats_zs]; exact lst_ref hd2)
  · rintro t l τ S2 ⟨fs, a, b, c, rfl, p2, hd2, w2, hc⟩
    refine ⟨_, rfl, ?_⟩
    obtain ⟨cc, S3, e3, p3, hc3, lc3⟩ := (El.args (τ := [some x, some (.int (p : Nat)), some (.ref d), some (.int (t : Nat)), b, c]) (dd := dCons (dVar 2) dNil) (.cons (.var rfl) .nil) (El.flist (seq_ref hd2))) S2 (List.prefix_refl _)
    have hdc : d ≠ cc := fun z => by subst z; exact absurd (get_lt hd2) (by omega)
    refine Wn.for (κ := Nat) (ks := fs) (inj := fun k => .int (k : Nat)) (gd := lstIs cc (nats fs)) (S1 := S3)
      (P := fun l' τ S' => ∃ (ext : List Nat) (b c : Option D), τ = [some x, some (.int (p : Nat)), some (.ref d), some (.int (t : Nat)), b, c] ∧ S0 <+: S' ∧ S'[d]? = some (.lst (nats (fs ++ ext))) ∧ S'[cc]? = some (.lst (nats fs)) ∧ GF M n p (fs ++ ext) ∧ (Cl M n fs → ext = []) ∧ ∃ done, fs = done ++ l' ∧ ∀ i ∈ done, ∀ j, j < n → adj M i j = true → j ∈ fs ++ ext)
      ?_ ⟨[], b, c, rfl, p2.trans p3, by simpa using pre_get p3 hd2, hc3, by simpa using w2, fun _ => rfl, [], rfl, by simp⟩ ?_ ?_ ?_
    · show R.bind ((dArgs fList (dCons (dVar 2) dNil)) [some x, some (.int (p : Nat)), some (.ref d), some (.int (t : Nat)), b, c] S2) itSeq = _
      rw [e3]
      simp only [R.bind, itSeq, itOf, lst_ref hc3]
      rfl
    · rintro l' τ S4 ⟨_, _, _, _, _, _, hc4, _⟩
      exact lstIs_of hc4
    · rintro τ S4 ⟨ext, b4, c4, rfl, p4, hd4, hc4, w4, hcl, done, he, hdn⟩
      refine ⟨fs ++ ext, _, _, _, rfl, p4, hd4, w4, ?_⟩
      rw [List.append_nil] at he
      subst he
      by_cases hx : ext = []
      · subst hx
        left
        rw [List.append_nil] at hdn ⊢
        exact hdn
      · rcases hc with hc | hc
        · exact absurd (hcl hc) hx
        · right
          have : 0 < ext.length := List.length_pos_iff.mpr hx
          simp at hc ⊢; omega
    · rintro i l' τ S4 ⟨ext, b4, c4, rfl, p4, hd4, hc4, w4, hcl, done, he, hdn⟩
      have hif : i ∈ fs := by rw [he]; simp
      have hin := (w2.all i hif).1
      refine ⟨_, rfl, ?_⟩
      refine Wn.forR (κ := Nat) (ks := List.range n) (inj := fun k => .int (k : Nat)) (S0 := S0)
        (P := fun l'' τ S' => ∃ (ext : List Nat) (c : Option D), τ = [some x, some (.int (p : Nat)), some (.ref d), some (.int (t : Nat)), some (.int (i : Nat)), c] ∧ S0 <+: S' ∧ S'[d]? = some (.lst (nats (fs ++ ext))) ∧ S'[cc]? = some (.lst (nats fs)) ∧ GF M n p (fs ++ ext) ∧ (Cl M n fs → ext = []) ∧ (∀ i ∈ done, ∀ j, j < n → adj M i j = true → j ∈ fs ++ ext) ∧ ∃ done', List.range n = done' ++ l'' ∧ ∀ j ∈ done', adj M i j = true → j ∈ fs ++ ext)
        p4 (Er.r1 (.cons (.args1 (.var rfl) h0.len) .nil) (by omega)) (fun S5 p5 => ⟨ext, c4, rfl, p4.trans p5, pre_get p5 hd4, pre_get p5 hc4, w4, hcl, hdn, [], rfl, by simp⟩) ?_ ?_
      · rintro τ S5 ⟨ext5, c5, rfl, p5, hd5, hc5, w5, hcl5, hdn5, done', he', hd'⟩
        refine ⟨ext5, _, _, rfl, p5, hd5, hc5, w5, hcl5, done ++ [i], by rw [he]; simp, fun i' hi' j hj ha => ?_⟩
        rcases List.mem_append.mp hi' with hi' | hi'
        · exact hdn5 i' hi' j hj ha
        · simp at hi'; subst hi'
          exact hd' j (by rw [List.append_nil] at he'; rw [← he']; exact List.mem_range.mpr hj) ha
      · rintro j l'' τ S5 ⟨ext5, c5, rfl, p5, hd5, hc5, w5, hcl5, hdn5, done', he', hd'⟩
        have hj : j < n := List.mem_range.mp (by rw [he']; simp)
        have h5 := h0.mono p5
        refine ⟨_, rfl, ?_⟩
        refine Wn.if (S0 := S5) (List.prefix_refl _) (.and (h5.adj q (.var rfl) (.var rfl) (.var rfl) hin hj) fun _ => .b (.op (.var rfl) (.var rfl) (Ev.oin (seq_ref hd5)))) (fun hb S6 p6 => ?_) (fun hb S6 p6 => ?_)
        · simp only [if_true, Bool.and_eq_true, Bool.not_eq_true', List.contains_eq_mem, decide_eq_false_iff_not] at hb
          have hl5 := w5.len
          refine Wn.append (S0 := S6) rfl (List.prefix_refl _) (.var rfl) (pre_get p6 hd5) (by rw [nats_len]; unfold bigL; omega) fun S7 p7 hd7 => ?_
          refine ⟨ext5 ++ [j], _, rfl, pre_set ((p5.trans p6).trans p7) ld _, ?_, set_ne hdc (pre_get (p6.trans p7) hc5), ?_, fun hC => ?_, fun i' hi' j' hj' ha' => ?_, done' ++ [j], by rw [he']; simp, fun j' hj' ha' => ?_⟩
          · rw [← List.append_assoc, nats_app]; exact set_self hd7
          · rw [← List.append_assoc]; exact w5.snoc (by simp [hif]) hj hb.1 hb.2
          · exact absurd (hC i hif j hj hb.1) fun z => hb.2 (by simp [z])
          · rw [← List.append_assoc]; exact List.mem_append_left _ (hdn5 i' hi' j' hj' ha')
          · rw [← List.append_assoc]
            rcases List.mem_append.mp hj' with hj' | hj'
            · exact List.mem_append_left _ (hd' j' hj' ha')
            · simp at hj'; subst hj'; simp
        · refine Wn.nil ⟨ext5, _, rfl, p5.trans p6, pre_get p6 hd5, pre_get p6 hc5, w5, hcl5, hdn5, done' ++ [j], by rw [he']; simp, fun j' hj' ha' => ?_⟩
          rcases List.mem_append.mp hj' with hj' | hj'
          · exact hd' j' hj' ha'
          · simp at hj'; subst hj'
            rw [ha'] at hb
            simp only [if_true, Bool.true_and, Bool.not_eq_false', List.contains_eq_mem, decide_eq_true_eq] at hb
            exact hb
end
end K01

set_option linter.all false
set_option maxRecDepth 100000
namespace K01
open DL
/-- the lots of k places, in the law's order -/
def lots : Nat → List (List Nat)
  | 0 => [[]]
  | k + 1 => lots k ++ (lots k).map (· ++ [k])
theorem lots_len (k : Nat) : (lots k).length = 2 ^ k := by
  induction k with
  | zero => rfl
  | succ k ih => simp [lots, ih, Nat.pow_succ]; omega
theorem lots_small (k : Nat) : ∀ l ∈ lots k, l.length ≤ k := by
  induction k with
  | zero => intro l hl; simp [lots] at hl; subst hl; simp
  | succ k ih =>
    intro l hl
    simp only [lots, List.mem_append, List.mem_map] at hl
    rcases hl with hl | ⟨a, ha, rfl⟩
    · have := ih l hl; omega
    · have := ih a ha; simp; omega
theorem lots_places (n : Nat) (h2 : 2 ≤ n) (h : n ≤ 6) : lots n = (List.range (2 ^ n)).map places := by
  have : n = 2 ∨ n = 3 ∨ n = 4 ∨ n = 5 ∨ n = 6 := by omega
  rcases this with rfl | rfl | rfl | rfl | rfl <;> decide +kernel
abbrev Zs := List (Nat × List Nat)
def refs (ps : Zs) : List D := ps.map fun z => .ref z.1
def Zin (S : Sto) (ps : Zs) : Prop := ∀ z ∈ ps, S[z.1]? = some (.lst (nats z.2))
theorem Zin.mono {S S' : Sto} {ps : Zs} (h : Zin S ps) (p : S <+: S') : Zin S' ps := fun z hz => pre_get p (h z hz)
theorem Zin.app {S : Sto} {a b : Zs} (h : Zin S a) (h' : Zin S b) : Zin S (a ++ b) := fun z hz => by
  rcases List.mem_append.mp hz with hz | hz; exact h z hz; exact h' z hz
section
variable {S : Sto} {M : List (List Int)} {n p : Nat} {x : D}
theorem lots_lc' {gd : Sto → Bool} {k : Nat} {τw : Env} (h2 : ∀ d, (τw.set 3 d)[2]? = some (some (.int (k : Nat)))) (h3 : ∀ d, (τw.set 3 d)[3]? = some d) : ∀ (ps acc : Zs) (S : Sto), (∀ S3, S <+: S3 → gd S3 = true) → Zin S ps → Zin S acc → (∀ z ∈ ps, z.2.length ≤ 100) →
    ∃ d S2 new, lcL gd (gN 3) tTrue (dOp oAdd (dVar 3) (dArgs mkLst (dCons (dVar 2) (dNil)))) τw (refs ps) (refs acc) S = .ok (.ref d) S2 ∧ S <+: S2 ∧ S2[d]? = some (.lst (refs (acc ++ new))) ∧ Zin S2 (acc ++ new) ∧ new.map Prod.snd = (ps.map Prod.snd).map (· ++ [k])
  | [], acc, S, hg, _, ha, _ => ⟨S.length, S ++ [SO.lst (refs acc)], [], by simp only [refs, List.map_nil, lcL, if_pos (hg S (List.prefix_refl _))]; rfl, ⟨_, rfl⟩, by simp, by simpa using ha.mono ⟨_, rfl⟩, rfl⟩
  | z :: ps, acc, S, hg, hz, ha, hl => by
    have hz1 := hz z (by simp)
    have hl1 := hl z (by simp)
    -- the item
    have e1 : dOp oAdd (dVar 3) (dArgs mkLst (dCons (dVar 2) (dNil))) (τw.set 3 (some (.ref z.1))) S = .ok (.ref (S ++ [SO.lst (nats [k])]).length) ((S ++ [SO.lst (nats [k])]) ++ [SO.lst (nats z.2 ++ nats [k])]) := by
      have g1 : (S ++ [SO.lst [.int (k : Nat)]])[z.1]? = some (.lst (nats z.2)) := pre_get ⟨_, rfl⟩ hz1
      simp only [dOp, dVar, h3, R.bind, dArgs, dCons, h2, dNil, mkLst, List.length_singleton, oAdd, lst_ref g1, lst_ref app_new]
      rw [if_pos (by decide)]
      simp only [lst_ref g1, lst_ref app_new]
      rw [if_pos (by rw [nats_len]; simp [bigL]; omega)]
      rfl
    obtain ⟨d, S2, new, e2, p2, g2, z2, m2⟩ := lots_lc' h2 h3 ps (acc ++ [((S ++ [SO.lst (nats [k])]).length, z.2 ++ [k])]) ((S ++ [SO.lst (nats [k])]) ++ [SO.lst (nats z.2 ++ nats [k])])
      (fun S3 q => hg S3 (List.IsPrefix.trans (by rw [List.append_assoc]; exact ⟨_, rfl⟩) q))
      (Zin.mono (fun w hw => hz w (by simp [hw])) (by rw [List.append_assoc]; exact ⟨_, rfl⟩))
      (Zin.app (ha.mono (by rw [List.append_assoc]; exact ⟨_, rfl⟩)) (fun w hw => by simp only [List.mem_singleton] at hw; subst hw; rw [app_new]; simp [nats]))
      (fun w hw => hl w (by simp [hw]))
    refine ⟨d, S2, ((S ++ [SO.lst (nats [k])]).length, z.2 ++ [k]) :: new, ?_, List.IsPrefix.trans (by rw [List.append_assoc]; exact ⟨_, rfl⟩) p2, by rw [g2]; simp, by simpa using z2, by simp [m2]⟩
    simp only [refs, List.map_cons, lcL, if_pos (hg S (List.prefix_refl _)), gN, tTrue, e1]
    rw [← e2]
    simp [refs]
theorem ey_lots (hn : n ≤ 6) : Ey (d__law_lots [.int (n : Nat)]) S fun r S' => ∃ d ps, r = .ref d ∧ S'[d]? = some (.lst (refs ps)) ∧ Zin S' ps ∧ ps.map Prod.snd = lots n := by
  refine Ey.fn fun S0 p0 => ?_
  -- [[]]
  refine Wn.seq ⟨?_⟩
  have e1 : sSet 1 (dArgs mkLst (dCons (dArgs mkLst (dNil)) (dNil))) [some (.int (n : Nat)), none, none, none] S0 = .nx [some (.int (n : Nat)), some (.ref (S0 ++ [SO.lst []]).length), none, none] ((S0 ++ [SO.lst []]) ++ [SO.lst [.ref S0.length]]) := by
    simp [sSet, dArgs, dCons, dNil, R.bind, R.go, mkLst]
  erw [e1]
  have hz : Zin ((S0 ++ [SO.lst []]) ++ [SO.lst [.ref S0.length]]) [(S0.length, [])] := fun z hz => by
    simp only [List.mem_singleton] at hz; subst hz
    exact pre_get ⟨_, rfl⟩ (by rw [app_new]; rfl)
  have hd : ((S0 ++ [SO.lst []]) ++ [SO.lst [.ref S0.length]])[(S0 ++ [SO.lst []]).length]? = some (.lst (refs [(S0.length, [])])) := by rw [app_new]; rfl
  have hp : S0 <+: ((S0 ++ [SO.lst []]) ++ [SO.lst [.ref S0.length]]) := by rw [List.append_assoc]; exact ⟨_, rfl⟩
  generalize (S0 ++ [SO.lst []]) ++ [SO.lst [.ref S0.length]] = S1 at hz hd hp
  generalize (S0 ++ [SO.lst []]).length = d1 at hd
  refine Wn.seq (Wn.forR (κ := Nat) (ks := List.range n) (inj := fun k => .int (k : Nat)) (S0 := S0)
    (P := fun l τ S' => ∃ (s d : Nat) (ps : Zs) (a : Option D), τ = [some (.int (n : Nat)), some (.ref d), a, none] ∧ S0 <+: S' ∧ S'[d]? = some (.lst (refs ps)) ∧ Zin S' ps ∧ ps.map Prod.snd = lots s ∧ s + l.length = n ∧ l = (List.range n).drop s)
    hp (Er.r1 (.cons (.var rfl) .nil) (by omega)) (fun S2 p2 => ⟨0, d1, [(S0.length, [])], none, rfl, hp.trans p2, pre_get p2 hd, hz.mono p2, rfl, by simp, by simp⟩) ?_ ?_)
  · rintro τ S2 ⟨s, d, ps, a, rfl, p2, hd2, hz2, hl, hs, -⟩
    refine Wn.ret (S0 := S2) (List.prefix_refl _) (.var rfl) fun S3 p3 => ⟨_, S3, rfl, p2.trans p3, d, ps, rfl, pre_get p3 hd2, hz2.mono p3, ?_⟩
    simp at hs; subst hs; exact hl
  · rintro s' l τ S2 ⟨s, d, ps, a, rfl, p2, hd2, hz2, hl, hs, hdr⟩
    have he : s' = s := by
      have := congrArg List.head? hdr
      simp only [List.head?_cons, List.head?_drop] at this
      rw [List.getElem?_range (by simp at hs; omega)] at this
      simpa using this
    subst he
    refine ⟨_, rfl, ⟨?_⟩⟩
    have hsn : s' < n := by simp at hs; omega
    have hlen : ps.length = 2 ^ s' := by rw [← lots_len, ← hl, List.length_map]
    have hpow : 2 ^ s' ≤ 64 := by
      have := Nat.pow_le_pow_right (n := 2) (by omega) (show s' ≤ 6 by omega)
      simpa using this
    obtain ⟨d3, S3, new, e3, p3, g3, z3, m3⟩ := lots_lc' (gd := lstIs d (refs ps)) (k := s') (τw := [some (.int (n : Nat)), some (.ref d), some (.int (s' : Nat)), none]) (fun _ => rfl) (fun _ => rfl) ps [] S2 (fun S3 q => lstIs_of (pre_get q hd2)) hz2 (fun z hz => by cases hz) (fun z hz => by
      have : z.2 ∈ lots s' := by rw [← hl]; exact List.mem_map_of_mem hz
      have := lots_small _ _ this
      omega)
    have e4 : sSet 1 (dOp oAdd (dVar 1) (dLc [3] (dIt itSeq (dVar 1)) (gN 3) (tTrue) (dOp oAdd (dVar 3) (dArgs mkLst (dCons (dVar 2) (dNil)))))) [some (.int (n : Nat)), some (.ref d), some (.int (s' : Nat)), none] S2 =
        .nx [some (.int (n : Nat)), some (.ref S3.length), some (.int (s' : Nat)), none] (S3 ++ [SO.lst (refs (ps ++ new))]) := by
      have g2 : S3[d]? = some (.lst (refs ps)) := pre_get p3 hd2
      have g3' : S3[d3]? = some (.lst (refs new)) := by simpa using g3
      have hnl : new.length = ps.length := by have := congrArg List.length m3; simpa using this
      have e5 : dLc [3] (dIt itSeq (dVar 1)) (gN 3) (tTrue) (dOp oAdd (dVar 3) (dArgs mkLst (dCons (dVar 2) (dNil)))) [some (.int (n : Nat)), some (.ref d), some (.int (s' : Nat)), none] S2 = .ok (.ref d3) S3 := by
        simp only [dLc, dIt, dVar, List.getElem?_cons_succ, List.getElem?_cons_zero, R.bind, itSeq, itOf, lst_ref hd2]
        rw [if_pos (by simp [refs]; omega)]
        exact e3
      have e6 : oAdd (.ref d) (.ref d3) S3 = .ok (.ref S3.length) (S3 ++ [SO.lst (refs (ps ++ new))]) := by
        simp only [oAdd, lst_ref g2, lst_ref g3']
        rw [if_pos (by simp [refs, bigL]; omega)]
        simp [newL, refs]
      simp only [sSet, dOp, dVar, List.getElem?_cons_succ, List.getElem?_cons_zero, R.bind, e5, e6, R.go]
      rfl
    have e4' := e4
    show Aft _ _ (sSet 1 _ _ S2)
    erw [e4]
    refine ⟨s' + 1, S3.length, ps ++ new, _, rfl, (p2.trans p3).trans ⟨_, rfl⟩, app_new, ?_, ?_, by simp at hs; omega, ?_⟩
    · exact Zin.mono (Zin.app (hz2.mono p3) (by simpa using z3)) ⟨_, rfl⟩
    · rw [List.map_append, m3, hl]; rfl
    · have := congrArg List.tail hdr
      simpa using this
end
end K01

set_option linter.all false
set_option maxRecDepth 100000
namespace K01
open DL
/-! ### the order of the sorted tuples -/
theorem leT_eq (p q : List Int) : leT p q = decide (p ≤ q) := by
  show (!PySem.W.dataLt (.tuple (q.map .int)) (.tuple (p.map .int))) = _
  rw [PySem.W.dataLt_tuple]
  show (!PySem.W.rowLt (q.map .int) (p.map .int)) = _
  rw [PySem.W.dataLt_ints]
  by_cases h : q < p
  · have h' : ¬ p ≤ q := fun r => List.not_lt.mpr r h
    simp [h, h']
  · have h' : p ≤ q := List.not_lt.mp h
    simp [h, h']
theorem sortT_of {bs cs : List (List Int)} (hp : bs.Perm cs) (hs : cs.Pairwise (· ≤ ·)) : sortT bs = cs := by
  refine List.Perm.eq_of_pairwise (le := fun a b => a ≤ b) (fun a b _ _ => List.le_antisymm) ?_ hs ((List.mergeSort_perm bs leT).trans hp)
  refine List.Pairwise.imp ?_ (List.pairwise_mergeSort (le := leT) (fun a b c => ?_) (fun a b => ?_) bs)
  · intro a b h; simpa [leT_eq] using h
  · simp only [leT_eq, decide_eq_true_eq]; exact List.le_trans
  · simp only [leT_eq, Bool.or_eq_true, decide_eq_true_eq]; exact List.le_total a b
theorem El.fsortT {S : Sto} {x : D} {bs : List (List Int)} (h : lstOf S x = some (bs.map tupD)) (hne : ∀ b ∈ bs, b ≠ []) : El (fSorted [x]) S ((sortT bs).map tupD) := fun S1 p => by
  cases bs with
  | nil =>
    have h' : lstOf S1 x = some ([] : List D) := lstOf_mono p h
    have e : sortT ([] : List (List Int)) = [] := by simp [sortT]
    simp only [fSorted, h', intsOf, e]
    exact El.new (S := S1) (xs := []) S1 (List.prefix_refl _)
  | cons b bs =>
    have hi : intsOf ((b :: bs).map tupD) = none := rfl
    have ht : ∀ bs : List (List Int), (∀ b ∈ bs, b ≠ []) → tupsOf (bs.map tupD) = some bs := by
      intro bs
      induction bs with
      | nil => intro _; rfl
      | cons b bs ih =>
        intro hb
        have h1 := hb b (by simp)
        cases b with
        | nil => exact absurd rfl h1
        | cons n ns =>
          simp only [List.map_cons, tupD, tupsOf]
          have : intsOf (D.int n :: ns.map D.int) = some (n :: ns) := intsOf_map (n :: ns)
          rw [this]
          simp only
          have h2 := ih fun c hc => hb c (by simp [hc])
          rw [h2]; rfl
    simp only [fSorted, lstOf_mono p h, hi, ht _ hne]
    exact El.new S1 (List.prefix_refl _)

/-! ### closed lots, told on masks -/
section
variable {M : List (List Int)} {n : Nat}
theorem closedB_iff {ks : List Nat} : closedB M n ks = true ↔ (∀ i ∈ ks, ∀ j, j < n → adj M i j = true → j ∈ ks) ∧ ks ≠ [] := by
  simp only [closedB, Bool.and_eq_true, List.all_eq_true, List.mem_range, Bool.or_eq_true, Bool.not_eq_true', List.contains_eq_mem, decide_eq_true_eq, List.isEmpty_eq_false_iff]
  constructor
  · rintro ⟨a, b⟩
    exact ⟨fun i hi j hj ha => (a i hi j hj).resolve_left (by simp [ha]), b⟩
  · rintro ⟨a, b⟩
    exact ⟨fun i hi j hj => by cases h : adj M i j; exact .inl rfl; exact .inr (a i hi j hj h), b⟩
theorem closed_reach {ks : List Nat} (h : closedB M n ks = true) {i j : Nat} (hi : i ∈ ks) (hr : Reach M n i j) : j ∈ ks := by
  obtain ⟨hc, _⟩ := closedB_iff.mp h
  induction hr with
  | refl => exact hi
  | step _ a b ih => exact hc _ ih _ a b
theorem rc_closed {i : Nat} (q : Sq M n) (hi : i < n) : closedB M n (places (rc M n i)) = true := by
  refine closedB_iff.mpr ⟨fun k hk j hj ha => ?_, fun z => ?_⟩
  · exact (mem_rc q).mpr ⟨hj, ((mem_rc q).mp hk).2.step hj ha⟩
  · have : i ∈ places (rc M n i) := (mem_rc q).mpr ⟨hi, .refl⟩
    rw [z] at this; cases this
/-- the law's test that o is a smaller part of l -/
def partB (l o : List Nat) : Bool := decide (o.length < l.length) && decide ((o.filter l.contains).length = o.length)
theorem partB_iff {l o : List Nat} : partB l o = true ↔ o.length < l.length ∧ ∀ a ∈ o, a ∈ l := by
  simp only [partB, Bool.and_eq_true, decide_eq_true_eq, List.length_filter_eq_length_iff, List.contains_eq_mem]
theorem places_filter {a b : Nat} (h : ∀ k, k ∈ places a → k ∈ places b) : (places b).filter (fun k => a.testBit k) = places a := by
  unfold places
  rw [List.filter_filter]
  refine List.filter_congr fun k hk => ?_
  have := h k
  rw [mem_places, mem_places] at this
  have hk6 : k < 6 := List.mem_range.mp hk
  cases ha : a.testBit k with
  | false => simp
  | true => simp [(this ⟨hk6, ha⟩).2]
theorem places_len {a b : Nat} (h : ∀ k, k ∈ places a → k ∈ places b) : (places a).length ≤ (places b).length := by
  rw [← places_filter h]; exact List.length_filter_le _ _
theorem places_eq {a b : Nat} (ha : a < 64) (hb : b < 64) (h : ∀ k, k ∈ places a → k ∈ places b) (hl : (places b).length ≤ (places a).length) : a = b := by
  have e : ((places b).filter (fun k => a.testBit k)).length = (places b).length := by
    have := places_len h
    rw [places_filter h]; omega
  have hall := List.length_filter_eq_length_iff.mp e
  refine mask_ext ha hb fun k hk => ?_
  rw [Bool.eq_iff_iff]
  exact ⟨fun z => (mem_places.mp (h k (mem_places.mpr ⟨hk, z⟩))).2, fun z => hall k (mem_places.mpr ⟨hk, z⟩)⟩
def cz (M : List (List Int)) (n : Nat) : List (List Nat) := (lots n).filter (closedB M n)
def minB (M : List (List Int)) (n : Nat) (l : List Nat) : Bool := !(cz M n).any (partB l)
theorem mem_cz {l : List Nat} (q : Sq M n) : l ∈ cz M n ↔ ∃ m, m < 2 ^ n ∧ l = places m ∧ closedB M n l = true := by
  unfold cz
  rw [List.mem_filter, lots_places n q.lo q.hi]
  simp only [List.mem_map, List.mem_range]
  constructor
  · rintro ⟨⟨m, hm, rfl⟩, hc⟩; exact ⟨m, hm, rfl, hc⟩
  · rintro ⟨m, hm, rfl, hc⟩; exact ⟨⟨m, hm, rfl⟩, hc⟩
theorem rc_cz {i : Nat} (q : Sq M n) (hi : i < n) : places (rc M n i) ∈ cz M n := (mem_cz q).mpr ⟨_, rc_lt, rfl, rc_closed q hi⟩
theorem min_eq {m j : Nat} (q : Sq M n) (hm : m < 2 ^ n) (hc : closedB M n (places m) = true) (hmin : minB M n (places m) = true) (hj : j ∈ places m) : rc M n j = m := by
  have h64 := q.pow
  have hjn : j < n := places_lt hm hj
  have hsub : ∀ k, k ∈ places (rc M n j) → k ∈ places m := fun k hk => closed_reach hc hj ((mem_rc q).mp hk).2
  refine places_eq (Nat.lt_of_lt_of_le rc_lt h64) (by omega) hsub ?_
  refine Nat.le_of_not_lt fun hlt => ?_
  simp only [minB, Bool.not_eq_true', List.any_eq_false] at hmin
  exact hmin _ (rc_cz q hjn) (partB_iff.mpr ⟨hlt, hsub⟩)
theorem head_min {i : Nat} (q : Sq M n) (hi : i < n) (h : headB M n i = true) : minB M n (places (rc M n i)) = true := by
  simp only [headB, decide_eq_true_eq] at h
  simp only [minB, Bool.not_eq_true', List.any_eq_false]
  intro o ho hp
  obtain ⟨m, hm, rfl, hc⟩ := (mem_cz q).mp ho
  obtain ⟨hlt, hsub⟩ := partB_iff.mp hp
  obtain ⟨j, l, hjl⟩ := List.exists_cons_of_ne_nil (closedB_iff.mp hc).2
  have hj : j ∈ places m := by rw [hjl]; simp
  have e := h.2 j (hsub j hj)
  have hs2 : ∀ k, k ∈ places (rc M n i) → k ∈ places m := fun k hk => by
    rw [← e] at hk
    exact closed_reach hc hj ((mem_rc q).mp hk).2
  have := places_len hs2
  omega
theorem min_head {m : Nat} (q : Sq M n) (hm : m < 2 ^ n) (hc : closedB M n (places m) = true) (hmin : minB M n (places m) = true) : ∃ i, i < n ∧ headB M n i = true ∧ rc M n i = m := by
  obtain ⟨i, l, hil⟩ := List.exists_cons_of_ne_nil (closedB_iff.mp hc).2
  have hi : i ∈ places m := by rw [hil]; simp
  have e := min_eq q hm hc hmin hi
  refine ⟨i, places_lt hm hi, ?_, e⟩
  simp only [headB, decide_eq_true_eq]
  rw [e]
  exact ⟨by rw [hil]; rfl, fun j hj => min_eq q hm hc hmin hj⟩
theorem zs_inj {a b : List Nat} (h : zs a = zs b) : a = b := by
  unfold zs at h
  exact (List.map_inj_right (fun x y hxy => Int.ofNat.inj hxy)).mp h
/-- the least closed lots, in order, are the heads' lots -/
theorem least_heads (q : Sq M n) : sortT (((cz M n).filter (minB M n)).map zs) = (headsM M n).map fun m => zs (places m) := by
  have h64 := q.pow
  have hlt : ((headsM M n).map fun m => zs (places m)).Pairwise (· < ·) := by
    unfold headsM
    rw [List.map_map, List.pairwise_map]
    refine List.Pairwise.imp_of_mem ?_ (List.Pairwise.filter _ List.pairwise_lt_range)
    intro a b ha hb hab
    simp only [List.mem_filter, headB, decide_eq_true_eq] at ha hb
    obtain ⟨ra, hra⟩ := List.head?_eq_some_iff.mp ha.2.1
    obtain ⟨rb, hrb⟩ := List.head?_eq_some_iff.mp hb.2.1
    simp only [Function.comp, hra, hrb, zs, List.map_cons]
    exact List.cons_lt_cons_iff.mpr (.inl (by omega))
  refine sortT_of ((List.perm_ext_iff_of_nodup ?_ ?_).mpr fun b => ?_) (hlt.imp fun h => List.le_of_lt h)
  · unfold cz
    rw [lots_places n q.lo q.hi, List.filter_map, List.filter_map, List.map_map]
    rw [List.Nodup, List.pairwise_map]
    refine List.Pairwise.imp_of_mem ?_ (List.Pairwise.filter _ (List.Pairwise.filter _ List.nodup_range))
    intro a b ha hb hab e
    simp only [List.mem_filter, List.mem_range] at ha hb
    refine hab ?_
    have e2 : places a = places b := zs_inj e
    refine places_eq (by omega) (by omega) (fun k hk => e2 ▸ hk) (by rw [e2]; exact Nat.le_refl _)
  · exact hlt.imp fun h e => by subst e; exact List.lt_irrefl _ h
  · simp only [List.mem_map, List.mem_filter, headsM]
    constructor
    · rintro ⟨l, ⟨hl, hmin⟩, rfl⟩
      obtain ⟨m, hm, rfl, hc⟩ := (mem_cz q).mp hl
      obtain ⟨i, hi, hh, e⟩ := min_head q hm hc hmin
      exact ⟨m, ⟨i, ⟨List.mem_range.mpr hi, hh⟩, e⟩, rfl⟩
    · rintro ⟨m, ⟨i, ⟨hi, hh⟩, rfl⟩, rfl⟩
      have hi' := List.mem_range.mp hi
      exact ⟨_, ⟨rc_cz q hi', head_min q hi' hh⟩, rfl⟩
end
end K01

set_option linter.all false
set_option maxRecDepth 100000
namespace K01
open DL
section
variable {M : List (List Int)} {n : Nat} {S : Sto} {x : D}
/-- a comprehension that keeps some of a list's items -/
theorem keep_lc {gd : Sto → Bool} {g : DenG} {t : DenT} {e : DenE} {τw : Env} {S0 : Sto} {κ : Type} {inj : κ → D} {tf : κ → Bool} (ks : List κ) (hg : ∀ S3, S0 <+: S3 → gd S3 = true) (h : ∀ k ∈ ks, ∃ τ1, g (inj k) τw = some τ1 ∧ Ev (t τ1) S0 (tf k) ∧ Ev (e τ1) S0 (inj k)) :
    ∃ k S2, lcL gd g t e τw (ks.map inj) [] S0 = .ok (.ref k) S2 ∧ S0 <+: S2 ∧ S2[k]? = some (.lst ((ks.filter tf).map inj)) ∧ S0.length ≤ k := by
  obtain ⟨k, S2, a, b, c, d⟩ := lcL_spec (gd := gd) (g := g) (t := t) (e := e) (τw := τw) (inj := inj) (tf := tf) (ef := inj) ks [] S0 hg fun k hk => by
    obtain ⟨τ1, h1, h2, h3⟩ := h k hk; exact ⟨τ1, h1, h2, fun _ => h3⟩
  exact ⟨k, S2, a, b, by simpa using c, d⟩
theorem part_ev {τ : Env} {o l : Nat × List Nat} (ho : S[o.1]? = some (.lst (nats o.2))) (hl : S[l.1]? = some (.lst (nats l.2))) (h2 : τ[2]? = some (some (.ref l.1))) (h5 : τ[5]? = some (some (.ref o.1))) (hs : o.2.length ≤ 100) (hw : ∀ d, ((wipeD τ [6]).set 6 d)[2]? = some (some (.ref l.1))) (hw6 : ∀ d, ((wipeD τ [6]).set 6 d)[6]? = some d) :
    Ev (dAnd (dB (dOp oLt (dArgs fLenSeq (dCons (dVar 5) (dNil))) (dArgs fLenSeq (dCons (dVar 2) (dNil))))) (dB (dOp oEq (dArgs fLenSeq (dCons (dLc [6] (dIt itSeq (dVar 5)) (gN 6) (dB (dOp (oIn false) (dVar 6) (dVar 2))) (dVar 6)) (dNil))) (dArgs fLenSeq (dCons (dVar 5) (dNil))))) τ) S (partB l.2 o.2) := by
  refine .of_eq (.and (.b (.op (.args1 (.var h5) (.len (seq_ref ho))) (.args1 (.var h2) (.len (seq_ref hl))) .lt)) fun _ => .b (.op (.argsL (zs := nats (o.2.filter l.2.contains)) ?_ fun k S1 p hk => .len (seq_ref hk)) (.args1 (.var h5) (.len (seq_ref ho))) .eqI)) ?_
  · exact El.lc o.2 (fun k => .int (k : Nat)) (fun k => l.2.contains k) (fun k => .int (k : Nat)) (Ei.seqR (.var h5) ho) (by omega) fun k hk => ⟨_, rfl, .b (.of_eq (.op (.var (hw6 _)) (.var (hw _)) (Ev.oin (seq_ref hl))) (by simp)), fun _ => .var (hw6 _)⟩
  · simp only [partB, nats_len]
    congr 1
    · rw [Bool.eq_iff_iff]; simp only [decide_eq_true_eq]; omega
    · rw [Bool.eq_iff_iff]; simp only [decide_eq_true_eq]; omega
theorem ev_least (h : Rows S x M n) (q : Sq M n) : Ev (d__law_least_closed [x]) S (.tup ((headsM M n).map lotD)) := by
  refine Ev.fn fun S0 p0 => ?_
  have h0 := h.mono p0
  have hn := q.hi
  have h64 := q.pow
  -- the closed lots
  obtain ⟨r, S1, e1, p1, d, ps, rfl, hd, hz, hps⟩ := (Ey.args (τ := [some x, none, none, none, none, none, none]) (dd := dCons (dArgs fLenSeq (dCons (dVar 0) (dNil))) (dNil)) (.cons (.args1 (.var rfl) h0.len) .nil) (ey_lots (S := S0) hn)) S0 (List.prefix_refl _)
  have hbits : ∀ z ∈ ps, (∀ k ∈ z.2, k < n) ∧ z.2.length ≤ 6 := fun z hz => by
    have : z.2 ∈ lots n := by rw [← hps]; exact List.mem_map_of_mem hz
    have h1 := lots_small _ _ this
    rw [lots_places n q.lo q.hi] at this
    simp only [List.mem_map, List.mem_range] at this
    obtain ⟨m, hm, e⟩ := this
    exact ⟨fun k hk => places_lt hm (by rw [e]; exact hk), by omega⟩
  have hlen : ps.length ≤ 64 := by
    have := congrArg List.length hps
    rw [List.length_map, lots_len] at this
    omega
  obtain ⟨c, S2, e2, p2, hc, lc⟩ := keep_lc (gd := lstIs d (refs ps)) (g := gN 2) (t := dTru (dArgs d__law_closed (dCons (dVar 0) (dCons (dVar 2) (dNil))))) (e := dVar 2) (τw := [some x, none, none, none, none, none, none]) (S0 := S1) (inj := fun z : Nat × List Nat => .ref z.1) (tf := fun z => closedB M n z.2) ps (fun S3 q => lstIs_of (pre_get q hd)) fun z hzm => ⟨_, rfl, .truB (.args (.cons (.var rfl) (.cons (.var rfl) .nil)) (ev_closed (h0.mono p1) q (hz z hzm) (hbits z hzm).1)), .var rfl⟩
  refine Wn.seq ⟨?_⟩
  have e3 : sSet 1 (dLc [2] (dIt itSeq (dArgs d__law_lots (dCons (dArgs fLenSeq (dCons (dVar 0) (dNil))) (dNil)))) (gN 2) (dTru (dArgs d__law_closed (dCons (dVar 0) (dCons (dVar 2) (dNil))))) (dVar 2)) [some x, none, none, none, none, none, none] S0 =
      .nx [some x, some (.ref c), none, none, none, none, none] S2 := by
    simp only [sSet, dLc, dIt, e1, R.bind, itSeq, itOf, lst_ref hd]
    rw [if_pos (by simp [refs]; omega)]
    rw [show wipeD [some x, none, none, none, none, none, none] [2] = [some x, none, none, none, none, none, none] from rfl, show refs ps = ps.map (fun z : Nat × List Nat => .ref z.1) from rfl]
    rw [show refs ps = ps.map (fun z : Nat × List Nat => .ref z.1) from rfl] at e2
    rw [e2]
    rfl
  erw [e3]
  generalize hqs : ps.filter (fun z => closedB M n z.2) = qs at hc
  have hqz : Zin S2 qs := fun z hzm => pre_get p2 (hz z (by rw [← hqs] at hzm; exact (List.mem_filter.mp hzm).1))
  have hqb : ∀ z ∈ qs, z.2.length ≤ 6 ∧ z.2 ≠ [] := fun z hzm => by
    rw [← hqs] at hzm
    obtain ⟨a, b⟩ := List.mem_filter.mp hzm
    exact ⟨(hbits z a).2, (closedB_iff.mp b).2⟩
  have hqm : qs.map Prod.snd = cz M n := by
    rw [← hqs, cz, ← hps, List.filter_map]; rfl
  have hql : qs.length ≤ 64 := by rw [← hqs]; exact Nat.le_trans (List.length_filter_le _ _) hlen
  have p02 := p1.trans p2
  refine Wn.seq (Wn.setL (S0 := S2) (xs := []) (List.prefix_refl _) (.args .nil (.mk (by simp))) fun t S3 p3 ht lt => ?_)
  have hct : c ≠ t := fun z => by subst z; exact absurd (get_lt hc) (by omega)
  refine Wn.seq (Wn.for (κ := Nat × List Nat) (ks := qs) (inj := fun z => .ref z.1) (gd := lstIs c (refs qs)) (S1 := S3)
    (P := fun l τ S' => ∃ (acc : List (List Nat)) (a b e f : Option D), τ = [some x, some (.ref c), a, some (.ref t), b, e, f] ∧ S2 <+: S' ∧ S'[t]? = some (.lst (acc.map fun z => .tup (nats z))) ∧ (∀ z ∈ l, z ∈ qs) ∧ acc ++ ((l.map Prod.snd).filter (minB M n)) = (cz M n).filter (minB M n) ∧ acc.length + l.length ≤ 64)
    ?_ ⟨[], none, none, none, none, rfl, p3, ht, fun z hz => hz, by rw [List.nil_append, hqm], by simpa using hql⟩ ?_ ?_ ?_)
  · have := pre_get p3 hc
    show R.bind ((dVar 1) [some x, some (.ref c), none, some (.ref t), none, none, none] S3) itSeq = _
    simp only [dVar, List.getElem?_cons_succ, List.getElem?_cons_zero, R.bind, itSeq, itOf, lst_ref this]
    rfl
  · rintro l τ S4 ⟨acc, a, b, e, f, _, p4, _⟩
    exact lstIs_of (pre_get p4 hc)
  · rintro τ S4 ⟨acc, a, b, e, f, rfl, p4, ht4, -, hacc, -⟩
    have hacc' : acc = (cz M n).filter (minB M n) := by simpa using hacc
    refine Wn.ret (S0 := S4) (List.prefix_refl _) (v := .tup ((headsM M n).map lotD)) ?_ fun S5 p5 => ⟨S5, rfl, (p02.trans p4).trans p5⟩
    refine .argsL (zs := (headsM M n).map lotD) ?_ fun k S5 p5 hk => .ftup (lst_ref hk)
    have e1 : (headsM M n).map lotD = (sortT (((cz M n).filter (minB M n)).map zs)).map tupD := by
      rw [least_heads q, List.map_map]
      refine List.map_congr_left fun m _ => ?_
      simp [lotD, tupD, nats_zs]
    rw [e1]
    refine El.args (.cons (.var rfl) .nil) (El.fsortT ?_ fun b hb => ?_)
    · rw [lst_ref ht4, hacc', List.map_map]
      congr 1
      refine List.map_congr_left fun m _ => ?_
      simp [tupD, nats_zs]
    · obtain ⟨l, hl, rfl⟩ := List.mem_map.mp hb
      have := (List.mem_filter.mp (List.mem_filter.mp hl).1).2
      have hne := (closedB_iff.mp this).2
      cases l with
      | nil => exact absurd rfl hne
      | cons a b => simp [zs]
  · rintro z l τ S4 ⟨acc, a, b, e, f, rfl, p4, ht4, hl, hacc, hlen4⟩
    have hzq := hl z (by simp)
    refine ⟨_, rfl, ?_⟩
    refine Wn.seq (Wn.set (S0 := S4) (List.prefix_refl _) .c fun S5 p5 => ?_)
    refine Wn.seq (Wn.for (κ := Nat × List Nat) (ks := qs) (inj := fun z => .ref z.1) (gd := lstIs c (refs qs)) (S1 := S5)
      (P := fun l' τ S' => ∃ (m : Nat) (e f : Option D), τ = [some x, some (.ref c), some (.ref z.1), some (.ref t), some (.int (m : Nat)), e, f] ∧ S5 <+: S' ∧ (∀ w ∈ l', w ∈ qs) ∧ (decide (m = 0) && !(l'.any fun w => partB z.2 w.2)) = minB M n z.2)
      ?_ ⟨0, e, f, rfl, List.prefix_refl _, fun w hw => hw, by rw [minB, ← hqm, List.any_map]; simp [Function.comp_def]⟩ ?_ ?_ ?_)
    · have := pre_get (p4.trans p5) hc
      show R.bind ((dVar 1) [some x, some (.ref c), some (.ref z.1), some (.ref t), some (.int 0), e, f] S5) itSeq = _
      simp only [dVar, List.getElem?_cons_succ, List.getElem?_cons_zero, R.bind, itSeq, itOf, lst_ref this]
      rfl
    · rintro l' τ S6 ⟨m, e6, f6, _, p6, _⟩
      exact lstIs_of (pre_get ((p4.trans p5).trans p6) hc)
    · rintro τ S6 ⟨m, e6, f6, rfl, p6, -, hm⟩
      have hm' : decide (m = 0) = minB M n z.2 := by simpa using hm
      have p46 := p5.trans p6
      refine Wn.if (S0 := S6) (List.prefix_refl _) (.b (.op (.var rfl) .c .eqI)) (fun hb S7 p7 => ?_) (fun hb S7 p7 => ?_)
      · have hmin : minB M n z.2 = true := by
          rw [← hm']; simp only [decide_eq_true_eq] at hb ⊢; omega
        have hz7 := pre_get ((p4.trans p46).trans p7) (hqz z hzq)
        have ht7 := pre_get (p46.trans p7) ht4
        simp only [List.length_cons] at hlen4
        refine Wn.append (S0 := S7) (v := .tup (nats z.2)) rfl (List.prefix_refl _) (.args1 (.var rfl) (.ftup (lst_ref hz7))) ht7 (by simp [bigL]; omega) fun S8 p8 ht8 => ⟨acc ++ [z.2], _, _, _, _, rfl, pre_set (((p4.trans p46).trans p7).trans p8) lt _, ?_, fun w hw => hl w (by simp [hw]), ?_, by simp; omega⟩
        · rw [List.map_append]; exact set_self ht8
        · rw [← hacc, List.map_cons, List.filter_cons, hmin]; simp
      · have hmin : minB M n z.2 = false := by
          rw [← hm']; simp only [decide_eq_false_iff_not] at hb ⊢; omega
        refine Wn.nil ⟨acc, _, _, _, _, rfl, (p4.trans p46).trans p7, pre_get (p46.trans p7) ht4, fun w hw => hl w (by simp [hw]), ?_, by simp at hlen4 ⊢; omega⟩
        rw [← hacc, List.map_cons, List.filter_cons, hmin]; simp
    · rintro w l' τ S6 ⟨m, e6, f6, rfl, p6, hl', hm⟩
      have hwq := hl' w (by simp)
      refine ⟨_, rfl, ?_⟩
      have hz6 := pre_get ((p4.trans p5).trans p6) (hqz z hzq)
      have hw6 := pre_get ((p4.trans p5).trans p6) (hqz w hwq)
      refine Wn.if (S0 := S6) (List.prefix_refl _) (part_ev hw6 hz6 rfl rfl (by have := hqb w hwq; omega) (fun _ => rfl) (fun _ => rfl)) (fun hb S7 p7 => ?_) (fun hb S7 p7 => ?_)
      · refine Wn.set (S0 := S7) (List.prefix_refl _) (.op (.var rfl) .c .add) fun S8 p8 => ⟨m + 1, _, _, rfl, (p6.trans p7).trans p8, fun v hv => hl' v (by simp [hv]), ?_⟩
        rw [← hm]
        simp [hb]
      · refine Wn.nil ⟨m, _, _, rfl, p6.trans p7, fun v hv => hl' v (by simp [hv]), ?_⟩
        rw [← hm]
        simp [hb]
end
end K01

set_option linter.all false
set_option maxRecDepth 100000
namespace K01
open DL
def Pool (p : Nat) (S : Sto) : Prop := ∃ ks : List Int, S[p]? = some (.lst (ks.map .int)) ∧ ks.length ≤ 5000
structure Pr (p : Nat) (S S' : Sto) : Prop where
  len : S.length ≤ S'.length
  keep : ∀ (m : Nat) (o : SO), m ≠ p → S[m]? = some o → S'[m]? = some o
  pool : Pool p S'
theorem Pr.trans {p : Nat} {S S1 S2 : Sto} (a : Pr p S S1) (b : Pr p S1 S2) : Pr p S S2 := ⟨Nat.le_trans a.len b.len, fun m o h e => b.keep m o h (a.keep m o h e), b.pool⟩
theorem Pool.pre {p : Nat} {S S' : Sto} (h : Pool p S) (q : S <+: S') : Pr p S S' := ⟨pre_len q, fun m o _ e => pre_get q e, by obtain ⟨ks, a, b⟩ := h; exact ⟨ks, pre_get q a, b⟩⟩
theorem Pool.set {p : Nat} {S : Sto} (h : Pool p S) (ks : List Int) (hk : ks.length ≤ 5000) : Pr p S (DL.setL p (ks.map .int) S) := by
  obtain ⟨js, a, b⟩ := h
  exact ⟨by simp [DL.setL], fun m o hm e => set_ne (fun z => hm z.symm) e, ks, set_self a, hk⟩
section
variable {S : Sto} {p : Nat}
theorem we_pick {many : Int} {Q : D → Sto → Prop} (h : Pool p S) (hm : 0 < many) (k : ∀ r S', Pr p S S' → 0 ≤ r → r < many → Q (.int r) S') : We (d__law_pick [.ref p, .int many] S) Q := by
  obtain ⟨ks, hp, hk⟩ := h
  refine We.fn (Wn.seq (Wn.if (S0 := S) (List.prefix_refl _) (.b (.op (.args1 (.var rfl) (.len (seq_ref hp))) .c .eqI)) (fun hb S1 p1 => ?_) fun hb S1 p1 => Wn.nil ?_))
  · exact Wn.ret (S0 := S) p1 .c fun S2 p2 => ⟨_, S2, rfl, k 0 S2 (Pool.pre ⟨ks, hp, hk⟩ (p1.trans p2)) (Int.le_refl _) hm⟩
  · have hp1 := pre_get p1 hp
    have hne : ks ≠ [] := fun z => by subst z; simp at hb
    obtain ⟨js, i, rfl⟩ : ∃ js i, ks = js ++ [i] := ⟨ks.dropLast, ks.getLast hne, (List.dropLast_concat_getLast hne).symm⟩
    have e3 : mPop (.ref p) [] S1 = .ok (.int i) (DL.setL p (js.map .int) S1) := by
      simp only [mPop, lst_ref hp1]
      simp
    have e2 : isL S1 (.ref p) = true := by simp [isL, lst_ref hp1]
    refine Wn.retW (.op (.args (.cons ?_)))
    refine ⟨⟨.int i, DL.setL p (js.map .int) S1, ?_, .nil ?_⟩⟩
    · show dMeth mPop (dVar 0) dNil [some (.ref p), some (.int many)] S1 = _
      simp only [dMeth, dVar, List.getElem?_cons_zero, R.bind, e2, if_true, dNil, e3]
    · refine .ev .fint fun S2 p2 => .var rfl (.ev (.mod hm) fun S3 p3 => ⟨_, S3, rfl, k _ S3 ?_ (Int.emod_nonneg _ (by omega)) (Int.emod_lt_of_pos _ hm)⟩)
      have hs := Pool.set (S := S1) ⟨_, hp1, hk⟩ js (by simp at hk; omega)
      exact (Pool.pre ⟨_, hp, hk⟩ p1).trans (hs.trans (hs.pool.pre (p2.trans p3)))
theorem consts_ix {is : List Int} {r : Int} {S : Sto} {t : Nat} (hS : S[t]? = some (.lst (is.map .int))) (h0 : 0 ≤ r) (h1 : r < is.length) : Ev (oIx (.ref t) (.int r)) S (.int (is.getD r.toNat 0)) := by
  obtain ⟨k, rfl⟩ := Int.eq_ofNat_of_zero_le h0
  exact .ix (seq_ref hS) (getI (by simpa using h1))
theorem pool_ne {t : Nat} (h : Pool p S) (l : S.length ≤ t) : t ≠ p := fun z => by
  subst z; obtain ⟨ks, a, _⟩ := h; have := get_lt a; omega
theorem we_rate {Q : D → Sto → Prop} (h : Pool p S) (k : ∀ r S', Pr p S S' → 0 < r → Q (.int r) S') : We (d__law_rate [.ref p] S) Q := by
  refine We.fn (Wn.seq (Wn.setW (.args (.cons (.var rfl (.cons (.c (.nil ?_))))))))
  refine we_pick h (by decide) fun r S1 h1 r0 r1 => ?_
  refine Wn.seq (Wn.if (S0 := S1) (List.prefix_refl _) (.b (.op (.var rfl) .c .eqI)) (fun hb S2 p2 => ?_) fun hb S2 p2 => Wn.nil ?_)
  · refine Wn.retW (.op (.c (.op (.c (.args (.cons (.var rfl (.cons (.c (.nil ?_)))))))))) 
    refine we_pick (h1.pool.pre p2).pool (by decide) fun r' S3 h3 r0' r1' => ?_
    refine .ev (.mul (mulOk_small (by decide) (by omega))) fun S4 p4 => .ev .add fun S5 p5 => ⟨_, S5, rfl, k _ S5 (h1.trans ((h1.pool.pre p2).trans (h3.trans (h3.pool.pre (p4.trans p5))))) (by omega)⟩
  · refine Wn.retW (.op ?_)
    refine .el (El.args (xs := [.int 1, .int 2, .int 1, .int 3, .int 1, .int 5, .int 2, .int 7, .int 9, .int 4, .int 1]) (.cons .c (.cons .c (.cons .c (.cons .c (.cons .c (.cons .c (.cons .c (.cons .c (.cons .c (.cons .c (.cons .c .nil))))))))))) (.mk (by simp))) fun t S3 p3 ht lt => .var rfl ?_
    have hr : r < 11 := by simp at hb; omega
    refine .ev (consts_ix (is := [1, 2, 1, 3, 1, 5, 2, 7, 9, 4, 1]) ht r0 (by simpa using hr)) fun S4 p4 => ⟨_, S4, rfl, k _ S4 (h1.trans (h1.pool.pre ((p2.trans p3).trans p4))) ?_⟩
    have : ∀ m : Nat, m < 11 → 0 < ([1, 2, 1, 3, 1, 5, 2, 7, 9, 4, 1] : List Int).getD m 0 := by decide
    exact this _ (by omega)
end
end K01

set_option linter.all false
set_option maxRecDepth 100000
namespace K01
open DL
section
variable {S : Sto} {p : Nat}
theorem ey_pool {ns : List Int} (hl : ns.length ≤ 63) (hb : ∀ z ∈ ns, PySem.Builtin.Int.intBits z ≤ 1048576) : Ey (d__law_pool [.scr ns]) S fun r S' => ∃ p, r = .ref p ∧ Pool p S' := by
  refine Ey.fn fun S0 p0 => ?_
  refine Wn.seq (Wn.setL (S0 := S0) (List.prefix_refl _) (xs := []) (.args .nil (.mk (by simp))) fun p S1 p1 hp lp => ?_)
  refine Wn.seq (Wn.forR (κ := Nat) (ks := List.range ns.length) (inj := fun k => .int (k : Nat)) (S0 := S1)
    (P := fun l τ S' => ∃ (ks : List Int) (a b c d : Option D), τ = [some (.scr ns), some (.ref p), a, b, c, d] ∧ S0 <+: S' ∧ S'[p]? = some (.lst (ks.map .int)) ∧ ks.length + 50 * l.length ≤ 5000 ∧ ∀ k ∈ l, k < ns.length)
    (List.prefix_refl _) (Er.r1 (.of_eq (.cons (.args (.cons .c (.cons (.args1 (.var rfl) (.len (xs := ns.map .int) rfl)) .nil)) .min2) .nil) (by simp; omega)) (by omega)) (fun S2 p2 => ⟨[], none, none, none, none, rfl, p1.trans p2, pre_get p2 hp, by simp; omega, fun k hk => List.mem_range.mp hk⟩) ?_ ?_)
  · rintro τ S2 ⟨ks, a, b, c, d, rfl, p2, hp2, hks, -⟩
    -- reverse
    refine Wn.seq ⟨?_⟩
    have e1 : sExpr (dMeth mReverse (dVar 1) dNil) [some (.scr ns), some (.ref p), a, b, c, d] S2 = .nx [some (.scr ns), some (.ref p), a, b, c, d] (DL.setL p (ks.reverse.map .int) S2) := by
      have e2 : isL S2 (.ref p) = true := by simp [isL, lst_ref hp2]
      simp only [sExpr, dMeth, dVar, List.getElem?_cons_succ, List.getElem?_cons_zero, R.bind, e2, if_true, dNil, mReverse, lst_ref hp2, R.go, List.map_reverse]
    rw [e1]
    refine Wn.ret (S0 := DL.setL p (ks.reverse.map .int) S2) (List.prefix_refl _) (.var rfl) fun S3 p3 => ⟨_, S3, rfl, (pre_set p2 lp _).trans p3, p, rfl, ks.reverse, pre_get p3 (set_self hp2), ?_⟩
    simp at hks ⊢; omega
  · rintro at' l τ S2 ⟨ks, a, b, c, d, rfl, p2, hp2, hks, hl'⟩
    have hat := hl' at' (by simp)
    refine ⟨_, rfl, ?_⟩
    have hcell : PySem.Builtin.Int.intBits (ns.getD at' 0) ≤ 1048576 := hb _ (by rw [List.getD_eq_getElem?_getD, List.getElem?_eq_getElem hat]; simp)
    generalize hcv : ns.getD at' 0 = cell at hcell
    refine Wn.seq (Wn.set (S0 := S2) (List.prefix_refl _) (.args1 (.op (.var rfl) (.var rfl) (.ix (xs := ns.map .int) rfl (getI hat))) .fint) fun S3 p3 => ?_)
    rw [hcv]
    have hm2 : mulOk 2 cell = true := by
      have : PySem.Builtin.Int.intBits 2 ≤ 2 := by decide
      simp only [mulOk, decide_eq_true_eq]; omega
    -- the cell, made positive
    refine Wn.seq (Wn.imp (Q := fun r => ∃ (S4 : Sto) (v : Int), r = .nx [some (.scr ns), some (.ref p), some (.int (at' : Nat)), some (.int v), c, d] S4 ∧ S2 <+: S4 ∧ 0 ≤ v) ?_ ?_)
    · refine Wn.if (S0 := S3) (List.prefix_refl _) (.b (.op (.var rfl) .c .lt)) (fun hb S4 p4 => ?_) fun hb S4 p4 => Wn.nil ⟨S4, _, rfl, p3.trans p4, by simp only [decide_eq_false_iff_not] at hb; omega⟩
      refine Wn.set (S0 := S4) (List.prefix_refl _) (.op .c (.op .c (.var rfl) (.mul hm2)) .sub) fun S5 p5 => ⟨S5, _, rfl, (p3.trans p4).trans p5, by simp only [decide_eq_true_eq] at hb; omega⟩
    · rintro r ⟨S4, v, rfl, p4, hv⟩
      have hp4 := pre_get p4 hp2
      show Wn _ (sIf _ _ _ _ S4)
      refine Wn.if (S0 := S4) (b := decide ((10 : Int) ^ 18 ≤ v)) (List.prefix_refl _) (.b (.op (.var rfl) (.op .c .c (.pow (by decide))) .ge)) (fun hb S5 p5 => ?_) (fun hb S5 p5 => ?_)
      · refine Wn.forR (κ := Nat) (ks := List.range 50) (inj := fun k => .int (k : Nat)) (S0 := S5)
          (P := fun l' τ S' => ∃ (js : List Int) (v : Int) (c : Option D), τ = [some (.scr ns), some (.ref p), some (.int (at' : Nat)), some (.int v), c, d] ∧ S0 <+: S' ∧ S'[p]? = some (.lst (js.map .int)) ∧ js.length + l'.length + 50 * l.length ≤ 5000)
          (List.prefix_refl _) (Er.r1 (.cons .c .nil) (by omega)) (fun S6 p6 => ⟨ks, v, c, rfl, ((p2.trans p4).trans p5).trans p6, pre_get (p5.trans p6) hp4, by simp at hks ⊢; omega⟩) ?_ ?_
        · rintro τ S6 ⟨js, v6, c6, rfl, p6, hp6, hj⟩
          exact ⟨js, _, _, _, _, rfl, p6, hp6, by simpa using hj, fun k hk => hl' k (by simp [hk])⟩
        · rintro k l' τ S6 ⟨js, v6, c6, rfl, p6, hp6, hj⟩
          refine ⟨_, rfl, ?_⟩
          simp only [List.length_cons] at hj
          refine Wn.if (S0 := S6) (List.prefix_refl _) (.b (.op (.var rfl) .c .gt)) (fun hb S7 p7 => ?_) fun hb S7 p7 => Wn.nil ⟨js, v6, _, rfl, p6.trans p7, pre_get p7 hp6, by omega⟩
          refine Wn.seq (Wn.append (S0 := S7) rfl (List.prefix_refl _) (.op (.args1 (.var rfl) .fint) .c (.mod (by decide))) (pre_get p7 hp6) (by simp [bigL]; omega) fun S8 p8 hp8 => ?_)
          refine Wn.set (S0 := DL.setL p (js.map D.int ++ [D.int (v6 % 30)]) S8) (List.prefix_refl _) (.op (.var rfl) .c (.fdiv (show decide (0 < (30 : Int) ∧ (30 : Int).natAbs.log2 < 9000) = true by decide))) fun S9 p9 => ⟨js ++ [v6 % 30], _, _, rfl, (pre_set ((p6.trans p7).trans p8) lp _).trans p9, ?_, by simp; omega⟩
          rw [List.map_append]; exact pre_get p9 (set_self hp8)
      · have hv18 : v < 1000000000000000000 := by
          have e : (10 : Int) ^ 18 = 1000000000000000000 := by decide
          simp only [decide_eq_false_iff_not, e] at hb; omega
        refine Wn.seq (Wn.set (S0 := S5) (List.prefix_refl _) (.op (.args1 (.op (.op (.op (.var rfl) .c (.mul (mulOk_small (by omega) (by decide)))) (.op (.var rfl) .c (.mul (mulOk_small (by omega) (by decide)))) .add) .c .add) .fint) .c (.mod (by decide))) fun S6 p6 => ?_)
        generalize hmx : (v * 39373 + ((at' : Nat) : Int) * 10007 + 17) % 1000003 = m0
        have hm0 : 0 ≤ m0 ∧ m0 < 1000037 := by omega
        refine Wn.forR (κ := Nat) (ks := List.range 6) (inj := fun k => .int (k : Nat)) (S0 := S6)
          (P := fun l' τ S' => ∃ (js : List Int) (m : Int) (c : Option D), τ = [some (.scr ns), some (.ref p), some (.int (at' : Nat)), some (.int v), c, some (.int m)] ∧ S0 <+: S' ∧ S'[p]? = some (.lst (js.map .int)) ∧ js.length + l'.length + 50 * l.length ≤ 5000 ∧ 0 ≤ m ∧ m < 1000037 ∧ ∀ k ∈ l', k < 6)
          (List.prefix_refl _) (Er.r1 (.cons .c .nil) (by omega)) (fun S7 p7 => ⟨ks, m0, c, rfl, (((p2.trans p4).trans p5).trans p6).trans p7, pre_get ((p5.trans p6).trans p7) hp4, by simp at hks ⊢; omega, hm0.1, hm0.2, fun k hk => List.mem_range.mp hk⟩) ?_ ?_
        · rintro τ S7 ⟨js, m, c7, rfl, p7, hp7, hj, -⟩
          exact ⟨js, _, _, _, _, rfl, p7, hp7, by simpa using hj, fun k hk => hl' k (by simp [hk])⟩
        · rintro k l' τ S7 ⟨js, m, c7, rfl, p7, hp7, hj, m0', m1', hk⟩
          have hk6 := hk k (by simp)
          refine ⟨_, rfl, ?_⟩
          simp only [List.length_cons] at hj
          refine Wn.seq (Wn.set (S0 := S7) (List.prefix_refl _) (.op (.args1 (.op (.op (.op (.var rfl) (.var rfl) (.mul (mulOk_small (by omega) (by omega)))) (.op (.op (.var rfl) .c .add) .c (.mul (mulOk_small (by omega) (by decide)))) .add) (.var rfl) .add) .fint) .c (.mod (by decide))) fun S8 p8 => ?_)
          generalize hmy : (m * m + ((k : Nat) + 3) * 7919 + v) % 1000033 = m2
          have hm2' : 0 ≤ m2 ∧ m2 < 1000033 := by
            rw [← hmy]; exact ⟨Int.emod_nonneg _ (by decide), Int.emod_lt_of_pos _ (by decide)⟩
          refine Wn.seq (Wn.set (S0 := S8) (List.prefix_refl _) (.op (.args1 (.op (.op (.op (.var rfl) .c (.mul (mulOk_small (by omega) (by decide)))) (.var rfl) .add) (.var rfl) .add) .fint) .c (.mod (by decide))) fun S9 p9 => ?_)
          generalize hmz : (m2 * 40014 + ((at' : Nat) : Int) + (k : Nat)) % 1000037 = m3
          have hm3 : 0 ≤ m3 ∧ m3 < 1000037 := by
            rw [← hmz]; exact ⟨Int.emod_nonneg _ (by decide), Int.emod_lt_of_pos _ (by decide)⟩
          refine Wn.append (S0 := S9) rfl (List.prefix_refl _) (.op (.var rfl) .c (.fdiv (show decide (0 < (5 : Int) ∧ (5 : Int).natAbs.log2 < 9000) = true by decide))) (pre_get (p8.trans p9) hp7) (by simp [bigL]; omega) fun S10 p10 hp10 => ⟨js ++ [m3 / 5], m3, _, rfl, pre_set (((p7.trans p8).trans p9).trans p10) lp _, ?_, by simp; omega, hm3.1, hm3.2, fun k hk' => hk k (by simp [hk'])⟩
          rw [List.map_append]; exact set_self hp10
end
end K01

set_option linter.all false
set_option maxRecDepth 100000
namespace K01
open DL
/-- a table of rows that may be written -/
structure Tab (S : Sto) (t : Nat) (rs : List Nat) (M : List (List Int)) : Prop where
  tab : S[t]? = some (.lst (rs.map .ref))
  len : rs.length = M.length
  nd : rs.Nodup
  nt : t ∉ rs
  row : ∀ i, i < M.length → S[rs.getD i 0]? = some (.lst ((M.getD i []).map .int))
section
variable {S S' : Sto} {p t : Nat} {rs : List Nat} {M : List (List Int)} {n : Nat}
theorem getD_mem {i : Nat} (h : i < rs.length) : rs.getD i 0 ∈ rs := by
  rw [List.getD_eq_getElem?_getD, List.getElem?_eq_getElem h]; simp
theorem Tab.mono (h : Tab S t rs M) (q : S <+: S') : Tab S' t rs M := ⟨pre_get q h.tab, h.len, h.nd, h.nt, fun i hi => pre_get q (h.row i hi)⟩
theorem Tab.pr (h : Tab S t rs M) (q : Pr p S S') (ht : t ≠ p) (hr : p ∉ rs) : Tab S' t rs M :=
  ⟨q.keep _ _ ht h.tab, h.len, h.nd, h.nt, fun i hi => q.keep _ _ (fun z => hr (z ▸ getD_mem (by rw [h.len]; exact hi))) (h.row i hi)⟩
theorem Tab.rows (h : Tab S t rs M) (hl : M.length = n) : Rows S (.ref t) M n := by
  refine ⟨_, seq_ref h.tab, by simp [h.len, hl], fun i hi => ⟨.ref (rs.getD i 0), ?_, seq_ref (h.row i (by omega))⟩⟩
  have : i < rs.length := by rw [h.len]; omega
  rw [List.getElem?_map, List.getElem?_eq_getElem this, List.getD_eq_getElem?_getD, List.getElem?_eq_getElem this]; rfl
theorem getD_setL {M : List (List Int)} {i k : Nat} {v : List Int} (hi : i < M.length) : (M.set i v).getD k [] = if i = k then v else M.getD k [] := by
  rw [List.getD_eq_getElem?_getD, List.getElem?_set, List.getD_eq_getElem?_getD]
  by_cases e : i = k
  · subst e; simp [hi]
  · simp [e]
theorem getD_inj {i k : Nat} (hd : rs.Nodup) (hi : i < rs.length) (hk : k < rs.length) (h : rs.getD i 0 = rs.getD k 0) : i = k := by
  rw [List.getD_eq_getElem?_getD, List.getD_eq_getElem?_getD, List.getElem?_eq_getElem hi, List.getElem?_eq_getElem hk] at h
  have h : rs[i] = rs[k] := h
  have hp := List.pairwise_iff_getElem.mp hd
  rcases Nat.lt_trichotomy i k with z | z | z
  · exact absurd h (hp i k hi hk z)
  · exact z
  · exact absurd h.symm (hp k i hk hi z)
theorem Tab.set (h : Tab S t rs M) {i : Nat} (hi : i < M.length) (row : List Int) : Tab (DL.setL (rs.getD i 0) (row.map .int) S) t rs (M.set i row) := by
  have hm := getD_mem (rs := rs) (i := i) (by rw [h.len]; exact hi)
  refine ⟨set_ne (fun z => h.nt (z ▸ hm)) h.tab, by simp [h.len], h.nd, h.nt, fun k hk => ?_⟩
  rw [List.length_set] at hk
  rw [getD_setL hi]
  by_cases e : i = k
  · subst e; rw [if_pos rfl]; exact set_self (h.row i hi)
  · rw [if_neg e]
    exact set_ne (fun z => e (getD_inj h.nd (by rw [h.len]; exact hi) (by rw [h.len]; exact hk) z)) (h.row k hk)
def zeros (n : Nat) : List (List Int) := List.replicate n (List.replicate n 0)
theorem ey_blank (hn : n ≤ 6) : ∀ S1 : Sto, ∃ t rs S2, d__law_blank [.int (n : Nat)] S1 = .ok (.ref t) S2 ∧ S1 <+: S2 ∧ S1.length ≤ t ∧ (∀ r ∈ rs, S1.length ≤ r) ∧ Tab S2 t rs (zeros n) := by
  intro S0
  have key : Wn (fun r => ∃ v S', r = .rt v S' ∧ ∃ t rs, v = .ref t ∧ S0 <+: S' ∧ S0.length ≤ t ∧ (∀ r ∈ rs, S0.length ≤ r) ∧ Tab S' t rs (zeros n)) (b__law_blank [some (.int (n : Nat)), none, none] S0) := by
    refine Wn.seq (Wn.setL (S0 := S0) (List.prefix_refl _) (xs := []) (.args .nil (.mk (by simp))) fun t S1 p1 ht lt => ?_)
    refine Wn.seq (Wn.forR (κ := Nat) (ks := List.range n) (inj := fun k => .int (k : Nat)) (S0 := S1)
      (P := fun l τ S' => ∃ (rs : List Nat) (a : Option D), τ = [some (.int (n : Nat)), some (.ref t), a] ∧ S0 <+: S' ∧ S'[t]? = some (.lst (rs.map .ref)) ∧ rs.length + l.length = n ∧ rs.Nodup ∧ (∀ r ∈ rs, t < r ∧ S'[r]? = some (.lst ((List.replicate n (0 : Int)).map .int))))
      (List.prefix_refl _) (Er.r1 (.cons (.var rfl) .nil) (by omega)) (fun S2 p2 => ⟨[], none, rfl, p1.trans p2, pre_get p2 ht, by simp, by simp, by simp⟩) ?_ ?_)
    · rintro τ S2 ⟨rs, a, rfl, p2, ht2, hl, hd, hr⟩
      refine Wn.ret (S0 := S2) (List.prefix_refl _) (.var rfl) fun S3 p3 => ⟨_, S3, rfl, t, rs, rfl, p2.trans p3, lt, fun r hr' => by have := (hr r hr').1; omega, pre_get p3 ht2, by simp [zeros] at hl ⊢; exact hl, hd, fun z => by have := (hr t z).1; omega, fun i hi => ?_⟩
      simp only [List.length_nil, Nat.add_zero] at hl
      simp only [zeros, List.length_replicate] at hi
      have := (hr _ (getD_mem (rs := rs) (i := i) (by omega))).2
      rw [pre_get p3 this]
      simp [zeros, List.getD_eq_getElem?_getD, hi]
    · rintro k l τ S2 ⟨rs, a, rfl, p2, ht2, hl, hd, hr⟩
      refine ⟨_, rfl, ⟨?_⟩⟩
      simp only [List.length_cons] at hl
      have e1 : sExpr (dMeth mAppend (dVar 1) (dCons (dOp oMul (dArgs mkLst (dCons (dC (.int 0)) (dNil))) (dVar 0)) (dNil))) [some (.int (n : Nat)), some (.ref t), some (.int (k : Nat))] S2 =
          .nx [some (.int (n : Nat)), some (.ref t), some (.int (k : Nat))] (DL.setL t (rs.map .ref ++ [.ref (S2 ++ [SO.lst [D.int 0]]).length]) ((S2 ++ [SO.lst [D.int 0]]) ++ [SO.lst ((List.replicate n (0 : Int)).map .int)])) := by
        have e2 : isL S2 (.ref t) = true := by simp [isL, lst_ref ht2]
        have e3 : oMul (.ref S2.length) (.int (n : Nat)) (S2 ++ [SO.lst [D.int 0]]) = .ok (.ref (S2 ++ [SO.lst [D.int 0]]).length) ((S2 ++ [SO.lst [D.int 0]]) ++ [SO.lst ((List.replicate n (0 : Int)).map .int)]) := by
          simp only [oMul, lst_ref app_new]
          rw [if_pos (by simp [bigL]; omega)]
          simp only [newL, Int.toNat_natCast]
          congr 3
          simp [List.flatten_replicate_singleton]
        have ht4 : ((S2 ++ [SO.lst [D.int 0]]) ++ [SO.lst ((List.replicate n (0 : Int)).map .int)])[t]? = some (.lst (rs.map .ref)) := pre_get (by rw [List.append_assoc]; exact ⟨_, rfl⟩) ht2
        have e5 : mkLst [.int 0] S2 = .ok (.ref S2.length) (S2 ++ [SO.lst [D.int 0]]) := rfl
        simp only [sExpr, dMeth, dVar, List.getElem?_cons_succ, List.getElem?_cons_zero, R.bind, e2, if_true, dCons, dOp, dArgs, dC, dNil, e5, e3, mAppend, lst_ref ht4]
        rw [if_pos (by simp [bigL]; omega)]
        rfl
      show Aft _ _ (sExpr _ _ S2)
      erw [e1]
      have q4 : S2 <+: ((S2 ++ [SO.lst [D.int 0]]) ++ [SO.lst ((List.replicate n (0 : Int)).map .int)]) := by rw [List.append_assoc]; exact ⟨_, rfl⟩
      have htl := get_lt ht2
      refine ⟨rs ++ [(S2 ++ [SO.lst [D.int 0]]).length], _, rfl, pre_set (p2.trans q4) lt _, ?_, by simp; omega, ?_, fun r hr' => ?_⟩
      · rw [List.map_append]; exact set_self (pre_get q4 ht2)
      · refine List.nodup_append.mpr ⟨hd, by simp, fun a h1 b hb => ?_⟩
        simp only [List.mem_singleton] at hb; subst hb
        have := get_lt (hr a h1).2
        simp; omega
      · rcases List.mem_append.mp hr' with hr' | hr'
        · exact ⟨(hr r hr').1, set_ne (by have := (hr r hr').1; omega) (pre_get q4 (hr r hr').2)⟩
        · simp only [List.mem_singleton] at hr'; subst hr'
          exact ⟨by simp; omega, set_ne (by simp; omega) app_new⟩
  obtain ⟨v, S', e, t, rs, rfl, q1, q2, q3, q4⟩ := key.h
  exact ⟨t, rs, S', by simp only [d__law_blank, dFn]; rw [show (List.map some [D.int (n : Nat)] ++ List.replicate (3 - [D.int (n : Nat)].length) none) = [some (.int (n : Nat)), none, none] from rfl, e], q1, q2, q3, q4⟩
end
end K01

set_option linter.all false
set_option maxRecDepth 100000
namespace K01
open DL
section
variable {S S' : Sto} {τ : Env} {p t : Nat} {rs : List Nat} {M : List (List Int)} {n : Nat} {Q : Rs → Prop}
theorem Wn.putW {dv do' dk : DenE} (h : We (dv τ S) fun v S1 => ∃ d i xs, Ev (do' τ) S1 (.ref d) ∧ Ev (dk τ) S1 (.int (i : Nat)) ∧ S1[d]? = some (.lst xs) ∧ i < xs.length ∧ ∀ S2, S1 <+: S2 → Q (.nx τ (DL.setL d (xs.set i v) S2))) : Wn Q (sPut dv do' dk τ S) := by
  obtain ⟨v, S1, e1, d, i, xs, ho, hy, hd, hi, c⟩ := h.h
  obtain ⟨S2, e2, p2⟩ := ho S1 (List.prefix_refl _)
  obtain ⟨S3, e3, p3⟩ := hy S2 p2
  have hp := p2.trans p3
  have h1 : L2.ixN xs.length (i : Int) = some i := by
    simp only [L2.ixN]
    rw [if_pos (by omega)]
    simp [hi]
  simp only [sPut, e1, R.go, e2, e3, oPut, lst_ref (pre_get hp hd), h1]
  exact ⟨c S3 hp⟩
theorem Pr.write (h : Pr p S S') {d : Nat} (hd : S.length ≤ d) (hp : d ≠ p) (o : SO) : Pr p S (S'.set d o) := by
  refine ⟨by simpa using h.len, fun m o' hm e => set_ne (fun z => ?_) (h.keep m o' hm e), ?_⟩
  · subst z; have := get_lt e; omega
  · obtain ⟨ks, a, b⟩ := h.pool; exact ⟨ks, set_ne hp a, b⟩
/-- a square table of n rows -/
structure Sz (M : List (List Int)) (n : Nat) : Prop where
  len : M.length = n
  row : ∀ i, i < n → (M.getD i []).length = n
theorem Sz.sq (h : Sz M n) (lo : 2 ≤ n) (hi : n ≤ 6) : Sq M n := ⟨h.len, h.row, lo, hi⟩
theorem zeros_sz : Sz (zeros n) n := ⟨by simp [zeros], fun i hi => by simp [zeros, List.getD_eq_getElem?_getD, hi]⟩
theorem zeros_cell {i j : Nat} : cell (zeros n) i j = 0 := by
  simp only [cell, zeros, List.getD_eq_getElem?_getD, List.getElem?_replicate]
  by_cases h : i < n
  · by_cases h' : j < n <;> simp [h, h', List.getElem?_replicate]
  · simp [h]
def put (M : List (List Int)) (i j : Nat) (v : Int) : List (List Int) := M.set i ((M.getD i []).set j v)
theorem put_sz (h : Sz M n) {i j : Nat} {v : Int} (hi : i < n) : Sz (put M i j v) n := by
  have hl : i < M.length := by rw [h.len]; exact hi
  refine ⟨by simp [put, h.len], fun k hk => ?_⟩
  rw [put, getD_setL hl]
  by_cases e : i = k
  · rw [if_pos e, List.length_set]; exact h.row i hi
  · rw [if_neg e]; exact h.row k hk
theorem put_cell (h : Sz M n) {i j a b : Nat} {v : Int} (hi : i < n) (hj : j < n) : cell (put M i j v) a b = if a = i ∧ b = j then v else cell M a b := by
  have hl : i < M.length := by rw [h.len]; exact hi
  simp only [cell]
  rw [put, getD_setL hl]
  by_cases e : i = a
  · subst e
    rw [if_pos rfl, getD_set (by rw [h.row i hi]; exact hj)]
    by_cases e2 : j = b
    · subst e2; simp
    · have : ¬ b = j := fun z => e2 z.symm
      simp [e2, this]
  · have : ¬ a = i := fun z => e z.symm
    rw [if_neg e]
    simp [this]
def Good (M : List (List Int)) (n : Nat) : Prop := ∀ i j, 0 ≤ cell M i j ∧ (i = j → cell M i j = 0)
theorem Tab.put (h : Tab S t rs M) (hs : Sz M n) {i j : Nat} {v : Int} (hi : i < n) : Tab (DL.setL (rs.getD i 0) (((M.getD i []).map D.int).set j (.int v)) S) t rs (put M i j v) := by
  rw [set_mapI]; exact h.set (by rw [hs.len]; exact hi) _
theorem we_loose {Q : D → Sto → Prop} (h : Pool p S) (k : ∀ t rs M n S', Pr p S S' → Tab S' t rs M → Sq M n → Good M n → t ≠ p → p ∉ rs → Q (.ref t) S') : We (d__law_loose [.ref p] S) Q := by
  refine We.fn (Wn.seq (Wn.setW (.op ?_)))
  -- the size
  refine .el (El.args (xs := [.int 3, .int 2, .int 4, .int 5, .int 6, .int 3]) (.cons .c (.cons .c (.cons .c (.cons .c (.cons .c (.cons .c .nil)))))) (.mk (by simp))) fun c S1 p1 hc lc => ?_
  have P1 := h.pre p1
  refine .args (.cons (.var rfl (.cons (.c (.nil ?_)))))
  refine we_pick P1.pool (by decide) fun r S2 h2 r0 r1 => ?_
  have hc2 := h2.keep _ _ (pool_ne h lc) hc
  refine .ev (consts_ix (is := [3, 2, 4, 5, 6, 3]) hc2 r0 (by simpa using r1)) fun S3 p3 => ?_
  have P3 := (P1.trans h2).trans (h2.pool.pre p3)
  have hn : ∃ n : Nat, ([3, 2, 4, 5, 6, 3] : List Int).getD r.toNat 0 = (n : Nat) ∧ 2 ≤ n ∧ n ≤ 6 := by
    have : ∀ m : Nat, m < 6 → ∃ n : Nat, ([3, 2, 4, 5, 6, 3] : List Int).getD m 0 = (n : Nat) ∧ 2 ≤ n ∧ n ≤ 6 := by
      intro m hm
      have : m = 0 ∨ m = 1 ∨ m = 2 ∨ m = 3 ∨ m = 4 ∨ m = 5 := by omega
      rcases this with rfl | rfl | rfl | rfl | rfl | rfl
      · exact ⟨3, rfl, by omega, by omega⟩
      · exact ⟨2, rfl, by omega, by omega⟩
      · exact ⟨4, rfl, by omega, by omega⟩
      · exact ⟨5, rfl, by omega, by omega⟩
      · exact ⟨6, rfl, by omega, by omega⟩
      · exact ⟨3, rfl, by omega, by omega⟩
    exact this _ (by omega)
  obtain ⟨n, en, n2, n6⟩ := hn
  rw [en]
  -- thin and turned
  refine Wn.seq (Wn.setW (.op (.c (.args (.cons (.var rfl (.cons (.c (.nil ?_)))))))))
  refine we_pick P3.pool (by decide) fun thin S4 h4 _ _ => .ev .add fun S5 p5 => ?_
  have P5 := (P3.trans h4).trans (h4.pool.pre p5)
  generalize (1 : Int) + thin = thin'
  refine Wn.seq (Wn.setW (.op (.args (.cons (.var rfl (.cons (.c (.nil ?_))))))))
  refine we_pick P5.pool (by decide) fun tu S6 h6 _ _ => .c (.ev .eqI fun S7 p7 => ?_)
  have P7 := (P5.trans h6).trans (h6.pool.pre p7)
  generalize decide (tu = 1) = turned
  -- the blank table
  obtain ⟨t, rs, S8, e8, p8, lt, lrs, T8⟩ := ey_blank n6 S7
  refine Wn.seq (Wn.setW (.args (.cons (.var rfl (.nil ⟨⟨_, S8, e8, ?_⟩⟩)))))
  have P8 := P7.trans (P7.pool.pre p8)
  have htp : t ≠ p := pool_ne P7.pool lt
  have hrp : p ∉ rs := fun z => pool_ne P7.pool (lrs p z) rfl
  have lS := P7.len
  refine Wn.seq (Wn.forR (κ := Nat) (ks := List.range n) (inj := fun k => .int (k : Nat)) (S0 := S8)
    (P := fun l τ S' => ∃ (M : List (List Int)) (a b c : Option D), τ = [some (.ref p), some (.int (n : Nat)), some (.int thin'), some (.bl turned), some (.ref t), a, b, c] ∧ Pr p S S' ∧ Tab S' t rs M ∧ Sz M n ∧ Good M n ∧ ∀ k ∈ l, k < n)
    (List.prefix_refl _) (Er.r1 (.cons (.var rfl) .nil) (by omega)) (fun S9 p9 => ⟨zeros n, none, none, none, rfl, P8.trans (P8.pool.pre p9), T8.mono p9, zeros_sz, fun i j => by rw [zeros_cell]; simp, fun k hk => List.mem_range.mp hk⟩) ?_ ?_)
  · rintro τ S9 ⟨M, a, b, c, rfl, P9, T9, hs, hg, -⟩
    refine Wn.ret (S0 := S9) (List.prefix_refl _) (.var rfl) fun S10 p10 => ⟨_, S10, rfl, k t rs M n S10 (P9.trans (P9.pool.pre p10)) (T9.mono p10) (hs.sq n2 n6) hg htp hrp⟩
  · rintro i l τ S9 ⟨M, a, b, c, rfl, P9, T9, hs, hg, hl⟩
    have hi := hl i (by simp)
    refine ⟨_, rfl, ?_⟩
    have hil : i < rs.length := by rw [T9.len, hs.len]; exact hi
    have hrow : (rs.map D.ref)[i]? = some (.ref (rs.getD i 0)) := by
      rw [List.getElem?_map, List.getElem?_eq_getElem hil, List.getD_eq_getElem?_getD, List.getElem?_eq_getElem hil]; rfl
    have hmem := getD_mem (rs := rs) (i := i) hil
    refine Wn.seq (Wn.set (S0 := S9) (List.prefix_refl _) (.op (.var rfl) (.var rfl) (.ix (seq_ref T9.tab) hrow)) fun S10 p10 => ?_)
    refine Wn.forR (κ := Nat) (ks := List.range n) (inj := fun k => .int (k : Nat)) (S0 := S10)
      (P := fun l' τ S' => ∃ (M : List (List Int)) (c : Option D), τ = [some (.ref p), some (.int (n : Nat)), some (.int thin'), some (.bl turned), some (.ref t), some (.int (i : Nat)), some (.ref (rs.getD i 0)), c] ∧ Pr p S S' ∧ Tab S' t rs M ∧ Sz M n ∧ Good M n ∧ ∀ k ∈ l', k < n)
      (List.prefix_refl _) (Er.r1 (.cons (.var rfl) .nil) (by omega)) (fun S11 p11 => ⟨M, c, rfl, P9.trans (P9.pool.pre (p10.trans p11)), T9.mono (p10.trans p11), hs, hg, fun k hk => List.mem_range.mp hk⟩) ?_ ?_
    · rintro τ S11 ⟨M, c, rfl, P11, T11, hs, hg, -⟩
      exact ⟨M, _, _, _, rfl, P11, T11, hs, hg, fun k hk => hl k (by simp [hk])⟩
    · rintro j l' τ S11 ⟨M, c, rfl, P11, T11, hs, hg, hl'⟩
      have hj := hl' j (by simp)
      refine ⟨_, rfl, ?_⟩
      refine Wn.ifW (.and (.b (.op (.var rfl (.var rfl (.ev .neI fun S12 p12 => ⟨_, rfl, ?_⟩))))))
      have P12 := P11.trans (P11.pool.pre p12)
      have T12 := T11.mono p12
      refine ⟨fun hne => .b (.op (.var rfl (.op (.args (.cons (.var rfl (.cons (.c (.nil ?_)))))))) ), fun _ => ⟨fun z => (by cases z), fun _ => Wn.nil ⟨M, _, rfl, P12, T12, hs, hg, fun k hk => hl' k (by simp [hk])⟩⟩⟩
      refine we_pick P12.pool (by decide) fun v S13 h13 _ _ => .var rfl (.ev .ge fun S14 p14 => .ev .eqB fun S15 p15 => ⟨_, rfl, ?_⟩)
      have P15 := (P12.trans h13).trans (h13.pool.pre (p14.trans p15))
      have T15 := (T12.pr h13 htp hrp).mono (p14.trans p15)
      refine ⟨fun _ => Wn.putW (.args (.cons (.var rfl (.nil ?_)))), fun _ => Wn.nil ⟨M, _, rfl, P15, T15, hs, hg, fun k hk => hl' k (by simp [hk])⟩⟩
      refine we_rate P15.pool fun v S16 h16 v0 => ?_
      have T16 := T15.pr h16 htp hrp
      refine ⟨rs.getD i 0, j, (M.getD i []).map .int, .var rfl, .var rfl, T16.row i (by rw [hs.len]; exact hi), by rw [List.length_map, hs.row i hi]; exact hj, fun S17 p17 => ?_⟩
      have P17 := (P15.trans h16).trans (h16.pool.pre p17)
      have hne' : j ≠ i := by simp at hne; omega
      have lr := lrs _ hmem
      refine ⟨put M i j v, _, rfl, P17.write (by omega) (fun z => hrp (z ▸ hmem)) _, (T16.mono p17).put hs hi, put_sz hs hi, fun a b => ?_, fun k hk => hl' k (by simp [hk])⟩
      rw [put_cell hs hi hj]
      by_cases e : a = i ∧ b = j
      · rw [if_pos e]; exact ⟨by omega, fun z => by omega⟩
      · rw [if_neg e]; exact hg a b
theorem we_loud {Q : D → Sto → Prop} (h : Pool p S) (hT : Tab S t rs M) (q : Sq M n) (htp : t ≠ p) (hrp : p ∉ rs) (k : ∀ t' rs' L S', Pr p S S' → Tab S' t' rs' L → Sz L n → (∀ i j, 0 ≤ cell L i j ∧ (0 < cell L i j → i < n ∧ j < n ∧ adj M i j = true)) → Q (.ref t') S') : We (d__law_loud [.ref p, .ref t] S) Q := by
  have n6 := q.hi
  refine We.fn (Wn.seq (Wn.setW (.args (.cons (.ev (.args1 (.var rfl) (hT.rows q.len).len) fun S1 p1 => .nil ?_)))))
  obtain ⟨t', rs', S2, e2, p2, lt, lrs, T2⟩ := ey_blank n6 S1
  refine ⟨⟨_, S2, e2, ?_⟩⟩
  have P2 := h.pre (p1.trans p2)
  have hT2 := hT.mono (p1.trans p2)
  have h1 := (h.pre p1).pool
  have htp' : t' ≠ p := pool_ne h1 lt
  have hrp' : p ∉ rs' := fun z => pool_ne h1 (lrs p z) rfl
  have lS := pre_len p1
  -- the given table is another
  have apart : ∀ r, r ∈ rs' → r ≠ t ∧ r ∉ rs := fun r hr => by
    have l := lrs r hr
    have a := get_lt hT.tab
    refine ⟨by omega, fun z => ?_⟩
    obtain ⟨i, hi, e⟩ := List.getElem_of_mem z
    have := get_lt (hT.row i (by rw [← hT.len]; exact hi))
    rw [List.getD_eq_getElem?_getD, List.getElem?_eq_getElem hi] at this
    simp at this
    omega
  refine Wn.seq (Wn.forR (κ := Nat) (ks := List.range n) (inj := fun k => .int (k : Nat)) (S0 := S2)
    (P := fun l τ S' => ∃ (L : List (List Int)) (a b c : Option D), τ = [some (.ref p), some (.ref t), some (.ref t'), a, b, c] ∧ Pr p S S' ∧ Tab S' t rs M ∧ Tab S' t' rs' L ∧ Sz L n ∧ (∀ i j, 0 ≤ cell L i j ∧ (0 < cell L i j → i < n ∧ j < n ∧ adj M i j = true)) ∧ ∀ k ∈ l, k < n)
    (List.prefix_refl _) (Er.r1 (.cons (.args1 (.var rfl) (hT2.rows q.len).len) .nil) (by omega)) (fun S3 p3 => ⟨zeros n, none, none, none, rfl, P2.trans (P2.pool.pre p3), hT2.mono p3, T2.mono p3, zeros_sz, fun i j => by rw [zeros_cell]; simp, fun k hk => List.mem_range.mp hk⟩) ?_ ?_)
  · rintro τ S3 ⟨L, a, b, c, rfl, P3, hT3, T3, hs, hg, -⟩
    exact Wn.ret (S0 := S3) (List.prefix_refl _) (.var rfl) fun S4 p4 => ⟨_, S4, rfl, k t' rs' L S4 (P3.trans (P3.pool.pre p4)) (T3.mono p4) hs hg⟩
  · rintro i l τ S3 ⟨L, a, b, c, rfl, P3, hT3, T3, hs, hg, hl⟩
    have hi := hl i (by simp)
    have hil : i < rs'.length := by rw [T3.len, hs.len]; exact hi
    have hrow : (rs'.map D.ref)[i]? = some (.ref (rs'.getD i 0)) := by
      rw [List.getElem?_map, List.getElem?_eq_getElem hil, List.getD_eq_getElem?_getD, List.getElem?_eq_getElem hil]; rfl
    have hmem := getD_mem (rs := rs') (i := i) hil
    refine ⟨_, rfl, ?_⟩
    refine Wn.seq (Wn.set (S0 := S3) (List.prefix_refl _) (.op (.var rfl) (.var rfl) (.ix (seq_ref T3.tab) hrow)) fun S4 p4 => ?_)
    refine Wn.forR (κ := Nat) (ks := List.range n) (inj := fun k => .int (k : Nat)) (S0 := S4)
      (P := fun l' τ S' => ∃ (L : List (List Int)) (c : Option D), τ = [some (.ref p), some (.ref t), some (.ref t'), some (.int (i : Nat)), some (.ref (rs'.getD i 0)), c] ∧ Pr p S S' ∧ Tab S' t rs M ∧ Tab S' t' rs' L ∧ Sz L n ∧ (∀ i j, 0 ≤ cell L i j ∧ (0 < cell L i j → i < n ∧ j < n ∧ adj M i j = true)) ∧ ∀ k ∈ l', k < n)
      (List.prefix_refl _) (Er.r1 (.cons (.args1 (.var rfl) ((hT3.mono p4).rows q.len).len) .nil) (by omega)) (fun S5 p5 => ⟨L, c, rfl, P3.trans (P3.pool.pre (p4.trans p5)), hT3.mono (p4.trans p5), T3.mono (p4.trans p5), hs, hg, fun k hk => List.mem_range.mp hk⟩) ?_ ?_
    · rintro τ S5 ⟨L, c, rfl, P5, hT5, T5, hs, hg, -⟩
      exact ⟨L, _, _, _, rfl, P5, hT5, T5, hs, hg, fun k hk => hl k (by simp [hk])⟩
    · rintro j l' τ S5 ⟨L, c, rfl, P5, hT5, T5, hs, hg, hl'⟩
      have hj := hl' j (by simp)
      refine ⟨_, rfl, ?_⟩
      refine Wn.if (S0 := S5) (List.prefix_refl _) ((hT5.rows q.len).adj q (.var rfl) (.var rfl) (.var rfl) hi hj) (fun ha S6 p6 => ?_) fun _ S6 p6 => Wn.nil ⟨L, _, rfl, P5.trans (P5.pool.pre p6), hT5.mono p6, T5.mono p6, hs, hg, fun k hk => hl' k (by simp [hk])⟩
      refine Wn.putW (.op ?_)
      refine .el (El.args (xs := [.int 0, .int 1, .int 0, .int 2, .int 0, .int 7]) (.cons .c (.cons .c (.cons .c (.cons .c (.cons .c (.cons .c .nil)))))) (.mk (by simp))) fun cc S7 p7 hcc lcc => ?_
      have P7 := P5.trans (P5.pool.pre (p6.trans p7))
      have h6 := (P5.pool.pre p6).pool
      refine .args (.cons (.var rfl (.cons (.c (.nil ?_)))))
      refine we_pick P7.pool (by decide) fun r S8 h8 r0 r1 => ?_
      refine .ev (consts_ix (is := [0, 1, 0, 2, 0, 7]) (h8.keep _ _ (pool_ne h6 lcc) hcc) r0 (by simpa using r1)) fun S9 p9 => ?_
      have hv : 0 ≤ ([0, 1, 0, 2, 0, 7] : List Int).getD r.toNat 0 := by
        have : ∀ m : Nat, m < 6 → 0 ≤ ([0, 1, 0, 2, 0, 7] : List Int).getD m 0 := by decide
        exact this _ (by omega)
      generalize ([0, 1, 0, 2, 0, 7] : List Int).getD r.toNat 0 = v at hv
      have P9 := (P7.trans h8).trans (h8.pool.pre p9)
      have T9 := ((T5.mono (p6.trans p7)).pr h8 htp' hrp').mono p9
      have hT9 := ((hT5.mono (p6.trans p7)).pr h8 htp hrp).mono p9
      refine ⟨rs'.getD i 0, j, (L.getD i []).map .int, .var rfl, .var rfl, T9.row i (by rw [hs.len]; exact hi), by rw [List.length_map, hs.row i hi]; exact hj, fun S10 p10 => ?_⟩
      have P10 := P9.trans (P9.pool.pre p10)
      have lr := lrs _ hmem
      obtain ⟨ap1, ap2⟩ := apart _ hmem
      have hT10 := hT9.mono p10
      refine ⟨put L i j v, _, rfl, P10.write (by omega) (fun z => hrp' (z ▸ hmem)) _, ⟨set_ne ap1 hT10.tab, hT10.len, hT10.nd, hT10.nt, fun a ha' => set_ne (fun z => ap2 (z ▸ getD_mem (by rw [hT10.len]; exact ha'))) (hT10.row a ha')⟩, (T9.mono p10).put hs hi, put_sz hs hi, fun a b => ?_, fun k hk => hl' k (by simp [hk])⟩
      rw [put_cell hs hi hj]
      by_cases e : a = i ∧ b = j
      · rw [if_pos e]; exact ⟨hv, fun _ => by rw [e.1, e.2]; exact ⟨hi, hj, ha⟩⟩
      · rw [if_neg e]; exact hg a b
end
end K01

set_option linter.all false
set_option maxRecDepth 100000
namespace K01
open DL
section
variable {S S' : Sto} {τ : Env} {p t : Nat} {rs : List Nat} {M L : List (List Int)} {n : Nat}
theorem Ei.enum {dd : DenA} {m : Nat} {xs : List D} (h : Ev (dd τ) S [.ref m]) (hm : S[m]? = some (.lst xs)) : Ei (dItA itEnum dd τ) S (xs.zipIdx.map fun z => .tup [.int (z.2 : Nat), z.1]) := fun S1 q => by
  obtain ⟨S2, e, q2⟩ := h S1 q
  have g := pre_get (q.trans q2) hm
  exact ⟨lstIs m xs, S2, by simp only [dItA, e, R.bind, itEnum, lst_ref g], q2, fun _ r => lstIs_of (pre_get r g)⟩
/-- a row that the program takes -/
theorem ev_row {m at' : Nat} {row : List Int} {above : D} (hm : S[m]? = some (.lst (row.map .int))) (hl : row.length = n) (h6 : n ≤ 6) (h0 : ∀ k, k < n → 0 ≤ row.getD k 0 ∧ (k = at' → row.getD k 0 = 0))
    (hab : above = .non ∨ ∃ us : List Int, above = .tup (us.map .int) ∧ us.length = n ∧ ∀ k, k < n → 0 < row.getD k 0 → us.getD k 0 ≠ 0) :
    Ev (d__worlds_row [.ref m, .int (n : Nat), .int (at' : Nat), above]) S (.tup (row.map .int)) := by
  refine Ev.fn fun S0 p0 => ?_
  have hm0 := pre_get p0 hm
  have hty : ∀ S1, S0 <+: S1 → fIsi ["tuple", "list"] (.ref m) S1 = .ok (.bl true) S1 := fun S1 p1 => by
    have := pre_get p1 hm0
    simp [fIsi, tyD, this, clNames, isB]
  refine Wn.seq (Wn.if (S0 := S0) (List.prefix_refl _) (.or (.not (.truB (.un (.var rfl) (.pure hty)))) fun _ => .b (.op (.args1 (.var rfl) (.len (seq_ref hm0))) (.var rfl) .neI)) (fun hb => ?_) fun _ S1 p1 => Wn.nil ?_)
  · exfalso; simp [hl] at hb
  refine Wn.seq (Wn.forP (κ := Int × Nat) (ks := row.zipIdx) (inj := fun z => .tup [.int (z.2 : Nat), .int z.1]) (S0 := S0)
    (P := fun l τ => ∃ a b, τ = [some (.ref m), some (.int (n : Nat)), some (.int (at' : Nat)), some above, a, b] ∧ ∀ z ∈ l, z.2 < n ∧ z.1 = row.getD z.2 0)
    p1 ?_ ⟨none, none, rfl, fun z hz => ?_⟩ ?_ ?_)
  · have := Ei.enum (τ := [some (.ref m), some (.int (n : Nat)), some (.int (at' : Nat)), some above, none, none]) (dd := dCons (dVar 0) (dNil)) (.cons (.var rfl) .nil) hm0
    rw [List.zipIdx_map, List.map_map] at this
    exact this
  · have := List.mem_zipIdx' hz
    exact ⟨by omega, by rw [List.getD_eq_getElem?_getD, List.getElem?_eq_getElem this.1]; exact this.2⟩
  · rintro τ S2 p2 ⟨a, b, rfl, -⟩
    exact Wn.ret (S0 := S0) (p1.trans p2) (.args1 (.var rfl) (.ftup (lst_ref hm0))) fun S3 p3 => ⟨S3, rfl, (p1.trans p2).trans p3⟩
  · rintro ⟨v, k⟩ l τ S2 p2 ⟨a, b, rfl, hl'⟩
    obtain ⟨hk, hv⟩ := hl' (v, k) (by simp)
    simp only at hk hv
    have hr := h0 k hk
    rw [← hv] at hr
    refine ⟨[some (.ref m), some (.int (n : Nat)), some (.int (at' : Nat)), some above, some (.int (k : Nat)), some (.int v)], rfl, ?_⟩
    refine Wn.seq (Wn.if (S0 := S2) (List.prefix_refl _) (.or (.not (.truB (.args (.cons (.var rfl) .nil) ev_is_whole))) fun _ => .or (.b (.op (.var rfl) .c .lt)) fun _ => .and (.b (.op (.var rfl) (.var rfl) .eqI)) fun _ => .b (.op (.var rfl) .c .neI)) (fun hb => ?_) fun _ S3 p3 => Wn.nil ?_)
    · exfalso
      simp only [Bool.not_true, Bool.false_or, Bool.or_eq_true, Bool.and_eq_true, decide_eq_true_eq, Bool.not_eq_true', decide_eq_false_iff_not] at hb
      omega
    · have done : ∀ S4, S3 <+: S4 → Aft (fun τ' S' => S2 <+: S' ∧ ∃ a b, τ' = [some (.ref m), some (.int (n : Nat)), some (.int (at' : Nat)), some above, a, b] ∧ ∀ z ∈ l, z.2 < n ∧ z.1 = row.getD z.2 0) (Nxt (sRet (dArgs fTuple (dCons (dVar 0) (dNil)))) (Rt S0 (.tup (row.map .int)))) (.nx [some (.ref m), some (.int (n : Nat)), some (.int (at' : Nat)), some above, some (.int (k : Nat)), some (.int v)] S4) :=
        fun S4 p4 => ⟨p3.trans p4, _, _, rfl, fun z hz => hl' z (by simp [hz])⟩
      rcases hab with rfl | ⟨us, rfl, hus, hpos⟩
      · refine Wn.if (S0 := S3) (b := false) (List.prefix_refl _) (.of_eq (.and (b' := false) (.b (.op (.var rfl) .c .isN)) fun hb => by simp [isNon] at hb) (by simp [isNon])) (fun hb => by cases hb) fun _ S4 p4 => Wn.nil (done S4 p4)
      · refine Wn.if (S0 := S3) (b := false) (List.prefix_refl _) (.of_eq (.and (.b (.op (.var rfl) .c .isN)) fun _ => .and (.b (.op (.var rfl) .c .gt)) fun _ => .b (.op (.op (.var rfl) (.var rfl) (.ix (xs := us.map .int) rfl (getI (by omega)))) .c .eqI)) ?_) (fun hb => by cases hb) fun _ S4 p4 => Wn.nil (done S4 p4)
        have := hpos k hk
        rw [← hv] at this
        simp only [isNon, bne_self_eq_false, Bool.and_eq_false_imp, decide_eq_true_eq, decide_eq_false_iff_not]
        exact fun _ h => this h
theorem rows_eq (hs : Sz M n) : (List.range n).map (fun i => D.tup ((M.getD i []).map .int)) = M.map fun r => .tup (r.map .int) := by
  refine List.ext_getElem? fun i => ?_
  by_cases hi : i < n
  · have hM : i < M.length := by rw [hs.len]; exact hi
    simp [List.getElem?_map, hM, hi, List.getElem?_range, List.getD_eq_getElem?_getD]
  · have hM : ¬ i < M.length := by rw [hs.len]; exact hi
    rw [List.getElem?_eq_none (by simp; omega), List.getElem?_eq_none (by simp; omega)]
theorem Tab.ref (h : Tab S t rs M) (hs : Sz M n) {i : Nat} (hi : i < n) : (rs.map D.ref)[i]? = some (.ref (rs.getD i 0)) := by
  have hil : i < rs.length := by rw [h.len, hs.len]; exact hi
  rw [List.getElem?_map, List.getElem?_eq_getElem hil, List.getD_eq_getElem?_getD, List.getElem?_eq_getElem hil]; rfl
theorem lst_ty {m : Nat} {xs : List D} (hm : S[m]? = some (.lst xs)) : Ev (fIsi ["tuple", "list"] (.ref m)) S (.bl true) := .pure fun S1 p1 => by
  have := pre_get p1 hm
  simp [fIsi, tyD, this, clNames, isB]
theorem ev_takes (h : Tab S t rs M) (q : Sq M n) (hg : Good M n) : Ev (d__worlds_takes [.ref t]) S (.tup (M.map fun r => .tup (r.map .int))) := by
  refine Ev.fn fun S0 p0 => ?_
  have h0 := h.mono p0
  have hs : Sz M n := ⟨q.len, q.row⟩
  have hlo := q.lo
  have hhi := q.hi
  have hlen : (rs.map D.ref).length = n := by rw [List.length_map, h.len, q.len]
  have elen : Ev (fLenSeq [.ref t]) S0 (.int (n : Nat)) := (Ev.len (seq_ref h0.tab)).of_eq (by rw [hlen])
  refine Wn.seq (Wn.if (S0 := S0) (List.prefix_refl _) (.or (.not (.truB (.un (.var rfl) (lst_ty h0.tab)))) fun _ => .not (.b (.chain .c (.args1 (.var rfl) elen) .le fun _ => ⟨.c, .le⟩))) (fun hb => ?_) fun _ S1 p1 => Wn.nil ?_)
  · exfalso; simp at hb; omega
  refine Wn.seq (Wn.set (S0 := S0) p1 (.args1 (.var rfl) elen) fun S2 p2 => ?_)
  refine Wn.ret (S0 := S0) (p1.trans p2) (.argsL (zs := M.map fun r => .tup (r.map .int)) ?_ fun k S3 p3 hk => .ftup (lst_ref hk)) fun S3 p3 => ⟨S3, rfl, (p1.trans p2).trans p3⟩
  rw [← rows_eq hs]
  refine El.lc1 (List.range n) (fun i => .int (i : Nat)) _ (Ei.r1 (.cons (.var rfl) .nil) (by omega)) (by simp; omega) fun i hi => ⟨_, rfl, ?_⟩
  have hi' := List.mem_range.mp hi
  exact .args (.cons (.op (.var rfl) (.var rfl) (.ix (seq_ref h0.tab) (h0.ref hs hi'))) (.cons (.var rfl) (.cons (.var rfl) (.cons .c .nil)))) (ev_row (h0.row i (by rw [hs.len]; exact hi')) (hs.row i hi') hhi (fun k hk => ⟨(hg i k).1, fun e => (hg i k).2 e.symm⟩) (.inl rfl))
theorem ev_calls {t' : Nat} {rs' : List Nat} (h : Tab S t' rs' L) (hs : Sz L n) (q : Sq M n) (hg : Good M n) (hl : ∀ i j, 0 ≤ cell L i j ∧ (0 < cell L i j → i < n ∧ j < n ∧ adj M i j = true)) :
    Ev (d__worlds_calls [.ref t', .tup (M.map fun r => .tup (r.map .int))]) S (.tup (L.map fun r => .tup (r.map .int))) := by
  refine Ev.fn fun S0 p0 => ?_
  have h0 := h.mono p0
  have hM : Sz M n := ⟨q.len, q.row⟩
  have hhi := q.hi
  have elen : ∀ {S0 : Sto}, Ev (fLenSeq [.tup (M.map fun r => .tup (r.map .int))]) S0 (.int (n : Nat)) := (Ev.len (xs := M.map fun r => .tup (r.map .int)) rfl).of_eq (by rw [List.length_map, q.len])
  have hlen : (rs'.map D.ref).length = n := by rw [List.length_map, h.len, hs.len]
  refine Wn.seq (Wn.set (S0 := S0) (List.prefix_refl _) (.args1 (.var rfl) elen) fun S1 p1 => ?_)
  refine Wn.seq (Wn.if (S0 := S0) p1 (.b (.op (.var rfl) .c .isN)) (fun hb => by simp [isNon] at hb) fun _ S2 p2 => Wn.nil ?_)
  refine Wn.seq (Wn.if (S0 := S0) (p1.trans p2) (.or (.not (.truB (.un (.var rfl) (lst_ty h0.tab)))) fun _ => .b (.op (.args1 (.var rfl) (.len (seq_ref h0.tab))) (.var rfl) .neI)) (fun hb => ?_) fun _ S3 p3 => Wn.nil ?_)
  · exfalso; rw [hlen] at hb; simp at hb
  refine Wn.ret (S0 := S0) ((p1.trans p2).trans p3) (.argsL (zs := L.map fun r => .tup (r.map .int)) ?_ fun k S3 p3 hk => .ftup (lst_ref hk)) fun S4 p4 => ⟨S4, rfl, ((p1.trans p2).trans p3).trans p4⟩
  rw [← rows_eq hs]
  refine El.lc1 (List.range n) (fun i => .int (i : Nat)) _ (Ei.r1 (.cons (.var rfl) .nil) (by omega)) (by simp; omega) fun i hi => ⟨_, rfl, ?_⟩
  have hi' := List.mem_range.mp hi
  have hMi : (M.map fun r => D.tup (r.map .int))[i]? = some (.tup ((M.getD i []).map .int)) := by
    rw [← rows_eq hM, List.getElem?_map, List.getElem?_range hi']; rfl
  refine .args (.cons (.op (.var rfl) (.var rfl) (.ix (seq_ref h0.tab) (h0.ref hs hi'))) (.cons (.var rfl) (.cons (.var rfl) (.cons (.op (.var rfl) (.var rfl) (.ix rfl hMi)) .nil)))) (ev_row (h0.row i (by rw [hs.len]; exact hi')) (hs.row i hi') hhi (fun k hk => ⟨(hl i k).1, fun e => ?_⟩) (.inr ⟨_, rfl, q.row i hi', fun k hk hp => ?_⟩))
  · have a := hl i k
    have b := hg i k
    by_cases hp : 0 < cell L i k
    · have c := (a.2 hp).2.2
      simp only [adj, decide_eq_true_eq] at c
      have := b.2 e.symm
      omega
    · have : cell L i k = 0 := by omega
      exact this
  · have c := ((hl i k).2 hp).2.2
    simp only [adj, decide_eq_true_eq] at c
    have : cell M i k ≠ 0 := by omega
    exact this
end
end K01

set_option linter.all false
set_option maxRecDepth 100000
namespace K01
open DL
section
variable {S S' : Sto} {τ : Env} {n : Nat}
/-! ### what is equal to itself -/
theorem depth_map (xs : List PySem.PyData) (c : Nat) (h : ∀ x ∈ xs, x.depth ≤ c) : PySem.PyData.depthAll xs ≤ c := by
  induction xs with
  | nil => simp [PySem.PyData.depthAll]
  | cons x xs ih =>
    simp only [PySem.PyData.depthAll]
    have a := h x (by simp)
    have b := ih fun y hy => h y (by simp [hy])
    omega
theorem lay_map (xs : List PySem.PyData) (h : ∀ x ∈ xs, x.canLay0 = true) : PySem.PyData.canLayAll0 xs = true := by
  induction xs with
  | nil => rfl
  | cons x xs ih => simp only [PySem.PyData.canLayAll0, h x (by simp), ih fun y hy => h y (by simp [hy]), Bool.and_self]
/-- x is plain data -/
def Pd (x : D) : Prop := ∃ d : PySem.PyData, (∀ S k, 3 ≤ k → toPy S k x = some d) ∧ d.canLay0 = true ∧ d.depth ≤ 3
open PySem in
theorem Pd.shaped {d : PySem.PyData} (h : d.canLay0 = true) (h' : d.depth ≤ 3) : SeqAt.shaped d = true := by
  simp only [SeqAt.shaped, h, Bool.true_and, decide_eq_true_eq]; omega
theorem mapM_some {xs : List D} {f : D → Option PySem.PyData} {g : D → PySem.PyData} (h : ∀ x ∈ xs, f x = some (g x)) : xs.mapM f = some (xs.map g) := by
  induction xs with
  | nil => rfl
  | cons x xs ih => simp [List.mapM_cons, h x (by simp), ih fun y hy => h y (by simp [hy])]
theorem toPy_int (k : Nat) (i : Int) : toPy S k (.int i) = some (.int i) := by cases k <;> rfl
theorem toPy_non (k : Nat) : toPy S k .non = some .none := by cases k <;> rfl
theorem toPy_bl (k : Nat) (b : Bool) : toPy S k (.bl b) = some (.bool b) := by cases k <;> rfl
theorem toPy_str (k : Nat) (x : PySem.Str) : toPy S k (.str x) = some (.str x) := by cases k <;> rfl
def pyN (ks : List Nat) : PySem.PyData := .tuple ((zs ks).map .int)
theorem toPy_nats {k : Nat} {ks : List Nat} (h : 1 ≤ k) : toPy S k (.tup (nats ks)) = some (pyN ks) := by
  obtain ⟨k, rfl⟩ : ∃ m, k = m + 1 := ⟨k - 1, by omega⟩
  have : (nats ks).mapM (toPy S k) = some ((nats ks).map fun x => match x with | .int i => .int i | _ => .none) := mapM_some fun x hx => by
    simp only [nats, List.mem_map] at hx
    obtain ⟨i, _, rfl⟩ := hx
    exact toPy_int _ _
  simp only [toPy, this, Option.map_some]
  simp only [pyN, zs, nats, List.map_map]
  rfl
theorem pyN_ok (ks : List Nat) : (pyN ks).canLay0 = true ∧ (pyN ks).depth ≤ 1 := by
  constructor
  · simp only [pyN, PySem.PyData.canLay0]
    exact lay_map _ fun x hx => by obtain ⟨i, _, rfl⟩ := List.mem_map.mp hx; rfl
  · simp only [pyN, PySem.PyData.depth]
    have := depth_map ((zs ks).map .int) 0 fun x hx => by obtain ⟨i, _, rfl⟩ := List.mem_map.mp hx; exact Nat.le_refl _
    omega
theorem pd_nats (ks : List Nat) : Pd (.tup (nats ks)) := ⟨pyN ks, fun S k h => toPy_nats (by omega), (pyN_ok ks).1, by have := (pyN_ok ks).2; omega⟩
theorem pd_heads (ms : List Nat) : Pd (.tup (ms.map lotD)) := by
  refine ⟨.tuple (ms.map fun m => pyN (places m)), fun S k h => ?_, ?_, ?_⟩
  · obtain ⟨k, rfl⟩ : ∃ m, k = m + 1 := ⟨k - 1, by omega⟩
    have : (ms.map lotD).mapM (toPy S k) = some (ms.map fun m => pyN (places m)) := by
      have hk : 1 ≤ k := by omega
      clear h
      induction ms with
      | nil => rfl
      | cons m ms ih =>
        have e : toPy S k (lotD m) = some (pyN (places m)) := toPy_nats hk
        simp only [List.map_cons, List.mapM_cons, e, ih]
        rfl
    simp only [toPy, this, Option.map_some]
  · simp only [PySem.PyData.canLay0]
    exact lay_map _ fun x hx => by obtain ⟨i, _, rfl⟩ := List.mem_map.mp hx; exact (pyN_ok _).1
  · simp only [PySem.PyData.depth]
    have := depth_map (ms.map fun m => pyN (places m)) 1 fun x hx => by obtain ⟨i, _, rfl⟩ := List.mem_map.mp hx; exact (pyN_ok _).2
    omega
end
/-- the places that no world has, as the law picks them -/
def Bad (n : Nat) (d : D) : Prop := d = .int (-1) ∨ d = .int (n : Nat) ∨ d = .bl true ∨ d = .non ∨ d = .tup [.int 0]
def told (d : D) : D := .tup [.str "refused", d, .bl true]
section
variable {S S' : Sto} {τ : Env} {n : Nat}
theorem told_py {d : D} (h : Bad n d) : ∃ e : PySem.PyData, (∀ S k, 3 ≤ k → toPy S k (told d) = some e) ∧ e.canLay0 = true ∧ e.depth ≤ 3 := by
  rcases h with rfl | rfl | rfl | rfl | rfl
  · exact ⟨.tuple [.str "refused", .int (-1), .bool true], fun S k h => by obtain ⟨k, rfl⟩ : ∃ m, k = m + 1 := ⟨k - 1, by omega⟩; simp [told, toPy, toPy_int, toPy_str, toPy_bl], by decide +kernel, by decide +kernel⟩
  · refine ⟨.tuple [.str "refused", .int (n : Nat), .bool true], fun S k h => by obtain ⟨k, rfl⟩ : ∃ m, k = m + 1 := ⟨k - 1, by omega⟩; simp [told, toPy, toPy_int, toPy_str, toPy_bl], ?_, ?_⟩
    · simp only [PySem.PyData.canLay0, PySem.PyData.canLayAll0, Bool.and_true]; decide +kernel
    · simp only [PySem.PyData.depth, PySem.PyData.depthAll]; omega
  · exact ⟨.tuple [.str "refused", .bool true, .bool true], fun S k h => by obtain ⟨k, rfl⟩ : ∃ m, k = m + 1 := ⟨k - 1, by omega⟩; simp [told, toPy, toPy_int, toPy_str, toPy_bl], by decide +kernel, by decide +kernel⟩
  · exact ⟨.tuple [.str "refused", .none, .bool true], fun S k h => by obtain ⟨k, rfl⟩ : ∃ m, k = m + 1 := ⟨k - 1, by omega⟩; simp [told, toPy, toPy_non, toPy_str, toPy_bl], by decide +kernel, by decide +kernel⟩
  · exact ⟨.tuple [.str "refused", .tuple [.int 0], .bool true], fun S k h => by obtain ⟨k, rfl⟩ : ∃ m, k = m + 2 := ⟨k - 2, by omega⟩; simp [told, toPy, toPy_int, toPy_str, toPy_bl], by decide +kernel, by decide +kernel⟩
open PySem in
theorem Pd.eqG {x : D} (h : Pd x) (neg : Bool) : eqG neg x x S = .ok (.bl (neg != true)) S := by
  obtain ⟨d, ht, hc, hd⟩ := h
  simp only [DL.eqG, ht S 64 (by omega), Pd.shaped hc hd, Bool.and_self, if_true, SeqAt.eqv_refl d hc]
end
end K01

set_option linter.all false
set_option maxRecDepth 100000
namespace K01
open DL
section
variable {S S' : Sto} {τ : Env} {n w : Nat} {M : List (List Int)} {d : D}
theorem pd_told (h : Bad n d) : Pd (told d) := told_py h
theorem pd_non : Pd .non := ⟨.none, fun S k _ => toPy_non k, rfl, by decide +kernel⟩
def isI : D → Bool
  | .int _ => true
  | _ => false
theorem ev_whole_bad (h : Bad n d) : Ev (d_is_whole [d]) S (.bl (isI d)) := by
  rcases h with rfl | rfl | rfl | rfl | rfl
  · exact ev_is_whole
  · exact ev_is_whole
  · refine Ev.fn fun S0 p0 => Wn.ret (S0 := S0) (List.prefix_refl _) (v := .bl false) ?_ fun S1 p1 => ⟨S1, rfl, p1⟩
    exact Ev.andV (b := true) (b' := false) (.un (.var rfl) (.pure fun _ _ => rfl)) fun _ => Ev.notV (b := true) (.un (.var rfl) (.pure fun _ _ => rfl))
  · refine Ev.fn fun S0 p0 => Wn.ret (S0 := S0) (List.prefix_refl _) (v := .bl false) ?_ fun S1 p1 => ⟨S1, rfl, p1⟩
    exact Ev.andV (b := false) (b' := false) (.un (.var rfl) (.pure fun _ _ => rfl)) fun h => by cases h
  · refine Ev.fn fun S0 p0 => Wn.ret (S0 := S0) (List.prefix_refl _) (v := .bl false) ?_ fun S1 p1 => ⟨S1, rfl, p1⟩
    exact Ev.andV (b := false) (b' := false) (.un (.var rfl) (.pure fun _ _ => rfl)) fun h => by cases h
theorem ex_place (h : Bad n d) (S : Sto) : ∃ S', d_place_of [d, .int (n : Nat)] S = .ex ⟨2, "place", d⟩ S' ∧ S <+: S' := by
  have ht : Ev (dOr (dNotT (dTru (dArgs d_is_whole (dCons (dVar 0) (dNil))))) (dNotT (dB (dChain oLe oLt (dC (.int 0)) (dVar 0) (dVar 1)))) [some d, some (.int (n : Nat))]) S true := by
    refine Ev.of_eq (v := !isI d || true) (w := true) (.or (.not (.truB (.args (.cons (.var rfl) .nil) (ev_whole_bad h)))) fun hi => ?_) (by simp)
    have : d = .int (-1) ∨ d = .int (n : Nat) := by
      rcases h with rfl | rfl | rfl | rfl | rfl
      · exact .inl rfl
      · exact .inr rfl
      · simp [isI] at hi
      · simp [isI] at hi
      · simp [isI] at hi
    rcases this with rfl | rfl
    · exact .of_eq (.not (.b (.chain (q := true) (z := .non) .c (.var rfl) .le fun z => by simp at z))) (by simp)
    · exact .of_eq (.not (.b (.chain .c (.var rfl) .le fun _ => ⟨.var rfl, .lt⟩))) (by simp)
  obtain ⟨S1, e1, p1⟩ := ht S (List.prefix_refl _)
  refine ⟨S1, ?_, p1⟩
  simp only [d_place_of, dFn, b_place_of]
  show (match sSeq _ _ [some d, some (.int (n : Nat))] S with | .nx _ S' => _ | .rt d S' => _ | .ex e _ S' => _ | _ => _) = _
  simp only [sSeq, sIf, e1, R.go, if_true, sRaise, dVar, List.getElem?_cons_zero]
theorem ex_reaches (hb : Bad n d) (h : Wd S w M n) : ∃ S', d_reaches [.ref w, d] S = .ex ⟨2, "place", d⟩ S' ∧ S <+: S' := by
  obtain ⟨S1, e1, p1⟩ := (Ev.cons (τ := [some (.ref w), some d]) (.var rfl) (.cons (.un (.var rfl) h.size) .nil) : Ev (dCons (dVar 1) (dCons (dUn (oSlot 6 1) (dVar 0)) (dNil)) [some (.ref w), some d]) S [d, .int (n : Nat)]) S (List.prefix_refl _)
  obtain ⟨S2, e2, p2⟩ := ex_place hb S1
  refine ⟨S2, ?_, p1.trans p2⟩
  simp only [d_reaches, dFn, b_reaches]
  show (match sSeq (sExpr (dArgs d_place_of _)) _ [some (.ref w), some d] S with | .nx _ S' => _ | .rt d S' => _ | .ex e _ S' => _ | _ => _) = _
  simp only [sSeq, sExpr, dArgs, e1, R.bind, e2, R.go]
theorem ex_way1 {o : D} (hb : Bad n d) (h : Wd S w M n) : ∃ S', d_way [.ref w, d, o] S = .ex ⟨2, "place", d⟩ S' ∧ S <+: S' := by
  obtain ⟨S1, e1, p1⟩ := (Ev.cons (τ := [some (.ref w), some d, some o, none, none, none, none, none]) (.var rfl) (.cons (.un (.var rfl) h.size) .nil) : Ev (dCons (dVar 1) (dCons (dUn (oSlot 6 1) (dVar 0)) (dNil)) [some (.ref w), some d, some o, none, none, none, none, none]) S [d, .int (n : Nat)]) S (List.prefix_refl _)
  obtain ⟨S2, e2, p2⟩ := ex_place hb S1
  refine ⟨S2, ?_, p1.trans p2⟩
  simp only [d_way, dFn, b_way]
  show (match sSeq (sExpr (dArgs d_place_of _)) _ [some (.ref w), some d, some o, none, none, none, none, none] S with | .nx _ S' => _ | .rt d S' => _ | .ex e _ S' => _ | _ => _) = _
  simp only [sSeq, sExpr, dArgs, e1, R.bind, e2, R.go]
theorem ex_way2 {p : Nat} (hb : Bad n d) (h : Wd S w M n) (hp : p < n) : ∃ S', d_way [.ref w, .int (p : Nat), d] S = .ex ⟨2, "place", d⟩ S' ∧ S <+: S' := by
  obtain ⟨S1, e1, p1⟩ := (Ev.args (τ := [some (.ref w), some (.int (p : Nat)), some d, none, none, none, none, none]) (.cons (.var rfl) (.cons (.un (.var rfl) h.size) .nil)) (ev_place_of hp) : Ev (dArgs d_place_of (dCons (dVar 1) (dCons (dUn (oSlot 6 1) (dVar 0)) (dNil))) [some (.ref w), some (.int (p : Nat)), some d, none, none, none, none, none]) S (.int (p : Nat))) S (List.prefix_refl _)
  obtain ⟨S2, e2, p2⟩ := (Ev.cons (τ := [some (.ref w), some (.int (p : Nat)), some d, none, none, none, none, none]) (.var rfl) (.cons (.un (.var rfl) (h.mono p1).size) .nil) : Ev (dCons (dVar 2) (dCons (dUn (oSlot 6 1) (dVar 0)) (dNil)) [some (.ref w), some (.int (p : Nat)), some d, none, none, none, none, none]) S1 [d, .int (n : Nat)]) S1 (List.prefix_refl _)
  obtain ⟨S3, e3, p3⟩ := ex_place hb S2
  refine ⟨S3, ?_, (p1.trans p2).trans p3⟩
  simp only [d_way, dFn, b_way]
  show (match sSeq (sExpr (dArgs d_place_of (dCons (dVar 1) _))) (sSeq (sExpr (dArgs d_place_of (dCons (dVar 2) _))) _) [some (.ref w), some (.int (p : Nat)), some d, none, none, none, none, none] S with | .nx _ S' => _ | .rt d S' => _ | .ex e _ S' => _ | _ => _) = _
  simp only [sSeq, sExpr, e1, R.go]
  simp only [dArgs, e2, R.bind, e3, R.go]
/-- the refusal, told -/
theorem ev_refused {i : Int} {a o : D} (hx : ∀ S0, S <+: S0 → ∃ S', (sIf (dB (dOp oEq (dVar 1) (dC (.int 0)))) (sExpr (dArgs d_reaches (dCons (dVar 0) (dCons (dVar 2) (dNil))))) (sExpr (dArgs d_way (dCons (dVar 0) (dCons (dVar 2) (dCons (dVar 3) (dNil))))))) [some (.ref w), some (.int i), some a, some o, some (.tup [.str "told", .int 0, .bl true]), none, none] S0 = .ex ⟨2, "place", d⟩ [some (.ref w), some (.int i), some a, some o, some (.tup [.str "told", .int 0, .bl true]), none, none] S' ∧ S0 <+: S') :
    Ev (d__law_refused [.ref w, .int i, a, o]) S (told d) := by
  refine Ev.fn fun S0 p0 => ?_
  refine Wn.seq (Wn.set (S0 := S0) (List.prefix_refl _) (.args (.cons .c (.cons .c (.cons .c .nil))) (.tup (by simp))) fun S1 p1 => ?_)
  obtain ⟨S2, e2, p2⟩ := hx S1 (p0.trans p1)
  refine Wn.seq ⟨?_⟩
  have e3 : sTry 6 mt_BadPlace 5 (sIf (dB (dOp oEq (dVar 1) (dC (.int 0)))) (sExpr (dArgs d_reaches (dCons (dVar 0) (dCons (dVar 2) (dNil))))) (sExpr (dArgs d_way (dCons (dVar 0) (dCons (dVar 2) (dCons (dVar 3) (dNil))))))) (fun ex => sSeq (sSet 6 (dAndV (eXis 6 mt_RatesError ex) (eXis 6 mt_ValueError ex))) (sSet 4 (dArgs mkTup (dCons (dC (.str "refused")) (dCons (eXf 6 "place" ex) (dCons (dAndV (dVar 6) (dNotV (eXis 6 mt_BadLot ex))) (dNil))))))) [some (.ref w), some (.int i), some a, some o, some (.tup [.str "told", .int 0, .bl true]), none, none] S1 =
      .nx [some (.ref w), some (.int i), some a, some o, some (told d), none, some (.bl true)] S2 := by
    simp only [sTry, e2]
    simp [mt_BadPlace, mt_RatesError, mt_ValueError, mt_BadLot, fin, sSeq, sSet, dAndV, eXis, asB, R.bind, R.go, dArgs, dCons, dC, eXf, dVar, dNotV, truD, dNil, mkTup, told]
  show Nxt _ _ (sTry _ _ _ _ _ _ S1)
  erw [e3]
  exact Wn.ret (S0 := S2) (List.prefix_refl _) (.var rfl) fun S3 p3 => ⟨S3, rfl, (p1.trans p2).trans p3⟩
theorem ev_ref0 {o : D} (hb : Bad n d) (h : Wd S w M n) : Ev (d__law_refused [.ref w, .int 0, d, o]) S (told d) := ev_refused fun S0 p0 => by
  obtain ⟨S1, e1, p1⟩ := ex_reaches hb (h.mono p0)
  refine ⟨S1, ?_, p1⟩
  simp [sIf, dB, dOp, dVar, R.bind, dC, oEq, asB, R.go, sExpr, dArgs, dCons, dNil, e1]
theorem ev_ref1 {o : D} (hb : Bad n d) (h : Wd S w M n) : Ev (d__law_refused [.ref w, .int 1, d, o]) S (told d) := ev_refused fun S0 p0 => by
  obtain ⟨S1, e1, p1⟩ := ex_way1 (o := o) hb (h.mono p0)
  refine ⟨S1, ?_, p1⟩
  simp [sIf, dB, dOp, dVar, R.bind, dC, oEq, asB, R.go, sExpr, dArgs, dCons, dNil, e1]
theorem ev_ref2 {p : Nat} (hb : Bad n d) (h : Wd S w M n) (hp : p < n) : Ev (d__law_refused [.ref w, .int 1, .int (p : Nat), d]) S (told d) := ev_refused fun S0 p0 => by
  obtain ⟨S1, e1, p1⟩ := ex_way2 hb (h.mono p0) hp
  refine ⟨S1, ?_, p1⟩
  simp [sIf, dB, dOp, dVar, R.bind, dC, oEq, asB, R.go, sExpr, dArgs, dCons, dNil, e1]
end
end K01

set_option linter.all false
set_option maxRecDepth 100000
namespace K01
open DL
section
variable {S S' : Sto} {τ : Env} {n w p t : Nat} {rs : List Nat} {M L : List (List Int)} {d : D}
theorem closed_shut {m : Nat} (q : Sq M n) (h1 : 1 ≤ m) (hm : m < 2 ^ n) : closedB M n (places m) = shutB M n m := by
  have h64 := q.pow
  have hn := q.hi
  have hl : ∀ i, lk M n i < 64 := fun i => Nat.lt_of_lt_of_le lk_lt h64
  have hne : places m ≠ [] := fun z => by
    have : m = 0 := mask_ext (by omega) (by omega) fun k hk => by
      rw [Nat.zero_testBit]
      cases hb : m.testBit k with
      | false => rfl
      | true =>
        have : k ∈ places m := mem_places.mpr ⟨hk, hb⟩
        rw [z] at this; cases this
    omega
  rw [Bool.eq_iff_iff, closedB_iff]
  simp only [shutB, List.all_eq_true, beq_iff_eq]
  constructor
  · rintro ⟨hc, _⟩ i hi
    refine mask_ext (fresh_table _ (hl i) m (by omega)).1 (by omega) fun k hk => ?_
    rw [fresh_bits _ (hl i) m (by omega) k hk, lk_bit, Nat.zero_testBit]
    cases ha : adj M i k with
    | false => simp
    | true =>
      by_cases hkn : k < n
      · have := (mem_places.mp (hc i hi k hkn ha)).2
        simp [this]
      · simp [hkn]
  · intro h
    refine ⟨fun i hi j hj ha => mem_places.mpr ⟨by omega, ?_⟩, hne⟩
    have e := fresh_bits _ (hl i) m (by omega) j (by omega)
    rw [h i hi, lk_bit, ha, Nat.zero_testBit] at e
    simp [hj] at e
    exact e
theorem Wn.slot {cn i : Nat} {dv do' : DenE} {v : D} {vs : List (Option D)} {Q : Rs → Prop} (hv : Ev (dv τ) S v) (ho : Ev (do' τ) S (.ref w)) (hw : S[w]? = some (.sl cn vs)) (c : ∀ S1, S <+: S1 → Q (.nx τ (S1.set w (.sl cn (putD i v vs))))) : Wn Q (sSlot cn i dv do' τ S) := by
  obtain ⟨S1, e1, p1⟩ := hv S (List.prefix_refl _)
  obtain ⟨S2, e2, p2⟩ := ho S1 p1
  have g := pre_get (p1.trans p2) hw
  simp only [sSlot, e1, R.go, e2, g, if_true]
  exact ⟨c S2 (p1.trans p2)⟩
theorem Tab.slot (h : Tab S t rs M) {vs : List (Option D)} (hw : S[w]? = some (.sl 6 vs)) (o : SO) : Tab (S.set w o) t rs M := by
  refine ⟨set_ne (fun z => ?_) h.tab, h.len, h.nd, h.nt, fun i hi => set_ne (fun z => ?_) (h.row i hi)⟩
  · subst z; rw [h.tab] at hw; cases hw
  · rw [z, h.row i hi] at hw; cases hw
theorem we_init {t' : Nat} {rs' : List Nat} (hw : S[w]? = some (.sl 6 [])) (h : Tab S t rs M) (q : Sq M n) (hg : Good M n) (h' : Tab S t' rs' L) (hs : Sz L n) (hl : ∀ i j, 0 ≤ cell L i j ∧ (0 < cell L i j → i < n ∧ j < n ∧ adj M i j = true)) :
    ∃ S2, d_World_init [.ref w, .ref t, .ref t'] S = .ok .non S2 ∧ Wd S2 w M n ∧ ∃ S1, S <+: S1 ∧ ∃ o1 o2 o3 S1' S1'', S2 = (S1''.set w o3) ∧ S1'.set w o2 <+: S1'' ∧ S1.set w o1 <+: S1' := by
  have key : Wn (fun r => ∃ τ' S2, r = .nx τ' S2 ∧ Wd S2 w M n ∧ ∃ S1, S <+: S1 ∧ ∃ o1 o2 o3 S1' S1'', S2 = (S1''.set w o3) ∧ S1'.set w o2 <+: S1'' ∧ S1.set w o1 <+: S1') (b_World_init [some (.ref w), some (.ref t), some (.ref t')] S) := by
    refine Wn.seq (Wn.slot (.args1 (.var rfl) (ev_takes h q hg)) (.var rfl) hw fun S1 p1 => ?_)
    have g1 := set_self (o' := .sl 6 [none, none, some (.tup (M.map fun r => .tup (r.map .int)))]) (pre_get p1 hw)
    have T1 := (h'.mono p1).slot (pre_get p1 hw) (.sl 6 [none, none, some (.tup (M.map fun r => .tup (r.map .int)))])
    have tk : ∀ {S' : Sto} {vs}, S'[w]? = some (.sl 6 [none, vs, some (.tup (M.map fun r => .tup (r.map .int)))]) → Ev (oSlot 6 2 (.ref w)) S' (.tup (M.map fun r => .tup (r.map .int))) := fun hS => .pure fun S1 p => by simp [oSlot, pre_get p hS]
    refine Wn.seq (Wn.slot (S := S1.set w (.sl 6 [none, none, some (.tup (M.map fun r => .tup (r.map .int)))])) (v := .int (n : Nat)) (.args1 (.un (.var rfl) (tk g1)) ((Ev.len (xs := M.map fun r => .tup (r.map .int)) rfl).of_eq (by rw [List.length_map, q.len]))) (.var rfl) g1 fun S2 p2 => ?_)
    have g2 := set_self (o' := .sl 6 [none, some (.int (n : Nat)), some (.tup (M.map fun r => .tup (r.map .int)))]) (pre_get p2 g1)
    have T2 := (T1.mono p2).slot (pre_get p2 g1) (.sl 6 [none, some (.int (n : Nat)), some (.tup (M.map fun r => .tup (r.map .int)))])
    show Wn _ (sSlot 6 0 (dArgs d__worlds_calls (dCons (dVar 2) (dCons (dUn (oSlot 6 2) (dVar 0)) (dNil)))) (dVar 0) [some (.ref w), some (.ref t), some (.ref t')] (S2.set w (.sl 6 [none, some (.int (n : Nat)), some (.tup (M.map fun r => .tup (r.map .int)))])))
    have hv : Ev (dArgs d__worlds_calls (dCons (dVar 2) (dCons (dUn (oSlot 6 2) (dVar 0)) (dNil))) [some (.ref w), some (.ref t), some (.ref t')]) (S2.set w (.sl 6 [none, some (.int (n : Nat)), some (.tup (M.map fun r => .tup (r.map .int)))])) (.tup (L.map fun r => .tup (r.map .int))) := .args (.cons (.var rfl) (.cons (.un (.var rfl) (tk g2)) .nil)) (ev_calls T2 hs q hg hl)
    have ho : Ev (dVar 0 [some (.ref w), some (.ref t), some (.ref t')]) (S2.set w (.sl 6 [none, some (.int (n : Nat)), some (.tup (M.map fun r => .tup (r.map .int)))])) (.ref w) := .var rfl
    refine Wn.slot hv ho g2 ?_
    intro S3 p3
    exact ⟨_, _, rfl, ⟨_, set_self (pre_get p3 g2)⟩, S1, p1, _, _, _, S2, S3, rfl, p3, p2⟩
  obtain ⟨τ', S2, e, r⟩ := key.h
  refine ⟨S2, ?_, r⟩
  simp only [d_World_init, dFn]
  rw [show (List.map some [D.ref w, D.ref t, D.ref t'] ++ List.replicate (3 - [D.ref w, D.ref t, D.ref t'].length) none) = [some (.ref w), some (.ref t), some (.ref t')] from rfl, e]
/-- the law makes its world -/
theorem we_world {Q : D → Sto → Prop} (h2 : τ[2]? = some (some (.ref t))) (h1 : τ[1]? = some (some (.ref p))) (h : Pool p S) (hT : Tab S t rs M) (q : Sq M n) (hg : Good M n) (htp : t ≠ p) (hrp : p ∉ rs)
    (k : ∀ w S', Pr p S S' → Wd S' w M n → w ≠ p → Q (.ref w) S') : We (dMakeK 6 d_World_init (fun xs ys => xs ++ ys) (dCons (dVar 2) (dNil)) (dCons (dArgs d__law_loud (dCons (dVar 1) (dCons (dVar 2) (dNil)))) dNil) τ S) Q := by
  have hl : We (d__law_loud [.ref p, .ref t] S) fun v S1 => ∃ t' rs' L, v = .ref t' ∧ Pr p S S1 ∧ Tab S1 t' rs' L ∧ Sz L n ∧ (∀ i j, 0 ≤ cell L i j ∧ (0 < cell L i j → i < n ∧ j < n ∧ adj M i j = true)) :=
    we_loud h hT q htp hrp fun t' rs' L S1 a b c e => ⟨t', rs', L, rfl, a, b, c, e⟩
  obtain ⟨v, S1, e1, t', rs', L, rfl, P1, T', hs, hc⟩ := hl.h
  have hp1 : S1 <+: S1 ++ [SO.sl 6 []] := ⟨_, rfl⟩
  obtain ⟨S2, e2, W, S3, p3, o1, o2, o3, S4, S5, rfl, p5, p4⟩ := we_init (S := S1 ++ [SO.sl 6 []]) (w := S1.length) app_new ((hT.pr P1 htp hrp).mono hp1) q hg (T'.mono hp1) hs hc
  have hwp : S1.length ≠ p := pool_ne P1.pool (Nat.le_refl _)
  have lS := P1.len
  have P3 := P1.trans (P1.pool.pre (hp1.trans p3))
  have P4 := P3.write (d := S1.length) lS hwp o1
  have P5 := P4.trans (P4.pool.pre p4)
  have P6 := P5.write (d := S1.length) lS hwp o2
  have P7 := P6.trans (P6.pool.pre p5)
  have P8 := P7.write (d := S1.length) lS hwp o3
  refine ⟨⟨.ref S1.length, S5.set S1.length o3, ?_, k _ _ P8 W hwp⟩⟩
  simp only [dMakeK, dCons, dVar, h2, h1, R.bind, dNil, dArgs, e1, dMake, List.cons_append, List.nil_append, e2]
end
end K01

set_option linter.all false
set_option maxRecDepth 100000
namespace K01
open DL
def shutD (M : List (List Int)) (n : Nat) : D := match firstShut M n with
  | some m => lotD m
  | none => .non
theorem pd_shut (M : List (List Int)) (n : Nat) : Pd (shutD M n) := by
  unfold shutD
  cases firstShut M n with
  | none => exact pd_non
  | some m => exact pd_nats _
theorem oNe_self {x : D} (h : Pd x) (hx : x = .non ∨ ∃ xs, x = .tup xs) {S : Sto} : Ev (oNe x x) S (.bl false) := .pure fun S1 _ => by
  have := h.eqG (S := S1) true
  rcases hx with rfl | ⟨xs, rfl⟩ <;> exact this
theorem oEq_self {x : D} (h : Pd x) (hx : x = .non ∨ ∃ xs, x = .tup xs) {S : Sto} : Ev (oEq x x) S (.bl true) := .pure fun S1 _ => by
  have := h.eqG (S := S1) false
  rcases hx with rfl | ⟨xs, rfl⟩ <;> exact this
theorem shut_form (M : List (List Int)) (n : Nat) : shutD M n = .non ∨ ∃ xs, shutD M n = .tup xs := by
  unfold shutD
  cases firstShut M n with
  | none => exact .inl rfl
  | some m => exact .inr ⟨_, rfl⟩
section
variable {S : Sto} {M : List (List Int)} {n w : Nat}
theorem ev_linked (h : Wd S w M n) (q : Sq M n) : Ev (d_is_linked [.ref w]) S (.bl (isNon (shutD M n))) := by
  refine Ev.fn fun S0 p0 => Wn.ret (S0 := S0) (List.prefix_refl _) (.op (.args (.cons (.var rfl) .nil) (ev_shut_lot (h.mono p0) q)) .c .isN) fun S1 p1 => ⟨S1, ?_, p1⟩
  simp only [shutD]
  cases firstShut M n <;> simp
end
theorem law_true (ns : List Int) (h : ns.length ≤ 63) (hb : ∀ z ∈ ns, PySem.Builtin.Int.intBits z ≤ 1048576) : ∃ S, d_law [.scr ns] [] = .ok (.bl true) S := by
  suffices hw : We (d_law [.scr ns] []) fun v _ => v = .bl true by
    obtain ⟨v, S, e, rfl⟩ := hw.h; exact ⟨S, e⟩
  refine We.fn ?_
  show Wn _ (b_law [some (.scr ns), none, none, none, none, none, none, none, none, none, none] [])
  refine Wn.seq (Wn.setY (S0 := []) (List.prefix_refl _) (.args (.cons (.var rfl) .nil) (ey_pool h hb)) fun v S1 p1 hv => ?_)
  obtain ⟨p, rfl, P1⟩ := hv
  refine Wn.seq (Wn.setW (.args (.cons (.var rfl (.nil (we_loose P1 ?_))))))
  intro t rs M n S2 _ T2 q hg htp hrp
  have hn := q.hi
  have hlo := q.lo
  have h64 := q.pow
  rename_i P12
  refine Wn.seq (Wn.set (S0 := S2) (List.prefix_refl _) (.args1 (.var rfl) (T2.rows q.len).len) fun S3 p3 => ?_)
  have P3 := P12.trans (P12.pool.pre p3)
  have T3 := T2.mono p3
  refine Wn.seq (Wn.setW (we_world rfl rfl P3.pool T3 q hg htp hrp fun w S4 P34 W4 hwp => ?_))
  have P4 := P3.trans P34
  have T4 := T3.pr P34 htp hrp
  refine Wn.seq (Wn.setY (S0 := S4) (List.prefix_refl _) (.args (.cons (.var rfl) .nil) (ey_lots hn)) fun v S5 p5 hv => ?_)
  obtain ⟨d, ps, rfl, hd, hz, hps⟩ := hv
  have T5 := T4.mono p5
  have W5 := W4.mono p5
  have R5 := T5.rows q.len
  have hplen : (refs ps).length = 2 ^ n := by
    have := congrArg List.length hps
    rw [List.length_map, lots_len] at this
    simp [refs, this]
  have hpsm : ∀ m, m < 2 ^ n → ∃ z, ps[m]? = some z ∧ z.2 = places m := fun m hm => by
    have e : (ps.map Prod.snd)[m]? = some (places m) := by
      rw [hps, lots_places n hlo hn, List.getElem?_map, List.getElem?_range hm]; rfl
    rw [List.getElem?_map] at e
    cases hz : ps[m]? with
    | none => rw [hz] at e; cases e
    | some z => rw [hz] at e; simp at e; exact ⟨z, rfl, e⟩
  have h4 : 4 ≤ 2 ^ n := by have := Nat.pow_le_pow_right (n := 2) (by omega) hlo; simpa using this
  refine Wn.seq (Wn.set (S0 := S5) (List.prefix_refl _) .c fun S6 p6 => ?_)
  have hd6 := pre_get p6 hd
  have hz6 := hz.mono p6
  have R6 := R5.mono p6
  refine Wn.seq (Wn.forR (κ := Nat) (ks := (List.range (2 ^ n - 2)).map fun k => 1 + k) (inj := fun k => .int (k : Nat)) (S0 := S6)
    (P := fun l τ S' => ∃ (sv : D) (b : Option D), τ = [some (.scr ns), some (.ref p), some (.ref t), some (.int (n : Nat)), some (.ref w), some (.ref d), some sv, b, none, none, none] ∧ S6 <+: S' ∧ ((sv = .non ∧ firstShut M n = l.find? (shutB M n)) ∨ ∃ m, sv = lotD m ∧ firstShut M n = some m) ∧ ∀ k ∈ l, 1 ≤ k ∧ k < 2 ^ n)
    (List.prefix_refl _) ?_ (fun S7 p7 => ⟨.non, none, rfl, p7, .inl ⟨rfl, rfl⟩, fun k hk => by simp at hk; omega⟩) ?_ ?_)
  · have := Er.r2 (S := S6) (τ := [some (.scr ns), some (.ref p), some (.ref t), some (.int (n : Nat)), some (.ref w), some (.ref d), some .non, none, none, none, none]) (n := 1) (m := ((2 ^ n : Nat) : Int) - 1) (dd := dCons (dC (.int 1)) (dCons (dOp oSub (dArgs fLenSeq (dCons (dVar 5) (dNil))) (dC (.int 1))) dNil)) (.cons .c (.cons (.op (.args1 (.var rfl) ((Ev.len (seq_ref hd6)).of_eq (by rw [hplen]))) .c .sub) .nil)) (by omega) (by omega) (by omega)
    have e : (((2 ^ n : Nat) : Int) - 1 - ((1 : Nat) : Int)).toNat = 2 ^ n - 2 := by omega
    rw [e] at this
    rw [List.map_map]
    exact this
  rotate_left
  · rintro m l τ S7 ⟨sv, b, rfl, p7, hsv, hl⟩
    obtain ⟨m1, m2⟩ := hl m (by simp)
    obtain ⟨z, hzm, ez⟩ := hpsm m m2
    have hix : (refs ps)[m]? = some (.ref z.1) := by simp [refs, List.getElem?_map, hzm]
    have hzS : S7[z.1]? = some (.lst (nats (places m))) := by rw [← ez]; exact pre_get p7 (hz6 z (List.mem_of_getElem? hzm))
    have hd7 := pre_get p7 hd6
    have R7 := R6.mono p7
    refine ⟨_, rfl, ?_⟩
    refine Wn.if (S0 := S7) (List.prefix_refl _) (.and (.b (.op (.var rfl) .c .isN)) fun _ => .truB (.args (.cons (.var rfl) (.cons (.op (.var rfl) (.var rfl) (.ix (seq_ref hd7) hix)) .nil)) (ev_closed R7 q hzS fun k hk => places_lt m2 hk))) (fun hb S8 p8 => ?_) (fun hb S8 p8 => ?_)
    · rw [closed_shut q m1 m2] at hb
      simp only [Bool.and_eq_true] at hb
      refine Wn.set (S0 := S7) p8 (.args1 (.op (.var rfl) (.var rfl) (.ix (seq_ref hd7) hix)) (.ftup (lst_ref hzS))) fun S9 p9 => ⟨_, _, rfl, (p7.trans p8).trans p9, .inr ⟨m, rfl, ?_⟩, fun k hk => hl k (by simp [hk])⟩
      rcases hsv with ⟨rfl, e⟩ | ⟨m', rfl, e⟩
      · rw [e, List.find?_cons_of_pos hb.2]
      · simp [isNon, lotD] at hb
    · rw [closed_shut q m1 m2] at hb
      refine Wn.nil ⟨sv, _, rfl, p7.trans p8, ?_, fun k hk => hl k (by simp [hk])⟩
      rcases hsv with ⟨rfl, e⟩ | ⟨m', rfl, e⟩
      · simp [isNon] at hb
        exact .inl ⟨rfl, by rw [e, List.find?_cons_of_neg (by simp [hb])]⟩
      · exact .inr ⟨m', rfl, e⟩
  rintro τ S7 ⟨sv, b, rfl, p7, hsv, -⟩
  have esv : sv = shutD M n := by
    unfold shutD
    rcases hsv with ⟨rfl, e⟩ | ⟨m, rfl, e⟩ <;> rw [e] <;> rfl
  subst esv
  have T7 := T5.mono (p6.trans p7)
  have W7 := W5.mono (p6.trans p7)
  have R7 := T7.rows q.len
  -- linked
  refine Wn.seq (Wn.set (S0 := S7) (List.prefix_refl _) (.args (.cons (.var rfl) .nil) (ev_linked W7 q)) fun S8 p8 => ?_)
  refine Wn.seq (Wn.if (S0 := S7) (b := false) p8 (.of_eq (.or (.not (Ev.truB (b := true) (.un (.var rfl) (.pure fun _ _ => rfl)))) fun _ => .or (.b (.op (.var rfl) (.op (.var rfl) .c .isN) .neB)) fun _ => .b (.op (.args (.cons (.var rfl) .nil) (ev_shut_lot W7 q)) (.var rfl) (oNe_self (pd_shut M n) (shut_form M n)))) (by simp)) (fun hb => by cases hb) fun _ S9 p9 => Wn.nil ?_)
  -- heads
  refine Wn.seq (Wn.if (S0 := S7) (b := false) (p8.trans p9) (.b (.op (.args (.cons (.var rfl) .nil) (ev_heads W7 q)) (.args (.cons (.var rfl) .nil) (ev_least R7 q)) (oNe_self (pd_heads _) (.inr ⟨_, rfl⟩)))) (fun hb => by cases hb) fun _ S10 p10 => Wn.nil ?_)
  -- reaches
  refine Wn.seq (Wn.forR (κ := Nat) (ks := List.range n) (inj := fun k => .int (k : Nat)) (S0 := S7)
    (P := fun l τ S' => ∃ (a b : Option D), τ = [some (.scr ns), some (.ref p), some (.ref t), some (.int (n : Nat)), some (.ref w), some (.ref d), some (shutD M n), a, some (.bl (isNon (shutD M n))), b, none] ∧ S7 <+: S' ∧ ∀ k ∈ l, k < n)
    ((p8.trans p9).trans p10) (Er.r1 (.cons (.var rfl) .nil) (by omega)) (fun S11 p11 => ⟨_, _, rfl, ((p8.trans p9).trans p10).trans p11, fun k hk => List.mem_range.mp hk⟩) ?_ ?_)
  rotate_left
  · rintro k l τ S11 ⟨a, b, rfl, p11, hk⟩
    have hkn := hk k (by simp)
    refine ⟨_, rfl, Wn.if (S0 := S7) (b := false) p11 (.b (.op (.args (.cons (.var rfl) (.cons (.var rfl) .nil)) (ev_reaches W7 q hkn)) (.argsL (El.args (.cons (.var rfl) (.cons (.var rfl) .nil)) (el_law_reached R7 q hkn)) fun k S' p' hk => .ftup (lst_ref hk)) (oNe_self (pd_nats _) (.inr ⟨_, rfl⟩)))) (fun hb => by cases hb) fun _ S12 p12 => Wn.nil ⟨_, _, rfl, p11.trans p12, fun k hk' => hk k (by simp [hk'])⟩⟩
  rintro τ S11 ⟨a, b, rfl, p11, -⟩
  have P11 := P4.trans (P4.pool.pre ((p5.trans (p6.trans p7)).trans p11))
  have T11 := T7.mono p11
  have W11 := W7.mono p11
  -- the ways
  have hways : We ((dTru (dArgs d__law_ways_told (dCons (dVar 2) (dCons (dVar 4) (dCons (dArgs d__law_pick (dCons (dVar 1) (dCons (dVar 3) (dNil)))) (dNil)))))) [some (.scr ns), some (.ref p), some (.ref t), some (.int (n : Nat)), some (.ref w), some (.ref d), some (shutD M n), a, some (.bl (isNon (shutD M n))), b, none] S11) fun v S12 => v = true ∧ Pr p S11 S12 := by
    refine .bind (.args (.cons (.var rfl (.cons (.var rfl (.cons (.args (.cons (.var rfl (.cons (.var rfl (.nil ?_)))))))))))) 
    refine we_pick P11.pool (by omega) fun r S12 P12 r0 r1 => .nil ?_
    obtain ⟨r, rfl⟩ := Int.eq_ofNat_of_zero_le r0
    have T12 := T11.pr P12 htp hrp
    have W12 : Wd S12 w M n := by obtain ⟨cs, hc⟩ := W11; exact ⟨cs, P12.keep _ _ hwp hc⟩
    refine .ev (ev_ways_told (T12.rows q.len) W12 q (by omega)) fun S13 p13 => .ok ⟨rfl, P12.trans (P12.pool.pre p13)⟩
  obtain ⟨v, S12, ev, rfl, P12⟩ := hways.h
  refine Wn.seq (Wn.ifW (.bind ⟨⟨true, S12, ev, .ok ⟨fun z => (by cases z), fun _ => Wn.nil ?_⟩⟩⟩))
  have P12' := P11.trans P12
  have W12 : Wd S12 w M n := by obtain ⟨cs, hc⟩ := W11; exact ⟨cs, P12.keep _ _ hwp hc⟩
  -- the bad place
  refine Wn.seq (Wn.setW (.op ?_))
  refine .el (El.args (xs := [.int (-1), .int (n : Nat), .bl true, .non, .tup [.int 0]]) (.cons (.un .c (.pure fun _ _ => rfl)) (.cons (.var rfl) (.cons .c (.cons .c (.cons (.args (.cons .c .nil) (.tup (by simp))) .nil))))) (.mk (by simp))) fun c S13 p13 hc lc => ?_
  refine .args (.cons (.var rfl (.cons (.c (.nil ?_)))))
  have hcp := pool_ne P12'.pool lc
  refine we_pick (P12'.pool.pre p13).pool (by decide) fun r S14 P14 r0 r1 => ?_
  obtain ⟨r, rfl⟩ := Int.eq_ofNat_of_zero_le r0
  have hbad : ∃ bd, ([.int (-1), .int (n : Nat), .bl true, .non, .tup [.int 0]] : List D)[r]? = some bd ∧ Bad n bd := by
    have : r = 0 ∨ r = 1 ∨ r = 2 ∨ r = 3 ∨ r = 4 := by omega
    rcases this with rfl | rfl | rfl | rfl | rfl
    · exact ⟨_, rfl, .inl rfl⟩
    · exact ⟨_, rfl, .inr (.inl rfl)⟩
    · exact ⟨_, rfl, .inr (.inr (.inl rfl))⟩
    · exact ⟨_, rfl, .inr (.inr (.inr (.inl rfl)))⟩
    · exact ⟨_, rfl, .inr (.inr (.inr (.inr rfl)))⟩
  obtain ⟨bd, hbd, hB⟩ := hbad
  refine .ev (.ix (seq_ref (P14.keep _ _ hcp hc)) hbd) fun S15 p15 => ?_
  have W15 : Wd S15 w M n := by
    obtain ⟨cs, hc⟩ := W12.mono p13
    exact ⟨cs, pre_get p15 (P14.keep _ _ hwp hc)⟩
  have et : ∀ {τ : DL.Env} {S : Sto}, τ[10]? = some (some bd) → Ev ((dArgs mkTup (dCons (dC (.str "refused")) (dCons (dVar 10) (dCons (dC (.bl true)) (dNil))))) τ) S (told bd) := fun hτ => .args (.cons .c (.cons (.var hτ) (.cons .c .nil))) (.tup (by simp))
  refine Wn.seq (Wn.if (S0 := S15) (b := false) (List.prefix_refl _) (.b (.op (.args (.cons (.var rfl) (.cons .c (.cons (.var rfl) (.cons .c .nil)))) (ev_ref0 hB W15)) (et rfl) (oNe_self (pd_told hB) (.inr ⟨_, rfl⟩)))) (fun hb => by cases hb) fun _ S16 p16 => Wn.nil ?_)
  refine Wn.seq (Wn.if (S0 := S15) (b := false) p16 (.b (.op (.args (.cons (.var rfl) (.cons .c (.cons (.var rfl) (.cons (.un .c (.pure fun _ _ => rfl)) .nil)))) (ev_ref1 hB W15)) (et rfl) (oNe_self (pd_told hB) (.inr ⟨_, rfl⟩)))) (fun hb => by cases hb) fun _ S17 p17 => Wn.nil ?_)
  refine Wn.ret (S0 := S15) (p16.trans p17) (.op (.args (.cons (.var rfl) (.cons .c (.cons (.op (.var rfl) .c .sub) (.cons (.var rfl) .nil)))) ?_) (et rfl) (oEq_self (pd_told hB) (.inr ⟨_, rfl⟩))) fun S18 _ => ⟨_, S18, rfl, rfl⟩
  have : ((n : Nat) : Int) - 1 = ((n - 1 : Nat) : Int) := by omega
  rw [this]
  exact ev_ref2 hB W15 (by omega)
end K01

set_option Elab.async false
set_option linter.all false
set_option maxRecDepth 100000
set_option maxHeartbeats 4000000
/-! Each def does what its denotation says; printed by gen.py. -/
namespace K01
open PySem PyProof.Rows L2 DL
def top (i : Nat) : Stmt := PySem.Challenge.pw_copyrates_k01_ways_heads_and_shut_lots.main.body.getD i (.Pass ⟨0, 0, 0, 0⟩)
abbrev s_is_whole : Stmt := top 9
abbrev s__worlds_row : Stmt := top 23
abbrev s__worlds_calls : Stmt := top 25
abbrev s__worlds_takes : Stmt := top 24
abbrev s_World_init : Stmt := inClass (top 28) 1
abbrev s__law_closed : Stmt := top 38
abbrev s__law_lots : Stmt := top 34
abbrev s__law_least_closed : Stmt := top 41
abbrev s__law_blank : Stmt := top 33
abbrev s__law_pick : Stmt := top 31
abbrev s__law_rate : Stmt := top 32
abbrev s__law_loose : Stmt := top 36
abbrev s__law_loud : Stmt := top 37
abbrev s__law_pool : Stmt := top 30
abbrev s__law_reached : Stmt := top 39
abbrev s_bits_of : Stmt := top 12
abbrev s__linking_looks : Stmt := top 15
abbrev s_lot_from : Stmt := top 13
abbrev s__linking_reached : Stmt := top 16
abbrev s_place_of : Stmt := top 11
abbrev s_reaches : Stmt := top 19
abbrev s_way : Stmt := top 20
abbrev s__law_refused : Stmt := top 43
abbrev s__law_far : Stmt := top 40
abbrev s__law_int : Stmt := top 35
abbrev s__law_is_way : Stmt := top 42
abbrev s__law_ways_told : Stmt := top 44
abbrev s_heads : Stmt := top 21
abbrev s_shut_lot : Stmt := top 17
abbrev s_is_linked : Stmt := top 18
abbrev s_law : Stmt := top 45
abbrev s_BadPlace_init : Stmt := inClass (top 4) 0
abbrev s_BadTable_init : Stmt := inClass (top 6) 0
structure Tx (K : PySem.W.Frag) (mg : Str → Option Value) (A : Nat → Addr) (FD : Nat → FuncData) : Prop where
  n_ValueError : mg "ValueError" = none
  n_all : mg "all" = none
  n_bool : mg "bool" = none
  n_enumerate : mg "enumerate" = none
  n_int : mg "int" = none
  n_isinstance : mg "isinstance" = none
  n_len : mg "len" = none
  n_list : mg "list" = none
  n_min : mg "min" = none
  n_range : mg "range" = none
  n_sorted : mg "sorted" = none
  n_tuple : mg "tuple" = none
  g_is_whole : mg "is_whole" = some (.ref (A 0))
  g__worlds_row : mg "_worlds_row" = some (.ref (A 1))
  g__worlds_calls : mg "_worlds_calls" = some (.ref (A 2))
  g__worlds_takes : mg "_worlds_takes" = some (.ref (A 3))
  g__law_closed : mg "_law_closed" = some (.ref (A 5))
  g__law_lots : mg "_law_lots" = some (.ref (A 6))
  g__law_least_closed : mg "_law_least_closed" = some (.ref (A 7))
  g__law_blank : mg "_law_blank" = some (.ref (A 8))
  g__law_pick : mg "_law_pick" = some (.ref (A 9))
  g__law_rate : mg "_law_rate" = some (.ref (A 10))
  g__law_loose : mg "_law_loose" = some (.ref (A 11))
  g__law_loud : mg "_law_loud" = some (.ref (A 12))
  g__law_pool : mg "_law_pool" = some (.ref (A 13))
  g__law_reached : mg "_law_reached" = some (.ref (A 14))
  g_bits_of : mg "bits_of" = some (.ref (A 15))
  g__linking_looks : mg "_linking_looks" = some (.ref (A 16))
  g_lot_from : mg "lot_from" = some (.ref (A 17))
  g__linking_reached : mg "_linking_reached" = some (.ref (A 18))
  g_place_of : mg "place_of" = some (.ref (A 19))
  g_reaches : mg "reaches" = some (.ref (A 20))
  g_way : mg "way" = some (.ref (A 21))
  g__law_refused : mg "_law_refused" = some (.ref (A 22))
  g__law_far : mg "_law_far" = some (.ref (A 23))
  g__law_int : mg "_law_int" = some (.ref (A 24))
  g__law_is_way : mg "_law_is_way" = some (.ref (A 25))
  g__law_ways_told : mg "_law_ways_told" = some (.ref (A 26))
  g_heads : mg "heads" = some (.ref (A 27))
  g_shut_lot : mg "shut_lot" = some (.ref (A 28))
  g_is_linked : mg "is_linked" = some (.ref (A 29))
  g_law : mg "law" = some (.ref (A 30))
  F_is_whole : Fun K "is_whole" "is_whole" s_is_whole (A 0) (FD 0)
  b_is_whole : Binds K (FD 0) ["value"] []
  F__worlds_row : Fun K "_worlds_row" "_worlds_row" s__worlds_row (A 1) (FD 1)
  b__worlds_row : Binds K (FD 1) ["entries", "size", "at", "above"] []
  F__worlds_calls : Fun K "_worlds_calls" "_worlds_calls" s__worlds_calls (A 2) (FD 2)
  b__worlds_calls : Binds K (FD 2) ["calls", "takes"] []
  F__worlds_takes : Fun K "_worlds_takes" "_worlds_takes" s__worlds_takes (A 3) (FD 3)
  b__worlds_takes : Binds K (FD 3) ["takes"] []
  F_World_init : FunD K "__init__" "World.__init__" (defArgs s_World_init) (defBody s_World_init) (defScope s_World_init) [] [("calls", .non)] (A 4) (FD 4)
  F__law_closed : Fun K "_law_closed" "_law_closed" s__law_closed (A 5) (FD 5)
  b__law_closed : Binds K (FD 5) ["_law_takes", "_law_lot"] []
  F__law_lots : Fun K "_law_lots" "_law_lots" s__law_lots (A 6) (FD 6)
  b__law_lots : Binds K (FD 6) ["_law_size"] []
  F__law_least_closed : Fun K "_law_least_closed" "_law_least_closed" s__law_least_closed (A 7) (FD 7)
  b__law_least_closed : Binds K (FD 7) ["_law_takes"] []
  F__law_blank : Fun K "_law_blank" "_law_blank" s__law_blank (A 8) (FD 8)
  b__law_blank : Binds K (FD 8) ["_law_size"] []
  F__law_pick : Fun K "_law_pick" "_law_pick" s__law_pick (A 9) (FD 9)
  b__law_pick : Binds K (FD 9) ["_law_pool_here", "_law_many"] []
  F__law_rate : Fun K "_law_rate" "_law_rate" s__law_rate (A 10) (FD 10)
  b__law_rate : Binds K (FD 10) ["_law_pool_here"] []
  F__law_loose : Fun K "_law_loose" "_law_loose" s__law_loose (A 11) (FD 11)
  b__law_loose : Binds K (FD 11) ["_law_pool_here"] []
  F__law_loud : Fun K "_law_loud" "_law_loud" s__law_loud (A 12) (FD 12)
  b__law_loud : Binds K (FD 12) ["_law_pool_here", "_law_takes"] []
  F__law_pool : Fun K "_law_pool" "_law_pool" s__law_pool (A 13) (FD 13)
  b__law_pool : Binds K (FD 13) ["_law_script"] []
  F__law_reached : Fun K "_law_reached" "_law_reached" s__law_reached (A 14) (FD 14)
  b__law_reached : Binds K (FD 14) ["_law_takes", "_law_start"] []
  F_bits_of : Fun K "bits_of" "bits_of" s_bits_of (A 15) (FD 15)
  b_bits_of : Binds K (FD 15) ["lot"] []
  F__linking_looks : Fun K "_linking_looks" "_linking_looks" s__linking_looks (A 16) (FD 16)
  b__linking_looks : Binds K (FD 16) ["world"] []
  F_lot_from : Fun K "lot_from" "lot_from" s_lot_from (A 17) (FD 17)
  b_lot_from : Binds K (FD 17) ["number"] []
  F__linking_reached : Fun K "_linking_reached" "_linking_reached" s__linking_reached (A 18) (FD 18)
  b__linking_reached : Binds K (FD 18) ["looks", "place"] []
  F_place_of : Fun K "place_of" "place_of" s_place_of (A 19) (FD 19)
  b_place_of : Binds K (FD 19) ["value", "size"] []
  F_reaches : Fun K "reaches" "reaches" s_reaches (A 20) (FD 20)
  b_reaches : Binds K (FD 20) ["world", "place"] []
  F_way : Fun K "way" "way" s_way (A 21) (FD 21)
  b_way : Binds K (FD 21) ["world", "start", "goal"] []
  F__law_refused : Fun K "_law_refused" "_law_refused" s__law_refused (A 22) (FD 22)
  b__law_refused : Binds K (FD 22) ["_law_world", "_law_door", "_law_place", "_law_other"] []
  F__law_far : Fun K "_law_far" "_law_far" s__law_far (A 23) (FD 23)
  b__law_far : Binds K (FD 23) ["_law_takes", "_law_start"] []
  F__law_int : Fun K "_law_int" "_law_int" s__law_int (A 24) (FD 24)
  b__law_int : Binds K (FD 24) ["_law_value"] []
  F__law_is_way : Fun K "_law_is_way" "_law_is_way" s__law_is_way (A 25) (FD 25)
  b__law_is_way : Binds K (FD 25) ["_law_takes", "_law_start", "_law_goal", "_law_many", "_law_path"] []
  F__law_ways_told : Fun K "_law_ways_told" "_law_ways_told" s__law_ways_told (A 26) (FD 26)
  b__law_ways_told : Binds K (FD 26) ["_law_takes", "_law_world", "_law_start"] []
  F_heads : Fun K "heads" "heads" s_heads (A 27) (FD 27)
  b_heads : Binds K (FD 27) ["world"] []
  F_shut_lot : Fun K "shut_lot" "shut_lot" s_shut_lot (A 28) (FD 28)
  b_shut_lot : Binds K (FD 28) ["world"] []
  F_is_linked : Fun K "is_linked" "is_linked" s_is_linked (A 29) (FD 29)
  b_is_linked : Binds K (FD 29) ["world"] []
  F_law : Fun K "law" "law" s_law (A 30) (FD 30)
  b_law : Binds K (FD 30) ["_law_script"] []
  F_BadPlace_init : Fun K "__init__" "BadPlace.__init__" s_BadPlace_init (A 31) (FD 31)
  b_BadPlace_init : Binds K (FD 31) ["self", "place"] []
  F_BadTable_init : Fun K "__init__" "BadTable.__init__" s_BadTable_init (A 32) (FD 32)
  b_BadTable_init : Binds K (FD 32) ["self", "row"] []
  g_BadLot : mg "BadLot" = some (.ref (A 36))
  g_BadPlace : mg "BadPlace" = some (.ref (A 35))
  g_BadTable : mg "BadTable" = some (.ref (A 37))
  g_RatesError : mg "RatesError" = some (.ref (A 33))
  g_World : mg "World" = some (.ref (A 39))
  ox_BadPlace : OexC K (A 35)
  ic_BadPlace : PySem.W.findIn K (.ref (A 35)) "__init__" = some (some (.ref (A 31)))
  ti_BadPlace : PySem.W.typeIn K (.ref (A 31)) = some (.type "function")
  nf_BadPlace : PySem.W.findIn K (.ref (A 35)) "place" = some none
  ox_BadTable : OexC K (A 37)
  ic_BadTable : PySem.W.findIn K (.ref (A 37)) "__init__" = some (some (.ref (A 32)))
  ti_BadTable : PySem.W.typeIn K (.ref (A 32)) = some (.type "function")
  nf_BadTable : PySem.W.findIn K (.ref (A 37)) "row" = some none
  xf : ∀ k, k < 6 → XfC K (A (33 + k))
  xe : ∀ k, k < 6 → ExcC K (A (33 + k))
  no_place : ∀ k, k < 6 → PySem.W.findIn K (.ref (A (33 + k))) "place" = some none
  is_BadLot : ∀ k, k < 6 → PySem.W.kitOne K (.ref (A (33 + k))) (.ref (A 36)) = some (mt_BadLot k)
  is_RatesError : ∀ k, k < 6 → PySem.W.kitOne K (.ref (A (33 + k))) (.ref (A 33)) = some (mt_RatesError k)
  is_ValueError : ∀ k, k < 6 → PySem.W.kitOne K (.ref (A (33 + k))) (.type "ValueError") = some (mt_ValueError k)
  ct_BadPlace : Catches K ⟨fun n => A (33 + n), none⟩ (.ref (A 35)) 6 mt_BadPlace
  sc_World : SlX.SCls K (A 39)
  sl_World_size : SlX.Slot1 K (A 39) "size" (A 40) 1
  sl_World_takes : SlX.Slot1 K (A 39) "takes" (A 41) 2
  sl_World_calls : SlX.Slot1 K (A 39) "calls" (A 42) 0
  mk_World : Mk K (A 39) (A 4)
  kb_World : KBn K (FD 4) ["self", "takes", "calls"] 2 ["calls"] (fun us ws => us ++ ws) (fun vs zs => vs ++ zs)
section
variable {P : Program} {w : World} {K : PySem.W.Frag} {mg : Str → Option Value} {base : Heap} {A : Nat → Addr} {FD : Nat → FuncData}
abbrev cg (A : Nat → Addr) : G := ⟨fun n => A (33 + n), none⟩
theorem sc_BadPlace_init : FnScope ["self", "place"] ["self", "place"] (defScope s_BadPlace_init) := ⟨rfl, rfl, rfl, by decide +kernel, rfl, by decide +kernel, by decide +kernel⟩
theorem ex_BadPlace (T : Tx K mg A FD) : ExK P w K mg base (A 35) "place" (A 31) (FD 31) ["self", "place"] 1 := exk_mk T.ox_BadPlace T.ic_BadPlace T.ti_BadPlace T.nf_BadPlace T.F_BadPlace_init sc_BadPlace_init rfl T.b_BadPlace_init fun cdv A outer s H E => pss_one (ps_ost (pv 0) (pv 1))
theorem sc_BadTable_init : FnScope ["self", "row"] ["self", "row"] (defScope s_BadTable_init) := ⟨rfl, rfl, rfl, by decide +kernel, rfl, by decide +kernel, by decide +kernel⟩
theorem ex_BadTable (T : Tx K mg A FD) : ExK P w K mg base (A 37) "row" (A 32) (FD 32) ["self", "row"] 1 := exk_mk T.ox_BadTable T.ic_BadTable T.ti_BadTable T.nf_BadTable T.F_BadTable_init sc_BadTable_init rfl T.b_BadTable_init fun cdv A outer s H E => pss_one (ps_ost (pv 0) (pv 1))
theorem sc_is_whole : FnScope ["value"] ["value"] (defScope s_is_whole) := ⟨rfl, rfl, rfl, by decide +kernel, rfl, by decide +kernel, by decide +kernel⟩
theorem ok_is_whole (T : Tx K mg A FD) : FnD P w K mg base (cg A) 2 (A 0) (FD 0) ["value"] d_is_whole := by
  refine fnd_of rfl T.F_is_whole sc_is_whole fun cdv A outer s H E hr => ?_
  have hu := hr.units
  have nd := (sc_is_whole).nd
  unfold b_is_whole
  exact dss_one (ds_ret (de_and (de_isi1 (de_var 0) T.n_isinstance T.n_int (by decide +kernel)) (de_one (de_not (de_isi1 (de_var 0) T.n_isinstance T.n_bool (by decide +kernel))))))
theorem sc__worlds_row : FnScope ["entries", "size", "at", "above", "k", "entry"] ["entries", "size", "at", "above"] (defScope s__worlds_row) := ⟨rfl, rfl, rfl, by decide +kernel, rfl, by decide +kernel, by decide +kernel⟩
theorem ok__worlds_row (T : Tx K mg A FD) : FnD P w K mg base (cg A) 5 (A 1) (FD 1) ["entries", "size", "at", "above"] d__worlds_row := by
  refine fnd_of rfl T.F__worlds_row sc__worlds_row fun cdv A outer s H E hr => ?_
  have hu := hr.units
  have nd := (sc__worlds_row).nd
  unfold b__worlds_row
  exact dss_cons (ds_if ((dw_or (dt_not (dt_truth (de_isi2 (de_var 0) T.n_isinstance T.n_tuple T.n_list (by decide +kernel) (by decide +kernel)))) (dw_or1 (dt_ne hu (de_callB (fun _ _ => call_len_seq) opn_len T.n_len (by decide +kernel) (da_cons (de_var 0) (da_nil))) (de_var 1)))).dt) (dss_one (ds_raise (ex_BadTable T) rfl (hr.mono (by decide)) rfl T.g_BadTable (de_var 2))) (dss_nil)) (dss_cons (ds_for rfl (di_enum T.n_enumerate (da_cons (de_var 0) (da_nil))) (dg_tup rfl (dgs_cons (dg_name 4 nd) (dgs_cons (dg_name 5 nd) (dgs_nil)))) (dss_cons (ds_if ((dw_or (dt_not (dt_truth (de_call (ok_is_whole T) (hr.mono (by decide)) T.g_is_whole T.F_is_whole.kp T.b_is_whole (da_cons (de_var 5) (da_nil)) (hn := (dn_cons dn_nil))))) (dw_or (dt_lt (de_var 5) (de_int)) (dw_or1 ((dw_and (dt_eq hu (de_var 4) (de_var 2)) (dw_and1 (dt_ne hu (de_var 5) (de_int)))).dt)))).dt) (dss_one (ds_raise (ex_BadTable T) rfl (hr.mono (by decide)) rfl T.g_BadTable (de_var 2))) (dss_nil)) (dss_one (ds_if ((dw_and (dt_notN (de_var 3) (de_non)) (dw_and (dt_gt (de_var 5) (de_int)) (dw_and1 (dt_eq hu (de_item (de_var 3) (de_var 4)) (de_int))))).dt) (dss_one (ds_raise (ex_BadTable T) rfl (hr.mono (by decide)) rfl T.g_BadTable (de_var 2))) (dss_nil))))) (dss_one (ds_ret (de_callTy (fun _ _ => call_tuple_of) opn_tuple T.n_tuple (by decide +kernel) (da_cons (de_var 0) (da_nil))))))
theorem sc__worlds_calls : FnScope ["calls", "takes", "size", "j", "i"] ["calls", "takes"] (defScope s__worlds_calls) := ⟨rfl, rfl, rfl, by decide +kernel, rfl, by decide +kernel, by decide +kernel⟩
theorem ok__worlds_calls (T : Tx K mg A FD) : FnD P w K mg base (cg A) 6 (A 2) (FD 2) ["calls", "takes"] d__worlds_calls := by
  refine fnd_of rfl T.F__worlds_calls sc__worlds_calls fun cdv A outer s H E hr => ?_
  have hu := hr.units
  have nd := (sc__worlds_calls).nd
  unfold b__worlds_calls
  exact dss_cons (ds_set 2 nd (de_callB (fun _ _ => call_len_seq) opn_len T.n_len (by decide +kernel) (da_cons (de_var 1) (da_nil)))) (dss_cons (ds_if (dt_isN (de_var 0) (de_non)) (dss_one (ds_ret (de_callTy (fun _ _ => call_tuple_of) opn_tuple T.n_tuple (by decide +kernel) (da_cons (de_lc rfl nd rfl (di_range1 T.n_range (da_cons (de_var 2) (da_nil))) (blkOk_by (own := [("i", 4)]) (by kernel_rfl)) (fun _ _ _ _ _ => dg_name 4 nd) (fun _ _ _ _ _ => dts_nil) (fun _ _ _ _ _ => de_callTy (fun _ _ => call_tuple_of) opn_tuple T.n_tuple (by decide +kernel) (da_cons (de_lc rfl nd rfl (di_range1 T.n_range (da_cons (de_var 2) (da_nil))) (blkOk_by (own := [("j", 3)]) (by kernel_rfl)) (fun _ _ _ _ _ => dg_name 3 nd) (fun _ _ _ _ _ => dts_nil) (fun _ _ _ _ _ => de_int)) (da_nil)))) (da_nil))))) (dss_nil)) (dss_cons (ds_if ((dw_or (dt_not (dt_truth (de_isi2 (de_var 0) T.n_isinstance T.n_tuple T.n_list (by decide +kernel) (by decide +kernel)))) (dw_or1 (dt_ne hu (de_callB (fun _ _ => call_len_seq) opn_len T.n_len (by decide +kernel) (da_cons (de_var 0) (da_nil))) (de_var 2)))).dt) (dss_one (ds_raise (ex_BadTable T) rfl (hr.mono (by decide)) rfl T.g_BadTable (de_neg (de_int)))) (dss_nil)) (dss_one (ds_ret (de_callTy (fun _ _ => call_tuple_of) opn_tuple T.n_tuple (by decide +kernel) (da_cons (de_lc rfl nd rfl (di_range1 T.n_range (da_cons (de_var 2) (da_nil))) (blkOk_by (own := [("i", 4)]) (by kernel_rfl)) (fun _ _ _ _ _ => dg_name 4 nd) (fun _ _ _ _ _ => dts_nil) (fun _ _ _ _ _ => de_call (ok__worlds_row T) (hr.mono (by decide)) T.g__worlds_row T.F__worlds_row.kp T.b__worlds_row (da_cons (de_item (de_var 0) (de_var 4)) (da_cons (de_var 2) (da_cons (de_var 4) (da_cons (de_item (de_var 1) (de_var 4)) (da_nil))))) (hn := (dn_cons (dn_cons (dn_cons (dn_cons dn_nil))))))) (da_nil)))))))
theorem sc__worlds_takes : FnScope ["takes", "size", "i"] ["takes"] (defScope s__worlds_takes) := ⟨rfl, rfl, rfl, by decide +kernel, rfl, by decide +kernel, by decide +kernel⟩
theorem ok__worlds_takes (T : Tx K mg A FD) : FnD P w K mg base (cg A) 6 (A 3) (FD 3) ["takes"] d__worlds_takes := by
  refine fnd_of rfl T.F__worlds_takes sc__worlds_takes fun cdv A outer s H E hr => ?_
  have hu := hr.units
  have nd := (sc__worlds_takes).nd
  unfold b__worlds_takes
  exact dss_cons (ds_if ((dw_or (dt_not (dt_truth (de_isi2 (de_var 0) T.n_isinstance T.n_tuple T.n_list (by decide +kernel) (by decide +kernel)))) (dw_or1 (dt_not (dt_chain (fun _ _ => op_le) (fun _ _ => op_le) (op2_int0 fun _ _ _ _ _ => .bl) (op2_int0 fun _ _ _ _ _ => .bl) (de_int) (de_callB (fun _ _ => call_len_seq) opn_len T.n_len (by decide +kernel) (da_cons (de_var 0) (da_nil))) (de_int))))).dt) (dss_one (ds_raise (ex_BadTable T) rfl (hr.mono (by decide)) rfl T.g_BadTable (de_neg (de_int)))) (dss_nil)) (dss_cons (ds_set 1 nd (de_callB (fun _ _ => call_len_seq) opn_len T.n_len (by decide +kernel) (da_cons (de_var 0) (da_nil)))) (dss_one (ds_ret (de_callTy (fun _ _ => call_tuple_of) opn_tuple T.n_tuple (by decide +kernel) (da_cons (de_lc rfl nd rfl (di_range1 T.n_range (da_cons (de_var 1) (da_nil))) (blkOk_by (own := [("i", 2)]) (by kernel_rfl)) (fun _ _ _ _ _ => dg_name 2 nd) (fun _ _ _ _ _ => dts_nil) (fun _ _ _ _ _ => de_call (ok__worlds_row T) (hr.mono (by decide)) T.g__worlds_row T.F__worlds_row.kp T.b__worlds_row (da_cons (de_item (de_var 0) (de_var 2)) (da_cons (de_var 1) (da_cons (de_var 2) (da_cons (de_non) (da_nil))))) (hn := (dn_cons (dn_cons (dn_cons (dn_cons dn_nil))))))) (da_nil))))))
theorem sc_World_init : FnScope ["self", "takes", "calls"] ["self", "takes", "calls"] (defScope s_World_init) := ⟨rfl, rfl, rfl, by decide +kernel, rfl, by decide +kernel, by decide +kernel⟩
theorem ok_World_init (T : Tx K mg A FD) : FnD P w K mg base (cg A) 7 (A 4) (FD 4) ["self", "takes", "calls"] d_World_init := by
  refine fnd_ofD rfl T.F_World_init sc_World_init fun cdv A outer s H E hr => ?_
  have hu := hr.units
  have nd := (sc_World_init).nd
  unfold b_World_init
  exact dss_cons (ds_slot rfl T.sc_World T.sl_World_takes (de_call (ok__worlds_takes T) (hr.mono (by decide)) T.g__worlds_takes T.F__worlds_takes.kp T.b__worlds_takes (da_cons (de_var 1) (da_nil)) (hn := (dn_cons dn_nil))) (de_var 0)) (dss_cons (ds_slot rfl T.sc_World T.sl_World_size (de_callB (fun _ _ => call_len_seq) opn_len T.n_len (by decide +kernel) (da_cons (de_slot rfl T.sc_World T.sl_World_takes (de_var 0)) (da_nil))) (de_var 0)) (dss_one (ds_slot rfl T.sc_World T.sl_World_calls (de_call (ok__worlds_calls T) (hr.mono (by decide)) T.g__worlds_calls T.F__worlds_calls.kp T.b__worlds_calls (da_cons (de_var 2) (da_cons (de_slot rfl T.sc_World T.sl_World_takes (de_var 0)) (da_nil))) (hn := (dn_cons (dn_cons dn_nil)))) (de_var 0))))
theorem sc__law_closed : FnScope ["_law_takes", "_law_lot", "_law_i", "_law_j"] ["_law_takes", "_law_lot"] (defScope s__law_closed) := ⟨rfl, rfl, rfl, by decide +kernel, rfl, by decide +kernel, by decide +kernel⟩
theorem ok__law_closed (T : Tx K mg A FD) : FnD P w K mg base (cg A) 2 (A 5) (FD 5) ["_law_takes", "_law_lot"] d__law_closed := by
  refine fnd_of rfl T.F__law_closed sc__law_closed fun cdv A outer s H E hr => ?_
  have hu := hr.units
  have nd := (sc__law_closed).nd
  unfold b__law_closed
  exact dss_cons (ds_for rfl (di_seq (de_var 1)) (dg_name 2 nd) (dss_one (ds_for rfl (di_range1 T.n_range (da_cons (de_callB (fun _ _ => call_len_seq) opn_len T.n_len (by decide +kernel) (da_cons (de_var 0) (da_nil))) (da_nil))) (dg_name 3 nd) (dss_one (ds_if ((dw_and (dt_gt (de_item (de_item (de_var 0) (de_var 2)) (de_var 3)) (de_int)) (dw_and1 (dt_notin (de_var 3) (de_var 1)))).dt) (dss_one (ds_ret (de_bl))) (dss_nil)))))) (dss_one (ds_ret (de_gt (de_callB (fun _ _ => call_len_seq) opn_len T.n_len (by decide +kernel) (da_cons (de_var 1) (da_nil))) (de_int))))
theorem sc__law_lots : FnScope ["_law_size", "_law_lots_here", "_law_place", "_law_lot"] ["_law_size"] (defScope s__law_lots) := ⟨rfl, rfl, rfl, by decide +kernel, rfl, by decide +kernel, by decide +kernel⟩
theorem ok__law_lots (T : Tx K mg A FD) : FnD P w K mg base (cg A) 2 (A 6) (FD 6) ["_law_size"] d__law_lots := by
  refine fnd_of rfl T.F__law_lots sc__law_lots fun cdv A outer s H E hr => ?_
  have hu := hr.units
  have nd := (sc__law_lots).nd
  unfold b__law_lots
  exact dss_cons (ds_set 1 nd (de_lst (da_cons (de_lst (da_nil)) (da_nil)))) (dss_cons (ds_for rfl (di_range1 T.n_range (da_cons (de_var 0) (da_nil))) (dg_name 2 nd) (dss_one (ds_set 1 nd (de_add (de_var 1) (de_lc rfl nd rfl (di_seq (de_var 1)) (blkOk_by (own := [("_law_lot", 3)]) (by kernel_rfl)) (fun _ _ _ _ _ => dg_name 3 nd) (fun _ _ _ _ _ => dts_nil) (fun _ _ _ _ _ => de_add (de_var 3) (de_lst (da_cons (de_var 2) (da_nil))))))))) (dss_one (ds_ret (de_var 1))))
theorem sc__law_least_closed : FnScope ["_law_takes", "_law_closed_here", "_law_lot", "_law_found", "_law_inner", "_law_other", "_law_p"] ["_law_takes"] (defScope s__law_least_closed) := ⟨rfl, rfl, rfl, by decide +kernel, rfl, by decide +kernel, by decide +kernel⟩
theorem ok__law_least_closed (T : Tx K mg A FD) : FnD P w K mg base (cg A) 3 (A 7) (FD 7) ["_law_takes"] d__law_least_closed := by
  refine fnd_of rfl T.F__law_least_closed sc__law_least_closed fun cdv A outer s H E hr => ?_
  have hu := hr.units
  have nd := (sc__law_least_closed).nd
  unfold b__law_least_closed
  exact dss_cons (ds_setLc 1 rfl nd rfl (di_seq (de_call (ok__law_lots T) (hr.mono (by decide)) T.g__law_lots T.F__law_lots.kp T.b__law_lots (da_cons (de_callB (fun _ _ => call_len_seq) opn_len T.n_len (by decide +kernel) (da_cons (de_var 0) (da_nil))) (da_nil)) (hn := (dn_cons dn_nil)))) (blkOk_by (own := [("_law_lot", 2)]) (by kernel_rfl)) (fun _ _ _ _ _ => dg_name 2 nd) (fun _ _ _ _ _ => dts_one (dt_truth (de_call (ok__law_closed T) (hr.mono (by decide)) T.g__law_closed T.F__law_closed.kp T.b__law_closed (da_cons (de_var 0) (da_cons (de_var 2) (da_nil))) (hn := (dn_cons (dn_cons dn_nil)))))) (fun _ _ _ _ _ => de_var 2)) (dss_cons (ds_set 3 nd (de_lst (da_nil))) (dss_cons (ds_for rfl (di_seq (de_var 1)) (dg_name 2 nd) (dss_cons (ds_set 4 nd (de_int)) (dss_cons (ds_for rfl (di_seq (de_var 1)) (dg_name 5 nd) (dss_one (ds_if ((dw_and (dt_lt (de_callB (fun _ _ => call_len_seq) opn_len T.n_len (by decide +kernel) (da_cons (de_var 5) (da_nil))) (de_callB (fun _ _ => call_len_seq) opn_len T.n_len (by decide +kernel) (da_cons (de_var 2) (da_nil)))) (dw_and1 (dt_eq hu (de_callB (fun _ _ => call_len_seq) opn_len T.n_len (by decide +kernel) (da_cons (de_lc rfl nd rfl (di_seq (de_var 5)) (blkOk_by (own := [("_law_p", 6)]) (by kernel_rfl)) (fun _ _ _ _ _ => dg_name 6 nd) (fun _ _ _ _ _ => dts_one (dt_in (de_var 6) (de_var 2))) (fun _ _ _ _ _ => de_var 6)) (da_nil))) (de_callB (fun _ _ => call_len_seq) opn_len T.n_len (by decide +kernel) (da_cons (de_var 5) (da_nil)))))).dt) (dss_one (ds_set 4 nd (de_add (de_var 4) (de_int)))) (dss_nil)))) (dss_one (ds_if (dt_eq hu (de_var 4) (de_int)) (dss_one (ds_expr (de_append (de_var 3) (da_cons (de_callTy (fun _ _ => call_tuple_of) opn_tuple T.n_tuple (by decide +kernel) (da_cons (de_var 2) (da_nil))) (da_nil))))) (dss_nil)))))) (dss_one (ds_ret (de_callTy (fun _ _ => call_tuple_of) opn_tuple T.n_tuple (by decide +kernel) (da_cons (de_callB (fun _ _ => cr_sortedG hu) opn_sorted T.n_sorted (by decide +kernel) (da_cons (de_var 3) (da_nil))) (da_nil)))))))
theorem sc__law_blank : FnScope ["_law_size", "_law_rows", "_law_place"] ["_law_size"] (defScope s__law_blank) := ⟨rfl, rfl, rfl, by decide +kernel, rfl, by decide +kernel, by decide +kernel⟩
theorem ok__law_blank (T : Tx K mg A FD) : FnD P w K mg base (cg A) 2 (A 8) (FD 8) ["_law_size"] d__law_blank := by
  refine fnd_of rfl T.F__law_blank sc__law_blank fun cdv A outer s H E hr => ?_
  have hu := hr.units
  have nd := (sc__law_blank).nd
  unfold b__law_blank
  exact dss_cons (ds_set 1 nd (de_lst (da_nil))) (dss_cons (ds_for rfl (di_range1 T.n_range (da_cons (de_var 0) (da_nil))) (dg_name 2 nd) (dss_one (ds_expr (de_append (de_var 1) (da_cons (de_mul (de_lst (da_cons (de_int) (da_nil))) (de_var 0)) (da_nil)))))) (dss_one (ds_ret (de_var 1))))
theorem sc__law_pick : FnScope ["_law_pool_here", "_law_many"] ["_law_pool_here", "_law_many"] (defScope s__law_pick) := ⟨rfl, rfl, rfl, by decide +kernel, rfl, by decide +kernel, by decide +kernel⟩
theorem ok__law_pick (T : Tx K mg A FD) : FnD P w K mg base (cg A) 2 (A 9) (FD 9) ["_law_pool_here", "_law_many"] d__law_pick := by
  refine fnd_of rfl T.F__law_pick sc__law_pick fun cdv A outer s H E hr => ?_
  have hu := hr.units
  have nd := (sc__law_pick).nd
  unfold b__law_pick
  exact dss_cons (ds_if (dt_eq hu (de_callB (fun _ _ => call_len_seq) opn_len T.n_len (by decide +kernel) (da_cons (de_var 0) (da_nil))) (de_int)) (dss_one (ds_ret (de_int))) (dss_nil)) (dss_one (ds_ret (de_mod (de_callTy (fun _ _ => call_int1) opn_int T.n_int (by decide +kernel) (da_cons (de_pop (de_var 0)) (da_nil))) (de_var 1))))
theorem sc__law_rate : FnScope ["_law_pool_here", "_law_word"] ["_law_pool_here"] (defScope s__law_rate) := ⟨rfl, rfl, rfl, by decide +kernel, rfl, by decide +kernel, by decide +kernel⟩
theorem ok__law_rate (T : Tx K mg A FD) : FnD P w K mg base (cg A) 3 (A 10) (FD 10) ["_law_pool_here"] d__law_rate := by
  refine fnd_of rfl T.F__law_rate sc__law_rate fun cdv A outer s H E hr => ?_
  have hu := hr.units
  have nd := (sc__law_rate).nd
  unfold b__law_rate
  exact dss_cons (ds_set 1 nd (de_call (ok__law_pick T) (hr.mono (by decide)) T.g__law_pick T.F__law_pick.kp T.b__law_pick (da_cons (de_var 0) (da_cons (de_int) (da_nil))) (hn := (dn_cons (dn_cons dn_nil))))) (dss_cons (ds_if (dt_eq hu (de_var 1) (de_int)) (dss_one (ds_ret (de_add (de_int) (de_mul (de_int) (de_call (ok__law_pick T) (hr.mono (by decide)) T.g__law_pick T.F__law_pick.kp T.b__law_pick (da_cons (de_var 0) (da_cons (de_int) (da_nil))) (hn := (dn_cons (dn_cons dn_nil)))))))) (dss_nil)) (dss_one (ds_ret (de_item (de_lst (da_cons (de_int) (da_cons (de_int) (da_cons (de_int) (da_cons (de_int) (da_cons (de_int) (da_cons (de_int) (da_cons (de_int) (da_cons (de_int) (da_cons (de_int) (da_cons (de_int) (da_cons (de_int) (da_nil))))))))))))) (de_var 1)))))
theorem sc__law_loose : FnScope ["_law_pool_here", "_law_size", "_law_thin", "_law_turned", "_law_takes", "_law_i", "_law_row", "_law_j"] ["_law_pool_here"] (defScope s__law_loose) := ⟨rfl, rfl, rfl, by decide +kernel, rfl, by decide +kernel, by decide +kernel⟩
theorem ok__law_loose (T : Tx K mg A FD) : FnD P w K mg base (cg A) 4 (A 11) (FD 11) ["_law_pool_here"] d__law_loose := by
  refine fnd_of rfl T.F__law_loose sc__law_loose fun cdv A outer s H E hr => ?_
  have hu := hr.units
  have nd := (sc__law_loose).nd
  unfold b__law_loose
  exact dss_cons (ds_set 1 nd (de_item (de_lst (da_cons (de_int) (da_cons (de_int) (da_cons (de_int) (da_cons (de_int) (da_cons (de_int) (da_cons (de_int) (da_nil)))))))) (de_call (ok__law_pick T) (hr.mono (by decide)) T.g__law_pick T.F__law_pick.kp T.b__law_pick (da_cons (de_var 0) (da_cons (de_int) (da_nil))) (hn := (dn_cons (dn_cons dn_nil)))))) (dss_cons (ds_set 2 nd (de_add (de_int) (de_call (ok__law_pick T) (hr.mono (by decide)) T.g__law_pick T.F__law_pick.kp T.b__law_pick (da_cons (de_var 0) (da_cons (de_int) (da_nil))) (hn := (dn_cons (dn_cons dn_nil)))))) (dss_cons (ds_set 3 nd (de_eq hu (de_call (ok__law_pick T) (hr.mono (by decide)) T.g__law_pick T.F__law_pick.kp T.b__law_pick (da_cons (de_var 0) (da_cons (de_int) (da_nil))) (hn := (dn_cons (dn_cons dn_nil)))) (de_int))) (dss_cons (ds_set 4 nd (de_call (ok__law_blank T) (hr.mono (by decide)) T.g__law_blank T.F__law_blank.kp T.b__law_blank (da_cons (de_var 1) (da_nil)) (hn := (dn_cons dn_nil)))) (dss_cons (ds_for rfl (di_range1 T.n_range (da_cons (de_var 1) (da_nil))) (dg_name 5 nd) (dss_cons (ds_set 6 nd (de_item (de_var 4) (de_var 5))) (dss_one (ds_for rfl (di_range1 T.n_range (da_cons (de_var 1) (da_nil))) (dg_name 7 nd) (dss_one (ds_if ((dw_and (dt_ne hu (de_var 7) (de_var 5)) (dw_and1 (dt_eq hu (de_var 3) (de_ge (de_call (ok__law_pick T) (hr.mono (by decide)) T.g__law_pick T.F__law_pick.kp T.b__law_pick (da_cons (de_var 0) (da_cons (de_int) (da_nil))) (hn := (dn_cons (dn_cons dn_nil)))) (de_var 2))))).dt) (dss_one (ds_put (de_call (ok__law_rate T) (hr.mono (by decide)) T.g__law_rate T.F__law_rate.kp T.b__law_rate (da_cons (de_var 0) (da_nil)) (hn := (dn_cons dn_nil))) (de_var 6) (de_var 7))) (dss_nil))))))) (dss_one (ds_ret (de_var 4)))))))
theorem sc__law_loud : FnScope ["_law_pool_here", "_law_takes", "_law_loud_here", "_law_i", "_law_row", "_law_j"] ["_law_pool_here", "_law_takes"] (defScope s__law_loud) := ⟨rfl, rfl, rfl, by decide +kernel, rfl, by decide +kernel, by decide +kernel⟩
theorem ok__law_loud (T : Tx K mg A FD) : FnD P w K mg base (cg A) 3 (A 12) (FD 12) ["_law_pool_here", "_law_takes"] d__law_loud := by
  refine fnd_of rfl T.F__law_loud sc__law_loud fun cdv A outer s H E hr => ?_
  have hu := hr.units
  have nd := (sc__law_loud).nd
  unfold b__law_loud
  exact dss_cons (ds_set 2 nd (de_call (ok__law_blank T) (hr.mono (by decide)) T.g__law_blank T.F__law_blank.kp T.b__law_blank (da_cons (de_callB (fun _ _ => call_len_seq) opn_len T.n_len (by decide +kernel) (da_cons (de_var 1) (da_nil))) (da_nil)) (hn := (dn_cons dn_nil)))) (dss_cons (ds_for rfl (di_range1 T.n_range (da_cons (de_callB (fun _ _ => call_len_seq) opn_len T.n_len (by decide +kernel) (da_cons (de_var 1) (da_nil))) (da_nil))) (dg_name 3 nd) (dss_cons (ds_set 4 nd (de_item (de_var 2) (de_var 3))) (dss_one (ds_for rfl (di_range1 T.n_range (da_cons (de_callB (fun _ _ => call_len_seq) opn_len T.n_len (by decide +kernel) (da_cons (de_var 1) (da_nil))) (da_nil))) (dg_name 5 nd) (dss_one (ds_if (dt_gt (de_item (de_item (de_var 1) (de_var 3)) (de_var 5)) (de_int)) (dss_one (ds_put (de_item (de_lst (da_cons (de_int) (da_cons (de_int) (da_cons (de_int) (da_cons (de_int) (da_cons (de_int) (da_cons (de_int) (da_nil)))))))) (de_call (ok__law_pick T) (hr.mono (by decide)) T.g__law_pick T.F__law_pick.kp T.b__law_pick (da_cons (de_var 0) (da_cons (de_int) (da_nil))) (hn := (dn_cons (dn_cons dn_nil))))) (de_var 4) (de_var 5))) (dss_nil))))))) (dss_one (ds_ret (de_var 2))))
theorem sc__law_pool : FnScope ["_law_script", "_law_pool_here", "_law_at", "_law_cell", "_law_turn", "_law_mixed"] ["_law_script"] (defScope s__law_pool) := ⟨rfl, rfl, rfl, by decide +kernel, rfl, by decide +kernel, by decide +kernel⟩
theorem ok__law_pool (T : Tx K mg A FD) : FnD P w K mg base (cg A) 2 (A 13) (FD 13) ["_law_script"] d__law_pool := by
  refine fnd_of rfl T.F__law_pool sc__law_pool fun cdv A outer s H E hr => ?_
  have hu := hr.units
  have nd := (sc__law_pool).nd
  unfold b__law_pool
  exact dss_cons (ds_set 1 nd (de_lst (da_nil))) (dss_cons (ds_for rfl (di_range1 T.n_range (da_cons (de_callB (fun _ _ => call_min2 rfl) opn_min2 T.n_min (by decide +kernel) (da_cons (de_int) (da_cons (de_callB (fun _ _ => call_len_seq) opn_len T.n_len (by decide +kernel) (da_cons (de_var 0) (da_nil))) (da_nil)))) (da_nil))) (dg_name 2 nd) (dss_cons (ds_set 3 nd (de_callTy (fun _ _ => call_int1) opn_int T.n_int (by decide +kernel) (da_cons (de_item (de_var 0) (de_var 2)) (da_nil)))) (dss_cons (ds_if (dt_lt (de_var 3) (de_int)) (dss_one (ds_set 3 nd (de_sub (de_int) (de_mul (de_int) (de_var 3))))) (dss_nil)) (dss_one (ds_if (dt_ge (de_var 3) (de_pow (de_int) (de_int))) (dss_one (ds_for rfl (di_range1 T.n_range (da_cons (de_int) (da_nil))) (dg_name 4 nd) (dss_one (ds_if (dt_gt (de_var 3) (de_int)) (dss_cons (ds_expr (de_append (de_var 1) (da_cons (de_mod (de_callTy (fun _ _ => call_int1) opn_int T.n_int (by decide +kernel) (da_cons (de_var 3) (da_nil))) (de_int)) (da_nil)))) (dss_one (ds_set 3 nd (de_fdiv (de_var 3) (de_int))))) (dss_nil))))) (dss_cons (ds_set 5 nd (de_mod (de_callTy (fun _ _ => call_int1) opn_int T.n_int (by decide +kernel) (da_cons (de_add (de_add (de_mul (de_var 3) (de_int)) (de_mul (de_var 2) (de_int))) (de_int)) (da_nil))) (de_int))) (dss_one (ds_for rfl (di_range1 T.n_range (da_cons (de_int) (da_nil))) (dg_name 4 nd) (dss_cons (ds_set 5 nd (de_mod (de_callTy (fun _ _ => call_int1) opn_int T.n_int (by decide +kernel) (da_cons (de_add (de_add (de_mul (de_var 5) (de_var 5)) (de_mul (de_add (de_var 4) (de_int)) (de_int))) (de_var 3)) (da_nil))) (de_int))) (dss_cons (ds_set 5 nd (de_mod (de_callTy (fun _ _ => call_int1) opn_int T.n_int (by decide +kernel) (da_cons (de_add (de_add (de_mul (de_var 5) (de_int)) (de_var 2)) (de_var 4)) (da_nil))) (de_int))) (dss_one (ds_expr (de_append (de_var 1) (da_cons (de_fdiv (de_var 5) (de_int)) (da_nil))))))))))))))) (dss_cons (ds_expr (de_reverse (de_var 1))) (dss_one (ds_ret (de_var 1)))))
theorem sc__law_reached : FnScope ["_law_takes", "_law_start", "_law_found", "_law_turn", "_law_i", "_law_j"] ["_law_takes", "_law_start"] (defScope s__law_reached) := ⟨rfl, rfl, rfl, by decide +kernel, rfl, by decide +kernel, by decide +kernel⟩
theorem ok__law_reached (T : Tx K mg A FD) : FnD P w K mg base (cg A) 2 (A 14) (FD 14) ["_law_takes", "_law_start"] d__law_reached := by
  refine fnd_of rfl T.F__law_reached sc__law_reached fun cdv A outer s H E hr => ?_
  have hu := hr.units
  have nd := (sc__law_reached).nd
  unfold b__law_reached
  exact dss_cons (ds_set 2 nd (de_lst (da_cons (de_var 1) (da_nil)))) (dss_cons (ds_for rfl (di_range1 T.n_range (da_cons (de_callB (fun _ _ => call_len_seq) opn_len T.n_len (by decide +kernel) (da_cons (de_var 0) (da_nil))) (da_nil))) (dg_name 3 nd) (dss_one (ds_for rfl (di_seq (de_callTy (fun _ _ => call_list_of) opn_list T.n_list (by decide +kernel) (da_cons (de_var 2) (da_nil)))) (dg_name 4 nd) (dss_one (ds_for rfl (di_range1 T.n_range (da_cons (de_callB (fun _ _ => call_len_seq) opn_len T.n_len (by decide +kernel) (da_cons (de_var 0) (da_nil))) (da_nil))) (dg_name 5 nd) (dss_one (ds_if ((dw_and (dt_gt (de_item (de_item (de_var 0) (de_var 4)) (de_var 5)) (de_int)) (dw_and1 (dt_notin (de_var 5) (de_var 2)))).dt) (dss_one (ds_expr (de_append (de_var 2) (da_cons (de_var 5) (da_nil))))) (dss_nil)))))))) (dss_one (ds_ret (de_callB (fun _ _ => cr_sortedG hu) opn_sorted T.n_sorted (by decide +kernel) (da_cons (de_var 2) (da_nil))))))
theorem sc_bits_of : FnScope ["lot", "number", "place"] ["lot"] (defScope s_bits_of) := ⟨rfl, rfl, rfl, by decide +kernel, rfl, by decide +kernel, by decide +kernel⟩
theorem ok_bits_of (T : Tx K mg A FD) : FnD P w K mg base (cg A) 2 (A 15) (FD 15) ["lot"] d_bits_of := by
  refine fnd_of rfl T.F_bits_of sc_bits_of fun cdv A outer s H E hr => ?_
  have hu := hr.units
  have nd := (sc_bits_of).nd
  unfold b_bits_of
  exact dss_cons (ds_set 1 nd (de_int)) (dss_cons (ds_for rfl (di_seq (de_var 0)) (dg_name 2 nd) (dss_one (ds_set 1 nd (de_bor (de_var 1) (de_shl (de_int) (de_var 2)))))) (dss_one (ds_ret (de_var 1))))
theorem sc__linking_looks : FnScope ["world", "size", "j", "row"] ["world"] (defScope s__linking_looks) := ⟨rfl, rfl, rfl, by decide +kernel, rfl, by decide +kernel, by decide +kernel⟩
theorem ok__linking_looks (T : Tx K mg A FD) : FnD P w K mg base (cg A) 3 (A 16) (FD 16) ["world"] d__linking_looks := by
  refine fnd_of rfl T.F__linking_looks sc__linking_looks fun cdv A outer s H E hr => ?_
  have hu := hr.units
  have nd := (sc__linking_looks).nd
  unfold b__linking_looks
  exact dss_cons (ds_set 1 nd (de_slot rfl T.sc_World T.sl_World_size (de_var 0))) (dss_one (ds_ret (de_lc rfl nd rfl (di_seq (de_slot rfl T.sc_World T.sl_World_takes (de_var 0))) (blkOk_by (own := [("row", 3)]) (by kernel_rfl)) (fun _ _ _ _ _ => dg_name 3 nd) (fun _ _ _ _ _ => dts_nil) (fun _ _ _ _ _ => de_call (ok_bits_of T) (hr.mono (by decide)) T.g_bits_of T.F_bits_of.kp T.b_bits_of (da_cons (de_lc rfl nd rfl (di_range1 T.n_range (da_cons (de_var 1) (da_nil))) (blkOk_by (own := [("j", 2)]) (by kernel_rfl)) (fun _ _ _ _ _ => dg_name 2 nd) (fun _ _ _ _ _ => dts_one (dt_gt (de_item (de_var 3) (de_var 2)) (de_int))) (fun _ _ _ _ _ => de_var 2)) (da_nil)) (hn := (dn_cons dn_nil))))))
theorem sc_lot_from : FnScope ["number", "place"] ["number"] (defScope s_lot_from) := ⟨rfl, rfl, rfl, by decide +kernel, rfl, by decide +kernel, by decide +kernel⟩
theorem ok_lot_from (T : Tx K mg A FD) : FnD P w K mg base (cg A) 2 (A 17) (FD 17) ["number"] d_lot_from := by
  refine fnd_of rfl T.F_lot_from sc_lot_from fun cdv A outer s H E hr => ?_
  have hu := hr.units
  have nd := (sc_lot_from).nd
  unfold b_lot_from
  exact dss_one (ds_ret (de_callTy (fun _ _ => call_tuple_of) opn_tuple T.n_tuple (by decide +kernel) (da_cons (de_lc rfl nd rfl (di_range1 T.n_range (da_cons (de_bits (de_var 0)) (da_nil))) (blkOk_by (own := [("place", 1)]) (by kernel_rfl)) (fun _ _ _ _ _ => dg_name 1 nd) (fun _ _ _ _ _ => dts_one (dt_truth (de_band (de_shr (de_var 0) (de_var 1)) (de_int)))) (fun _ _ _ _ _ => de_var 1)) (da_nil))))
theorem sc__linking_reached : FnScope ["looks", "place", "found", "todo", "fresh"] ["looks", "place"] (defScope s__linking_reached) := ⟨rfl, rfl, rfl, by decide +kernel, rfl, by decide +kernel, by decide +kernel⟩
theorem ok__linking_reached (T : Tx K mg A FD) : FnD P w K mg base (cg A) 3 (A 18) (FD 18) ["looks", "place"] d__linking_reached := by
  refine fnd_of rfl T.F__linking_reached sc__linking_reached fun cdv A outer s H E hr => ?_
  have hu := hr.units
  have nd := (sc__linking_reached).nd
  unfold b__linking_reached
  exact dss_cons (ds_set 2 nd (de_shl (de_int) (de_var 1))) (dss_cons (ds_set 3 nd (de_lst (da_cons (de_var 1) (da_nil)))) (dss_cons (ds_while 1000 (dt_truth (de_var 3)) (dss_cons (ds_set 4 nd (de_band (de_item (de_var 0) (de_pop (de_var 3))) (de_inv (de_var 2)))) (dss_cons (ds_set 2 nd (de_bor (de_var 2) (de_var 4))) (dss_one (ds_expr (de_extend (de_var 3) (da_cons (de_call (ok_lot_from T) (hr.mono (by decide)) T.g_lot_from T.F_lot_from.kp T.b_lot_from (da_cons (de_var 4) (da_nil)) (hn := (dn_cons dn_nil))) (da_nil)))))))) (dss_one (ds_ret (de_var 2)))))
theorem sc_place_of : FnScope ["value", "size"] ["value", "size"] (defScope s_place_of) := ⟨rfl, rfl, rfl, by decide +kernel, rfl, by decide +kernel, by decide +kernel⟩
theorem ok_place_of (T : Tx K mg A FD) : FnD P w K mg base (cg A) 5 (A 19) (FD 19) ["value", "size"] d_place_of := by
  refine fnd_of rfl T.F_place_of sc_place_of fun cdv A outer s H E hr => ?_
  have hu := hr.units
  have nd := (sc_place_of).nd
  unfold b_place_of
  exact dss_cons (ds_if ((dw_or (dt_not (dt_truth (de_call (ok_is_whole T) (hr.mono (by decide)) T.g_is_whole T.F_is_whole.kp T.b_is_whole (da_cons (de_var 0) (da_nil)) (hn := (dn_cons dn_nil))))) (dw_or1 (dt_not (dt_chain (fun _ _ => op_le) (fun _ _ => op_lt) (op2_int0 fun _ _ _ _ _ => .bl) (op2_int0 fun _ _ _ _ _ => .bl) (de_int) (de_var 0) (de_var 1))))).dt) (dss_one (ds_raise (ex_BadPlace T) rfl (hr.mono (by decide)) rfl T.g_BadPlace (de_var 0))) (dss_nil)) (dss_one (ds_ret (de_var 0)))
theorem sc_reaches : FnScope ["world", "place"] ["world", "place"] (defScope s_reaches) := ⟨rfl, rfl, rfl, by decide +kernel, rfl, by decide +kernel, by decide +kernel⟩
theorem ok_reaches (T : Tx K mg A FD) : FnD P w K mg base (cg A) 6 (A 20) (FD 20) ["world", "place"] d_reaches := by
  refine fnd_of rfl T.F_reaches sc_reaches fun cdv A outer s H E hr => ?_
  have hu := hr.units
  have nd := (sc_reaches).nd
  unfold b_reaches
  exact dss_cons (ds_expr (de_call (ok_place_of T) (hr.mono (by decide)) T.g_place_of T.F_place_of.kp T.b_place_of (da_cons (de_var 1) (da_cons (de_slot rfl T.sc_World T.sl_World_size (de_var 0)) (da_nil))) (hn := (dn_cons (dn_cons dn_nil))))) (dss_one (ds_ret (de_call (ok_lot_from T) (hr.mono (by decide)) T.g_lot_from T.F_lot_from.kp T.b_lot_from (da_cons (de_call (ok__linking_reached T) (hr.mono (by decide)) T.g__linking_reached T.F__linking_reached.kp T.b__linking_reached (da_cons (de_call (ok__linking_looks T) (hr.mono (by decide)) T.g__linking_looks T.F__linking_looks.kp T.b__linking_looks (da_cons (de_var 0) (da_nil)) (hn := (dn_cons dn_nil))) (da_cons (de_var 1) (da_nil))) (hn := (dn_cons (dn_cons dn_nil)))) (da_nil)) (hn := (dn_cons dn_nil)))))
theorem sc_way : FnScope ["world", "start", "goal", "ways", "todo", "later", "i", "j"] ["world", "start", "goal"] (defScope s_way) := ⟨rfl, rfl, rfl, by decide +kernel, rfl, by decide +kernel, by decide +kernel⟩
theorem ok_way (T : Tx K mg A FD) : FnD P w K mg base (cg A) 6 (A 21) (FD 21) ["world", "start", "goal"] d_way := by
  refine fnd_of rfl T.F_way sc_way fun cdv A outer s H E hr => ?_
  have hu := hr.units
  have nd := (sc_way).nd
  unfold b_way
  exact dss_cons (ds_expr (de_call (ok_place_of T) (hr.mono (by decide)) T.g_place_of T.F_place_of.kp T.b_place_of (da_cons (de_var 1) (da_cons (de_slot rfl T.sc_World T.sl_World_size (de_var 0)) (da_nil))) (hn := (dn_cons (dn_cons dn_nil))))) (dss_cons (ds_expr (de_call (ok_place_of T) (hr.mono (by decide)) T.g_place_of T.F_place_of.kp T.b_place_of (da_cons (de_var 2) (da_cons (de_slot rfl T.sc_World T.sl_World_size (de_var 0)) (da_nil))) (hn := (dn_cons (dn_cons dn_nil))))) (dss_cons (ds_set 3 nd (de_disp1 (de_var 1) (de_tup (da_cons (de_var 1) (da_nil))))) (dss_cons (ds_set 4 nd (de_lst (da_cons (de_var 1) (da_nil)))) (dss_cons (ds_while 1000 ((dw_and (dt_truth (de_var 4)) (dw_and1 (dt_dnotin hu (de_var 2) (de_var 3)))).dt) (dss_cons (ds_set 5 nd (de_lst (da_nil))) (dss_cons (ds_for rfl (di_seq (de_callTy (fun _ _ => call_list_of) opn_list T.n_list (by decide +kernel) (da_cons (de_var 4) (da_nil)))) (dg_name 6 nd) (dss_one (ds_for rfl (di_range1 T.n_range (da_cons (de_slot rfl T.sc_World T.sl_World_size (de_var 0)) (da_nil))) (dg_name 7 nd) (dss_one (ds_if ((dw_and (dt_gt (de_item (de_item (de_slot rfl T.sc_World T.sl_World_takes (de_var 0)) (de_var 6)) (de_var 7)) (de_int)) (dw_and1 (dt_dnotin hu (de_var 7) (de_var 3)))).dt) (dss_cons (ds_dput hu (de_add (de_dget hu (de_var 3) (de_var 6)) (de_tup (da_cons (de_var 7) (da_nil)))) (de_var 3) (de_var 7)) (dss_one (ds_expr (de_append (de_var 5) (da_cons (de_var 7) (da_nil)))))) (dss_nil)))))) (dss_one (ds_set 4 nd (de_var 5)))))) (dss_one (ds_ret (de_dget1 hu (de_var 3) (de_var 2))))))))
theorem sc__law_refused : FnScope ["_law_world", "_law_door", "_law_place", "_law_other", "_law_told", "error", "_law_base"] ["_law_world", "_law_door", "_law_place", "_law_other"] (defScope s__law_refused) := ⟨rfl, rfl, rfl, by decide +kernel, rfl, by decide +kernel, by decide +kernel⟩
theorem ok__law_refused (T : Tx K mg A FD) : FnD P w K mg base (cg A) 7 (A 22) (FD 22) ["_law_world", "_law_door", "_law_place", "_law_other"] d__law_refused := by
  refine fnd_of rfl T.F__law_refused sc__law_refused fun cdv A outer s H E hr => ?_
  have hu := hr.units
  have nd := (sc__law_refused).nd
  unfold b__law_refused
  exact dss_cons (ds_set 4 nd (de_tup (da_cons (de_str) (da_cons (de_int) (da_cons (de_bl) (da_nil)))))) (dss_cons (ds_try rfl rfl rfl nd ⟨rfl, by decide, .inl T.g_BadPlace⟩ T.ct_BadPlace (dss_one (ds_if (dt_eq hu (de_var 1) (de_int)) (dss_one (ds_expr (de_call (ok_reaches T) (hr.mono (by decide)) T.g_reaches T.F_reaches.kp T.b_reaches (da_cons (de_var 0) (da_cons (de_var 2) (da_nil))) (hn := (dn_cons (dn_cons dn_nil)))))) (dss_one (ds_expr (de_call (ok_way T) (hr.mono (by decide)) T.g_way T.F_way.kp T.b_way (da_cons (de_var 0) (da_cons (de_var 2) (da_cons (de_var 3) (da_nil)))) (hn := (dn_cons (dn_cons (dn_cons dn_nil))))))))) (fun ad oe dx pn ex _ _ => dss_cons (ds_set 6 nd (de_and (de_xisO T.xe T.is_RatesError T.g_RatesError T.n_isinstance) (de_one (de_xisT T.xe T.is_ValueError T.n_ValueError (by decide +kernel) T.n_isinstance)))) (dss_one (ds_set 4 nd (de_tup (da_cons (de_str) (da_cons (de_xf T.xf T.no_place) (da_cons (de_and (de_var 6) (de_one (de_not (de_xisO T.xe T.is_BadLot T.g_BadLot T.n_isinstance)))) (da_nil))))))))) (dss_one (ds_ret (de_var 4))))
theorem sc__law_far : FnScope ["_law_takes", "_law_start", "_law_size", "_law_far_here", "_law_step", "_law_i", "_law_j"] ["_law_takes", "_law_start"] (defScope s__law_far) := ⟨rfl, rfl, rfl, by decide +kernel, rfl, by decide +kernel, by decide +kernel⟩
theorem ok__law_far (T : Tx K mg A FD) : FnD P w K mg base (cg A) 2 (A 23) (FD 23) ["_law_takes", "_law_start"] d__law_far := by
  refine fnd_of rfl T.F__law_far sc__law_far fun cdv A outer s H E hr => ?_
  have hu := hr.units
  have nd := (sc__law_far).nd
  unfold b__law_far
  exact dss_cons (ds_set 2 nd (de_callB (fun _ _ => call_len_seq) opn_len T.n_len (by decide +kernel) (da_cons (de_var 0) (da_nil)))) (dss_cons (ds_set 3 nd (de_mul (de_lst (da_cons (de_neg (de_int)) (da_nil))) (de_var 2))) (dss_cons (ds_put (de_int) (de_var 3) (de_var 1)) (dss_cons (ds_for rfl (di_range1 T.n_range (da_cons (de_var 2) (da_nil))) (dg_name 4 nd) (dss_one (ds_for rfl (di_range1 T.n_range (da_cons (de_var 2) (da_nil))) (dg_name 5 nd) (dss_one (ds_if (dt_eq hu (de_item (de_var 3) (de_var 5)) (de_var 4)) (dss_one (ds_for rfl (di_range1 T.n_range (da_cons (de_var 2) (da_nil))) (dg_name 6 nd) (dss_one (ds_if ((dw_and (dt_gt (de_item (de_item (de_var 0) (de_var 5)) (de_var 6)) (de_int)) (dw_and1 (dt_lt (de_item (de_var 3) (de_var 6)) (de_int)))).dt) (dss_one (ds_put (de_add (de_var 4) (de_int)) (de_var 3) (de_var 6))) (dss_nil))))) (dss_nil)))))) (dss_one (ds_ret (de_var 3))))))
theorem sc__law_int : FnScope ["_law_value"] ["_law_value"] (defScope s__law_int) := ⟨rfl, rfl, rfl, by decide +kernel, rfl, by decide +kernel, by decide +kernel⟩
theorem ok__law_int (T : Tx K mg A FD) : FnD P w K mg base (cg A) 2 (A 24) (FD 24) ["_law_value"] d__law_int := by
  refine fnd_of rfl T.F__law_int sc__law_int fun cdv A outer s H E hr => ?_
  have hu := hr.units
  have nd := (sc__law_int).nd
  unfold b__law_int
  exact dss_one (ds_ret (de_and (de_isi1 (de_var 0) T.n_isinstance T.n_int (by decide +kernel)) (de_one (de_not (de_isi1 (de_var 0) T.n_isinstance T.n_bool (by decide +kernel))))))
theorem sc__law_is_way : FnScope ["_law_takes", "_law_start", "_law_goal", "_law_many", "_law_path", "_law_place", "_law_k"] ["_law_takes", "_law_start", "_law_goal", "_law_many", "_law_path"] (defScope s__law_is_way) := ⟨rfl, rfl, rfl, by decide +kernel, rfl, by decide +kernel, by decide +kernel⟩
theorem ok__law_is_way (T : Tx K mg A FD) : FnD P w K mg base (cg A) 3 (A 25) (FD 25) ["_law_takes", "_law_start", "_law_goal", "_law_many", "_law_path"] d__law_is_way := by
  refine fnd_of rfl T.F__law_is_way sc__law_is_way fun cdv A outer s H E hr => ?_
  have hu := hr.units
  have nd := (sc__law_is_way).nd
  unfold b__law_is_way
  exact dss_cons (ds_if ((dw_or (dt_not (dt_truth (de_isi1 (de_var 4) T.n_isinstance T.n_tuple (by decide +kernel)))) (dw_or1 (dt_ne hu (de_callB (fun _ _ => call_len_seq) opn_len T.n_len (by decide +kernel) (da_cons (de_var 4) (da_nil))) (de_var 3)))).dt) (dss_one (ds_ret (de_bl))) (dss_nil)) (dss_cons (ds_for rfl (di_seq (de_var 4)) (dg_name 5 nd) (dss_one (ds_if ((dw_or (dt_not (dt_truth (de_call (ok__law_int T) (hr.mono (by decide)) T.g__law_int T.F__law_int.kp T.b__law_int (da_cons (de_var 5) (da_nil)) (hn := (dn_cons dn_nil))))) (dw_or (dt_lt (de_var 5) (de_int)) (dw_or1 (dt_ge (de_var 5) (de_callB (fun _ _ => call_len_seq) opn_len T.n_len (by decide +kernel) (da_cons (de_var 0) (da_nil))))))).dt) (dss_one (ds_ret (de_bl))) (dss_nil)))) (dss_cons (ds_for rfl (di_range1 T.n_range (da_cons (de_sub (de_var 3) (de_int)) (da_nil))) (dg_name 6 nd) (dss_one (ds_if (dt_eq hu (de_item (de_item (de_var 0) (de_item (de_var 4) (de_var 6))) (de_item (de_var 4) (de_add (de_var 6) (de_int)))) (de_int)) (dss_one (ds_ret (de_bl))) (dss_nil)))) (dss_one (ds_ret (de_and (de_eq hu (de_item (de_var 4) (de_int)) (de_var 1)) (de_one (de_eq hu (de_item (de_var 4) (de_sub (de_var 3) (de_int))) (de_var 2))))))))
theorem sc__law_ways_told : FnScope ["_law_takes", "_law_world", "_law_start", "_law_far_here", "_law_goal", "_law_path"] ["_law_takes", "_law_world", "_law_start"] (defScope s__law_ways_told) := ⟨rfl, rfl, rfl, by decide +kernel, rfl, by decide +kernel, by decide +kernel⟩
theorem ok__law_ways_told (T : Tx K mg A FD) : FnD P w K mg base (cg A) 7 (A 26) (FD 26) ["_law_takes", "_law_world", "_law_start"] d__law_ways_told := by
  refine fnd_of rfl T.F__law_ways_told sc__law_ways_told fun cdv A outer s H E hr => ?_
  have hu := hr.units
  have nd := (sc__law_ways_told).nd
  unfold b__law_ways_told
  exact dss_cons (ds_set 3 nd (de_call (ok__law_far T) (hr.mono (by decide)) T.g__law_far T.F__law_far.kp T.b__law_far (da_cons (de_var 0) (da_cons (de_var 2) (da_nil))) (hn := (dn_cons (dn_cons dn_nil))))) (dss_cons (ds_for rfl (di_range1 T.n_range (da_cons (de_callB (fun _ _ => call_len_seq) opn_len T.n_len (by decide +kernel) (da_cons (de_var 0) (da_nil))) (da_nil))) (dg_name 4 nd) (dss_cons (ds_set 5 nd (de_call (ok_way T) (hr.mono (by decide)) T.g_way T.F_way.kp T.b_way (da_cons (de_var 1) (da_cons (de_var 2) (da_cons (de_var 4) (da_nil)))) (hn := (dn_cons (dn_cons (dn_cons dn_nil)))))) (dss_one (ds_if (dt_lt (de_item (de_var 3) (de_var 4)) (de_int)) (dss_one (ds_if (dt_notN (de_var 5) (de_non)) (dss_one (ds_ret (de_bl))) (dss_nil))) (dss_one (ds_if (dt_not (dt_truth (de_call (ok__law_is_way T) (hr.mono (by decide)) T.g__law_is_way T.F__law_is_way.kp T.b__law_is_way (da_cons (de_var 0) (da_cons (de_var 2) (da_cons (de_var 4) (da_cons (de_add (de_item (de_var 3) (de_var 4)) (de_int)) (da_cons (de_var 5) (da_nil)))))) (hn := (dn_cons (dn_cons (dn_cons (dn_cons (dn_cons dn_nil))))))))) (dss_one (ds_ret (de_bl))) (dss_nil))))))) (dss_one (ds_ret (de_bl))))
theorem sc_heads : FnScope ["world", "looks", "found", "i", "told", "lot", "j"] ["world"] (defScope s_heads) := ⟨rfl, rfl, rfl, by decide +kernel, rfl, by decide +kernel, by decide +kernel⟩
theorem ok_heads (T : Tx K mg A FD) : FnD P w K mg base (cg A) 4 (A 27) (FD 27) ["world"] d_heads := by
  refine fnd_of rfl T.F_heads sc_heads fun cdv A outer s H E hr => ?_
  have hu := hr.units
  have nd := (sc_heads).nd
  unfold b_heads
  exact dss_cons (ds_set 1 nd (de_call (ok__linking_looks T) (hr.mono (by decide)) T.g__linking_looks T.F__linking_looks.kp T.b__linking_looks (da_cons (de_var 0) (da_nil)) (hn := (dn_cons dn_nil)))) (dss_cons (ds_set 2 nd (de_lc rfl nd rfl (di_range1 T.n_range (da_cons (de_slot rfl T.sc_World T.sl_World_size (de_var 0)) (da_nil))) (blkOk_by (own := [("i", 3)]) (by kernel_rfl)) (fun _ _ _ _ _ => dg_name 3 nd) (fun _ _ _ _ _ => dts_nil) (fun _ _ _ _ _ => de_call (ok__linking_reached T) (hr.mono (by decide)) T.g__linking_reached T.F__linking_reached.kp T.b__linking_reached (da_cons (de_var 1) (da_cons (de_var 3) (da_nil))) (hn := (dn_cons (dn_cons dn_nil)))))) (dss_cons (ds_set 4 nd (de_lst (da_nil))) (dss_cons (ds_for rfl (di_range1 T.n_range (da_cons (de_slot rfl T.sc_World T.sl_World_size (de_var 0)) (da_nil))) (dg_name 3 nd) (dss_cons (ds_set 5 nd (de_call (ok_lot_from T) (hr.mono (by decide)) T.g_lot_from T.F_lot_from.kp T.b_lot_from (da_cons (de_item (de_var 2) (de_var 3)) (da_nil)) (hn := (dn_cons dn_nil)))) (dss_one (ds_if ((dw_and (dt_eq hu (de_item (de_var 5) (de_int)) (de_var 3)) (dw_and1 (dt_truth (de_callB (fun _ _ => cr_all rfl) opn_all T.n_all (by decide +kernel) (da_cons (de_lc rfl nd rfl (di_seq (de_var 5)) (blkOk_by (own := [("j", 6)]) (by kernel_rfl)) (fun _ _ _ _ _ => dg_name 6 nd) (fun _ _ _ _ _ => dts_nil) (fun _ _ _ _ _ => de_eq hu (de_item (de_var 2) (de_var 6)) (de_item (de_var 2) (de_var 3)))) (da_nil)))))).dt) (dss_one (ds_expr (de_append (de_var 4) (da_cons (de_var 5) (da_nil))))) (dss_nil))))) (dss_one (ds_ret (de_callTy (fun _ _ => call_tuple_of) opn_tuple T.n_tuple (by decide +kernel) (da_cons (de_var 4) (da_nil))))))))
theorem sc_shut_lot : FnScope ["world", "size", "looks", "number", "i"] ["world"] (defScope s_shut_lot) := ⟨rfl, rfl, rfl, by decide +kernel, rfl, by decide +kernel, by decide +kernel⟩
theorem ok_shut_lot (T : Tx K mg A FD) : FnD P w K mg base (cg A) 4 (A 28) (FD 28) ["world"] d_shut_lot := by
  refine fnd_of rfl T.F_shut_lot sc_shut_lot fun cdv A outer s H E hr => ?_
  have hu := hr.units
  have nd := (sc_shut_lot).nd
  unfold b_shut_lot
  exact dss_cons (ds_set 1 nd (de_slot rfl T.sc_World T.sl_World_size (de_var 0))) (dss_cons (ds_set 2 nd (de_call (ok__linking_looks T) (hr.mono (by decide)) T.g__linking_looks T.F__linking_looks.kp T.b__linking_looks (da_cons (de_var 0) (da_nil)) (hn := (dn_cons dn_nil)))) (dss_cons (ds_for rfl (di_range2 T.n_range (da_cons (de_int) (da_cons (de_sub (de_shl (de_int) (de_var 1)) (de_int)) (da_nil)))) (dg_name 3 nd) (dss_one (ds_if (dt_truth (de_callB (fun _ _ => cr_all rfl) opn_all T.n_all (by decide +kernel) (da_cons (de_lc rfl nd rfl (di_seq (de_call (ok_lot_from T) (hr.mono (by decide)) T.g_lot_from T.F_lot_from.kp T.b_lot_from (da_cons (de_var 3) (da_nil)) (hn := (dn_cons dn_nil)))) (blkOk_by (own := [("i", 4)]) (by kernel_rfl)) (fun _ _ _ _ _ => dg_name 4 nd) (fun _ _ _ _ _ => dts_nil) (fun _ _ _ _ _ => de_eq hu (de_band (de_item (de_var 2) (de_var 4)) (de_inv (de_var 3))) (de_int))) (da_nil)))) (dss_one (ds_ret (de_call (ok_lot_from T) (hr.mono (by decide)) T.g_lot_from T.F_lot_from.kp T.b_lot_from (da_cons (de_var 3) (da_nil)) (hn := (dn_cons dn_nil))))) (dss_nil)))) (dss_one (ds_ret (de_non)))))
theorem sc_is_linked : FnScope ["world"] ["world"] (defScope s_is_linked) := ⟨rfl, rfl, rfl, by decide +kernel, rfl, by decide +kernel, by decide +kernel⟩
theorem ok_is_linked (T : Tx K mg A FD) : FnD P w K mg base (cg A) 5 (A 29) (FD 29) ["world"] d_is_linked := by
  refine fnd_of rfl T.F_is_linked sc_is_linked fun cdv A outer s H E hr => ?_
  have hu := hr.units
  have nd := (sc_is_linked).nd
  unfold b_is_linked
  exact dss_one (ds_ret (de_isN (de_call (ok_shut_lot T) (hr.mono (by decide)) T.g_shut_lot T.F_shut_lot.kp T.b_shut_lot (da_cons (de_var 0) (da_nil)) (hn := (dn_cons dn_nil))) (de_non)))
theorem sc_law : FnScope ["_law_script", "_law_pool_here", "_law_takes", "_law_size", "_law_world", "_law_lots_here", "_law_shut", "_law_number", "_law_linked", "_law_place", "_law_bad"] ["_law_script"] (defScope s_law) := ⟨rfl, rfl, rfl, by decide +kernel, rfl, by decide +kernel, by decide +kernel⟩
theorem ok_law (T : Tx K mg A FD) : FnD P w K mg base (cg A) 9 (A 30) (FD 30) ["_law_script"] d_law := by
  refine fnd_of rfl T.F_law sc_law fun cdv A outer s H E hr => ?_
  have hu := hr.units
  have nd := (sc_law).nd
  unfold b_law
  exact dss_cons (ds_set 1 nd (de_call (ok__law_pool T) (hr.mono (by decide)) T.g__law_pool T.F__law_pool.kp T.b__law_pool (da_cons (de_var 0) (da_nil)) (hn := (dn_cons dn_nil)))) (dss_cons (ds_set 2 nd (de_call (ok__law_loose T) (hr.mono (by decide)) T.g__law_loose T.F__law_loose.kp T.b__law_loose (da_cons (de_var 1) (da_nil)) (hn := (dn_cons dn_nil)))) (dss_cons (ds_set 3 nd (de_callB (fun _ _ => call_len_seq) opn_len T.n_len (by decide +kernel) (da_cons (de_var 2) (da_nil)))) (dss_cons (ds_set 4 nd (de_makeK rfl T.mk_World (ok_World_init T) (hr.mono (by decide)) T.g_World T.kb_World (da_cons (de_var 2) (da_nil)) (dk_cons (de_call (ok__law_loud T) (hr.mono (by decide)) T.g__law_loud T.F__law_loud.kp T.b__law_loud (da_cons (de_var 1) (da_cons (de_var 2) (da_nil))) (hn := (dn_cons (dn_cons dn_nil)))) dk_nil) (kw_app rfl) (dn_cons dn_nil) (dn_cons dn_nil))) (dss_cons (ds_set 5 nd (de_call (ok__law_lots T) (hr.mono (by decide)) T.g__law_lots T.F__law_lots.kp T.b__law_lots (da_cons (de_var 3) (da_nil)) (hn := (dn_cons dn_nil)))) (dss_cons (ds_set 6 nd (de_non)) (dss_cons (ds_for rfl (di_range2 T.n_range (da_cons (de_int) (da_cons (de_sub (de_callB (fun _ _ => call_len_seq) opn_len T.n_len (by decide +kernel) (da_cons (de_var 5) (da_nil))) (de_int)) (da_nil)))) (dg_name 7 nd) (dss_one (ds_if ((dw_and (dt_isN (de_var 6) (de_non)) (dw_and1 (dt_truth (de_call (ok__law_closed T) (hr.mono (by decide)) T.g__law_closed T.F__law_closed.kp T.b__law_closed (da_cons (de_var 2) (da_cons (de_item (de_var 5) (de_var 7)) (da_nil))) (hn := (dn_cons (dn_cons dn_nil))))))).dt) (dss_one (ds_set 6 nd (de_callTy (fun _ _ => call_tuple_of) opn_tuple T.n_tuple (by decide +kernel) (da_cons (de_item (de_var 5) (de_var 7)) (da_nil))))) (dss_nil)))) (dss_cons (ds_set 8 nd (de_call (ok_is_linked T) (hr.mono (by decide)) T.g_is_linked T.F_is_linked.kp T.b_is_linked (da_cons (de_var 4) (da_nil)) (hn := (dn_cons dn_nil)))) (dss_cons (ds_if ((dw_or (dt_not (dt_truth (de_isi1 (de_var 8) T.n_isinstance T.n_bool (by decide +kernel)))) (dw_or (dt_ne hu (de_var 8) (de_isN (de_var 6) (de_non))) (dw_or1 (dt_ne hu (de_call (ok_shut_lot T) (hr.mono (by decide)) T.g_shut_lot T.F_shut_lot.kp T.b_shut_lot (da_cons (de_var 4) (da_nil)) (hn := (dn_cons dn_nil))) (de_var 6))))).dt) (dss_one (ds_ret (de_bl))) (dss_nil)) (dss_cons (ds_if (dt_ne hu (de_call (ok_heads T) (hr.mono (by decide)) T.g_heads T.F_heads.kp T.b_heads (da_cons (de_var 4) (da_nil)) (hn := (dn_cons dn_nil))) (de_call (ok__law_least_closed T) (hr.mono (by decide)) T.g__law_least_closed T.F__law_least_closed.kp T.b__law_least_closed (da_cons (de_var 2) (da_nil)) (hn := (dn_cons dn_nil)))) (dss_one (ds_ret (de_bl))) (dss_nil)) (dss_cons (ds_for rfl (di_range1 T.n_range (da_cons (de_var 3) (da_nil))) (dg_name 9 nd) (dss_one (ds_if (dt_ne hu (de_call (ok_reaches T) (hr.mono (by decide)) T.g_reaches T.F_reaches.kp T.b_reaches (da_cons (de_var 4) (da_cons (de_var 9) (da_nil))) (hn := (dn_cons (dn_cons dn_nil)))) (de_callTy (fun _ _ => call_tuple_of) opn_tuple T.n_tuple (by decide +kernel) (da_cons (de_call (ok__law_reached T) (hr.mono (by decide)) T.g__law_reached T.F__law_reached.kp T.b__law_reached (da_cons (de_var 2) (da_cons (de_var 9) (da_nil))) (hn := (dn_cons (dn_cons dn_nil)))) (da_nil)))) (dss_one (ds_ret (de_bl))) (dss_nil)))) (dss_cons (ds_if (dt_not (dt_truth (de_call (ok__law_ways_told T) (hr.mono (by decide)) T.g__law_ways_told T.F__law_ways_told.kp T.b__law_ways_told (da_cons (de_var 2) (da_cons (de_var 4) (da_cons (de_call (ok__law_pick T) (hr.mono (by decide)) T.g__law_pick T.F__law_pick.kp T.b__law_pick (da_cons (de_var 1) (da_cons (de_var 3) (da_nil))) (hn := (dn_cons (dn_cons dn_nil)))) (da_nil)))) (hn := (dn_cons (dn_cons (dn_cons dn_nil))))))) (dss_one (ds_ret (de_bl))) (dss_nil)) (dss_cons (ds_set 10 nd (de_item (de_lst (da_cons (de_neg (de_int)) (da_cons (de_var 3) (da_cons (de_bl) (da_cons (de_non) (da_cons (de_tup (da_cons (de_int) (da_nil))) (da_nil))))))) (de_call (ok__law_pick T) (hr.mono (by decide)) T.g__law_pick T.F__law_pick.kp T.b__law_pick (da_cons (de_var 1) (da_cons (de_int) (da_nil))) (hn := (dn_cons (dn_cons dn_nil)))))) (dss_cons (ds_if (dt_ne hu (de_call (ok__law_refused T) (hr.mono (by decide)) T.g__law_refused T.F__law_refused.kp T.b__law_refused (da_cons (de_var 4) (da_cons (de_int) (da_cons (de_var 10) (da_cons (de_int) (da_nil))))) (hn := (dn_cons (dn_cons (dn_cons (dn_cons dn_nil)))))) (de_tup (da_cons (de_str) (da_cons (de_var 10) (da_cons (de_bl) (da_nil)))))) (dss_one (ds_ret (de_bl))) (dss_nil)) (dss_cons (ds_if (dt_ne hu (de_call (ok__law_refused T) (hr.mono (by decide)) T.g__law_refused T.F__law_refused.kp T.b__law_refused (da_cons (de_var 4) (da_cons (de_int) (da_cons (de_var 10) (da_cons (de_neg (de_int)) (da_nil))))) (hn := (dn_cons (dn_cons (dn_cons (dn_cons dn_nil)))))) (de_tup (da_cons (de_str) (da_cons (de_var 10) (da_cons (de_bl) (da_nil)))))) (dss_one (ds_ret (de_bl))) (dss_nil)) (dss_one (ds_ret (de_eq hu (de_call (ok__law_refused T) (hr.mono (by decide)) T.g__law_refused T.F__law_refused.kp T.b__law_refused (da_cons (de_var 4) (da_cons (de_int) (da_cons (de_sub (de_var 3) (de_int)) (da_cons (de_var 10) (da_nil))))) (hn := (dn_cons (dn_cons (dn_cons (dn_cons dn_nil)))))) (de_tup (da_cons (de_str) (da_cons (de_var 10) (da_cons (de_bl) (da_nil))))))))))))))))))))))
end
end K01

set_option Elab.async false
set_option linter.all false
set_option maxRecDepth 100000
set_option maxHeartbeats 4000000
/-! The facts of the written part, the end; printed by gen.py. -/
namespace K01
open PySem PyProof.Rows L2 DL
theorem all_mk {K : PySem.W.Frag} {h : Heap} {mg : Str → Option Value} {fa : Addr} (X : K.In h) (G : h.Ns mainGlobals mg) (hfa : mg "law" = some (.ref fa))
    {f0 f1 f2 f3 f4 f5 f6 f7 f8 f9 f10 f11 f12 f13 f14 f15 f16 f17 f18 f19 f20 f21 f22 f23 f24 f25 f26 f27 f28 f29 f30 f31 f32 C33 C34 C35 C36 C37 C38 C39 q40 q41 q42 : Addr}
    {od0 an0 : Option Addr} {sl0 : Array (Option Value)} {oc0 dc0 pm0 cd0 ct0 : Value} {kV0 : Value}
    {od1 an1 : Option Addr} {sl1 : Array (Option Value)} {oc1 dc1 pm1 cd1 ct1 : Value} {kV1 : Value}
    {od2 an2 : Option Addr} {sl2 : Array (Option Value)} {oc2 dc2 pm2 cd2 ct2 : Value} {kV2 : Value}
    {od3 an3 : Option Addr} {sl3 : Array (Option Value)} {oc3 dc3 pm3 cd3 ct3 : Value} {kV3 : Value}
    {od4 an4 : Option Addr} {sl4 : Array (Option Value)} {oc4 dc4 pm4 cd4 ct4 : Value}
    {kd4 : Addr}
    {od5 an5 : Option Addr} {sl5 : Array (Option Value)} {oc5 dc5 pm5 cd5 ct5 : Value} {kV5 : Value}
    {od6 an6 : Option Addr} {sl6 : Array (Option Value)} {oc6 dc6 pm6 cd6 ct6 : Value} {kV6 : Value}
    {od7 an7 : Option Addr} {sl7 : Array (Option Value)} {oc7 dc7 pm7 cd7 ct7 : Value} {kV7 : Value}
    {od8 an8 : Option Addr} {sl8 : Array (Option Value)} {oc8 dc8 pm8 cd8 ct8 : Value} {kV8 : Value}
    {od9 an9 : Option Addr} {sl9 : Array (Option Value)} {oc9 dc9 pm9 cd9 ct9 : Value} {kV9 : Value}
    {od10 an10 : Option Addr} {sl10 : Array (Option Value)} {oc10 dc10 pm10 cd10 ct10 : Value} {kV10 : Value}
    {od11 an11 : Option Addr} {sl11 : Array (Option Value)} {oc11 dc11 pm11 cd11 ct11 : Value} {kV11 : Value}
    {od12 an12 : Option Addr} {sl12 : Array (Option Value)} {oc12 dc12 pm12 cd12 ct12 : Value} {kV12 : Value}
    {od13 an13 : Option Addr} {sl13 : Array (Option Value)} {oc13 dc13 pm13 cd13 ct13 : Value} {kV13 : Value}
    {od14 an14 : Option Addr} {sl14 : Array (Option Value)} {oc14 dc14 pm14 cd14 ct14 : Value} {kV14 : Value}
    {od15 an15 : Option Addr} {sl15 : Array (Option Value)} {oc15 dc15 pm15 cd15 ct15 : Value} {kV15 : Value}
    {od16 an16 : Option Addr} {sl16 : Array (Option Value)} {oc16 dc16 pm16 cd16 ct16 : Value} {kV16 : Value}
    {od17 an17 : Option Addr} {sl17 : Array (Option Value)} {oc17 dc17 pm17 cd17 ct17 : Value} {kV17 : Value}
    {od18 an18 : Option Addr} {sl18 : Array (Option Value)} {oc18 dc18 pm18 cd18 ct18 : Value} {kV18 : Value}
    {od19 an19 : Option Addr} {sl19 : Array (Option Value)} {oc19 dc19 pm19 cd19 ct19 : Value} {kV19 : Value}
    {od20 an20 : Option Addr} {sl20 : Array (Option Value)} {oc20 dc20 pm20 cd20 ct20 : Value} {kV20 : Value}
    {od21 an21 : Option Addr} {sl21 : Array (Option Value)} {oc21 dc21 pm21 cd21 ct21 : Value} {kV21 : Value}
    {od22 an22 : Option Addr} {sl22 : Array (Option Value)} {oc22 dc22 pm22 cd22 ct22 : Value} {kV22 : Value}
    {od23 an23 : Option Addr} {sl23 : Array (Option Value)} {oc23 dc23 pm23 cd23 ct23 : Value} {kV23 : Value}
    {od24 an24 : Option Addr} {sl24 : Array (Option Value)} {oc24 dc24 pm24 cd24 ct24 : Value} {kV24 : Value}
    {od25 an25 : Option Addr} {sl25 : Array (Option Value)} {oc25 dc25 pm25 cd25 ct25 : Value} {kV25 : Value}
    {od26 an26 : Option Addr} {sl26 : Array (Option Value)} {oc26 dc26 pm26 cd26 ct26 : Value} {kV26 : Value}
    {od27 an27 : Option Addr} {sl27 : Array (Option Value)} {oc27 dc27 pm27 cd27 ct27 : Value} {kV27 : Value}
    {od28 an28 : Option Addr} {sl28 : Array (Option Value)} {oc28 dc28 pm28 cd28 ct28 : Value} {kV28 : Value}
    {od29 an29 : Option Addr} {sl29 : Array (Option Value)} {oc29 dc29 pm29 cd29 ct29 : Value} {kV29 : Value}
    {od30 an30 : Option Addr} {sl30 : Array (Option Value)} {oc30 dc30 pm30 cd30 ct30 : Value} {kV30 : Value}
    {od31 an31 : Option Addr} {sl31 : Array (Option Value)} {oc31 dc31 pm31 cd31 ct31 : Value} {kV31 : Value}
    {od32 an32 : Option Addr} {sl32 : Array (Option Value)} {oc32 dc32 pm32 cd32 ct32 : Value} {kV32 : Value}
    {nm31 qq31 : Str} {N31 : Addr} {bs31 bm31 : List Value} {sn31 : List Str} {sub31 : List Value} {ab31 : Bool} {col31 : Option Bool} {dd31 : Option Addr} {x031 x131 x231 x331 x531 : Option Value}
    {nm32 qq32 : Str} {N32 : Addr} {bs32 bm32 : List Value} {sn32 : List Str} {sub32 : List Value} {ab32 : Bool} {col32 : Option Bool} {dd32 : Option Addr} {x032 x132 x232 x332 x532 : Option Value}
    (z_ValueError : PySem.W.nsIn K mainGlobals "ValueError" = some none)
    (z_all : PySem.W.nsIn K mainGlobals "all" = some none)
    (z_bool : PySem.W.nsIn K mainGlobals "bool" = some none)
    (z_enumerate : PySem.W.nsIn K mainGlobals "enumerate" = some none)
    (z_int : PySem.W.nsIn K mainGlobals "int" = some none)
    (z_isinstance : PySem.W.nsIn K mainGlobals "isinstance" = some none)
    (z_len : PySem.W.nsIn K mainGlobals "len" = some none)
    (z_list : PySem.W.nsIn K mainGlobals "list" = some none)
    (z_min : PySem.W.nsIn K mainGlobals "min" = some none)
    (z_range : PySem.W.nsIn K mainGlobals "range" = some none)
    (z_sorted : PySem.W.nsIn K mainGlobals "sorted" = some none)
    (z_tuple : PySem.W.nsIn K mainGlobals "tuple" = some none)
    (aC_RatesError : PySem.W.nsIn K mainGlobals "RatesError" = some (some (.ref C33)))
    (aC_BadPlace : PySem.W.nsIn K mainGlobals "BadPlace" = some (some (.ref C35)))
    (aC_BadLot : PySem.W.nsIn K mainGlobals "BadLot" = some (some (.ref C36)))
    (aC_BadTable : PySem.W.nsIn K mainGlobals "BadTable" = some (some (.ref C37)))
    (aC_World : PySem.W.nsIn K mainGlobals "World" = some (some (.ref C39)))
    (aC_BadNumber : PySem.W.nsIn K mainGlobals "BadNumber" = some (some (.ref C34)))
    (aC_OtherSize : PySem.W.nsIn K mainGlobals "OtherSize" = some (some (.ref C38)))
    (a0 : PySem.W.nsIn K mainGlobals "is_whole" = some (some (.ref f0)))
    (l0 : K.lookup f0 = some ⟨oc0, od0, .func (PySem.W.fnOf "is_whole" "is_whole" (defArgs s_is_whole) (defBody s_is_whole) (defScope s_is_whole) .none kV0 dc0 pm0 an0 cd0 ct0), sl0⟩)
    (c0 : PySem.W.codeIn K cd0 "is_whole" = true)
    (k0 : PySem.W.keepIn K (.ref f0) = true)
    (a1 : PySem.W.nsIn K mainGlobals "_worlds_row" = some (some (.ref f1)))
    (l1 : K.lookup f1 = some ⟨oc1, od1, .func (PySem.W.fnOf "_worlds_row" "_worlds_row" (defArgs s__worlds_row) (defBody s__worlds_row) (defScope s__worlds_row) .none kV1 dc1 pm1 an1 cd1 ct1), sl1⟩)
    (c1 : PySem.W.codeIn K cd1 "_worlds_row" = true)
    (k1 : PySem.W.keepIn K (.ref f1) = true)
    (a2 : PySem.W.nsIn K mainGlobals "_worlds_calls" = some (some (.ref f2)))
    (l2 : K.lookup f2 = some ⟨oc2, od2, .func (PySem.W.fnOf "_worlds_calls" "_worlds_calls" (defArgs s__worlds_calls) (defBody s__worlds_calls) (defScope s__worlds_calls) .none kV2 dc2 pm2 an2 cd2 ct2), sl2⟩)
    (c2 : PySem.W.codeIn K cd2 "_worlds_calls" = true)
    (k2 : PySem.W.keepIn K (.ref f2) = true)
    (a3 : PySem.W.nsIn K mainGlobals "_worlds_takes" = some (some (.ref f3)))
    (l3 : K.lookup f3 = some ⟨oc3, od3, .func (PySem.W.fnOf "_worlds_takes" "_worlds_takes" (defArgs s__worlds_takes) (defBody s__worlds_takes) (defScope s__worlds_takes) .none kV3 dc3 pm3 an3 cd3 ct3), sl3⟩)
    (c3 : PySem.W.codeIn K cd3 "_worlds_takes" = true)
    (k3 : PySem.W.keepIn K (.ref f3) = true)
    (a4 : PySem.W.findIn K (.ref C39) "__init__" = some (some (.ref f4)))
    (l4 : K.lookup f4 = some ⟨oc4, od4, .func (PySem.W.fnOf "__init__" "World.__init__" (defArgs s_World_init) (defBody s_World_init) (defScope s_World_init) .none (.ref kd4) dc4 pm4 an4 cd4 ct4), sl4⟩)
    (c4 : PySem.W.codeIn K cd4 "World.__init__" = true)
    (k4 : PySem.W.keepIn K (.ref f4) = true)
    (kd4_calls : PySem.W.nsIn K kd4 "calls" = some (some .none))
    (a5 : PySem.W.nsIn K mainGlobals "_law_closed" = some (some (.ref f5)))
    (l5 : K.lookup f5 = some ⟨oc5, od5, .func (PySem.W.fnOf "_law_closed" "_law_closed" (defArgs s__law_closed) (defBody s__law_closed) (defScope s__law_closed) .none kV5 dc5 pm5 an5 cd5 ct5), sl5⟩)
    (c5 : PySem.W.codeIn K cd5 "_law_closed" = true)
    (k5 : PySem.W.keepIn K (.ref f5) = true)
    (a6 : PySem.W.nsIn K mainGlobals "_law_lots" = some (some (.ref f6)))
    (l6 : K.lookup f6 = some ⟨oc6, od6, .func (PySem.W.fnOf "_law_lots" "_law_lots" (defArgs s__law_lots) (defBody s__law_lots) (defScope s__law_lots) .none kV6 dc6 pm6 an6 cd6 ct6), sl6⟩)
    (c6 : PySem.W.codeIn K cd6 "_law_lots" = true)
    (k6 : PySem.W.keepIn K (.ref f6) = true)
    (a7 : PySem.W.nsIn K mainGlobals "_law_least_closed" = some (some (.ref f7)))
    (l7 : K.lookup f7 = some ⟨oc7, od7, .func (PySem.W.fnOf "_law_least_closed" "_law_least_closed" (defArgs s__law_least_closed) (defBody s__law_least_closed) (defScope s__law_least_closed) .none kV7 dc7 pm7 an7 cd7 ct7), sl7⟩)
    (c7 : PySem.W.codeIn K cd7 "_law_least_closed" = true)
    (k7 : PySem.W.keepIn K (.ref f7) = true)
    (a8 : PySem.W.nsIn K mainGlobals "_law_blank" = some (some (.ref f8)))
    (l8 : K.lookup f8 = some ⟨oc8, od8, .func (PySem.W.fnOf "_law_blank" "_law_blank" (defArgs s__law_blank) (defBody s__law_blank) (defScope s__law_blank) .none kV8 dc8 pm8 an8 cd8 ct8), sl8⟩)
    (c8 : PySem.W.codeIn K cd8 "_law_blank" = true)
    (k8 : PySem.W.keepIn K (.ref f8) = true)
    (a9 : PySem.W.nsIn K mainGlobals "_law_pick" = some (some (.ref f9)))
    (l9 : K.lookup f9 = some ⟨oc9, od9, .func (PySem.W.fnOf "_law_pick" "_law_pick" (defArgs s__law_pick) (defBody s__law_pick) (defScope s__law_pick) .none kV9 dc9 pm9 an9 cd9 ct9), sl9⟩)
    (c9 : PySem.W.codeIn K cd9 "_law_pick" = true)
    (k9 : PySem.W.keepIn K (.ref f9) = true)
    (a10 : PySem.W.nsIn K mainGlobals "_law_rate" = some (some (.ref f10)))
    (l10 : K.lookup f10 = some ⟨oc10, od10, .func (PySem.W.fnOf "_law_rate" "_law_rate" (defArgs s__law_rate) (defBody s__law_rate) (defScope s__law_rate) .none kV10 dc10 pm10 an10 cd10 ct10), sl10⟩)
    (c10 : PySem.W.codeIn K cd10 "_law_rate" = true)
    (k10 : PySem.W.keepIn K (.ref f10) = true)
    (a11 : PySem.W.nsIn K mainGlobals "_law_loose" = some (some (.ref f11)))
    (l11 : K.lookup f11 = some ⟨oc11, od11, .func (PySem.W.fnOf "_law_loose" "_law_loose" (defArgs s__law_loose) (defBody s__law_loose) (defScope s__law_loose) .none kV11 dc11 pm11 an11 cd11 ct11), sl11⟩)
    (c11 : PySem.W.codeIn K cd11 "_law_loose" = true)
    (k11 : PySem.W.keepIn K (.ref f11) = true)
    (a12 : PySem.W.nsIn K mainGlobals "_law_loud" = some (some (.ref f12)))
    (l12 : K.lookup f12 = some ⟨oc12, od12, .func (PySem.W.fnOf "_law_loud" "_law_loud" (defArgs s__law_loud) (defBody s__law_loud) (defScope s__law_loud) .none kV12 dc12 pm12 an12 cd12 ct12), sl12⟩)
    (c12 : PySem.W.codeIn K cd12 "_law_loud" = true)
    (k12 : PySem.W.keepIn K (.ref f12) = true)
    (a13 : PySem.W.nsIn K mainGlobals "_law_pool" = some (some (.ref f13)))
    (l13 : K.lookup f13 = some ⟨oc13, od13, .func (PySem.W.fnOf "_law_pool" "_law_pool" (defArgs s__law_pool) (defBody s__law_pool) (defScope s__law_pool) .none kV13 dc13 pm13 an13 cd13 ct13), sl13⟩)
    (c13 : PySem.W.codeIn K cd13 "_law_pool" = true)
    (k13 : PySem.W.keepIn K (.ref f13) = true)
    (a14 : PySem.W.nsIn K mainGlobals "_law_reached" = some (some (.ref f14)))
    (l14 : K.lookup f14 = some ⟨oc14, od14, .func (PySem.W.fnOf "_law_reached" "_law_reached" (defArgs s__law_reached) (defBody s__law_reached) (defScope s__law_reached) .none kV14 dc14 pm14 an14 cd14 ct14), sl14⟩)
    (c14 : PySem.W.codeIn K cd14 "_law_reached" = true)
    (k14 : PySem.W.keepIn K (.ref f14) = true)
    (a15 : PySem.W.nsIn K mainGlobals "bits_of" = some (some (.ref f15)))
    (l15 : K.lookup f15 = some ⟨oc15, od15, .func (PySem.W.fnOf "bits_of" "bits_of" (defArgs s_bits_of) (defBody s_bits_of) (defScope s_bits_of) .none kV15 dc15 pm15 an15 cd15 ct15), sl15⟩)
    (c15 : PySem.W.codeIn K cd15 "bits_of" = true)
    (k15 : PySem.W.keepIn K (.ref f15) = true)
    (a16 : PySem.W.nsIn K mainGlobals "_linking_looks" = some (some (.ref f16)))
    (l16 : K.lookup f16 = some ⟨oc16, od16, .func (PySem.W.fnOf "_linking_looks" "_linking_looks" (defArgs s__linking_looks) (defBody s__linking_looks) (defScope s__linking_looks) .none kV16 dc16 pm16 an16 cd16 ct16), sl16⟩)
    (c16 : PySem.W.codeIn K cd16 "_linking_looks" = true)
    (k16 : PySem.W.keepIn K (.ref f16) = true)
    (a17 : PySem.W.nsIn K mainGlobals "lot_from" = some (some (.ref f17)))
    (l17 : K.lookup f17 = some ⟨oc17, od17, .func (PySem.W.fnOf "lot_from" "lot_from" (defArgs s_lot_from) (defBody s_lot_from) (defScope s_lot_from) .none kV17 dc17 pm17 an17 cd17 ct17), sl17⟩)
    (c17 : PySem.W.codeIn K cd17 "lot_from" = true)
    (k17 : PySem.W.keepIn K (.ref f17) = true)
    (a18 : PySem.W.nsIn K mainGlobals "_linking_reached" = some (some (.ref f18)))
    (l18 : K.lookup f18 = some ⟨oc18, od18, .func (PySem.W.fnOf "_linking_reached" "_linking_reached" (defArgs s__linking_reached) (defBody s__linking_reached) (defScope s__linking_reached) .none kV18 dc18 pm18 an18 cd18 ct18), sl18⟩)
    (c18 : PySem.W.codeIn K cd18 "_linking_reached" = true)
    (k18 : PySem.W.keepIn K (.ref f18) = true)
    (a19 : PySem.W.nsIn K mainGlobals "place_of" = some (some (.ref f19)))
    (l19 : K.lookup f19 = some ⟨oc19, od19, .func (PySem.W.fnOf "place_of" "place_of" (defArgs s_place_of) (defBody s_place_of) (defScope s_place_of) .none kV19 dc19 pm19 an19 cd19 ct19), sl19⟩)
    (c19 : PySem.W.codeIn K cd19 "place_of" = true)
    (k19 : PySem.W.keepIn K (.ref f19) = true)
    (a20 : PySem.W.nsIn K mainGlobals "reaches" = some (some (.ref f20)))
    (l20 : K.lookup f20 = some ⟨oc20, od20, .func (PySem.W.fnOf "reaches" "reaches" (defArgs s_reaches) (defBody s_reaches) (defScope s_reaches) .none kV20 dc20 pm20 an20 cd20 ct20), sl20⟩)
    (c20 : PySem.W.codeIn K cd20 "reaches" = true)
    (k20 : PySem.W.keepIn K (.ref f20) = true)
    (a21 : PySem.W.nsIn K mainGlobals "way" = some (some (.ref f21)))
    (l21 : K.lookup f21 = some ⟨oc21, od21, .func (PySem.W.fnOf "way" "way" (defArgs s_way) (defBody s_way) (defScope s_way) .none kV21 dc21 pm21 an21 cd21 ct21), sl21⟩)
    (c21 : PySem.W.codeIn K cd21 "way" = true)
    (k21 : PySem.W.keepIn K (.ref f21) = true)
    (a22 : PySem.W.nsIn K mainGlobals "_law_refused" = some (some (.ref f22)))
    (l22 : K.lookup f22 = some ⟨oc22, od22, .func (PySem.W.fnOf "_law_refused" "_law_refused" (defArgs s__law_refused) (defBody s__law_refused) (defScope s__law_refused) .none kV22 dc22 pm22 an22 cd22 ct22), sl22⟩)
    (c22 : PySem.W.codeIn K cd22 "_law_refused" = true)
    (k22 : PySem.W.keepIn K (.ref f22) = true)
    (a23 : PySem.W.nsIn K mainGlobals "_law_far" = some (some (.ref f23)))
    (l23 : K.lookup f23 = some ⟨oc23, od23, .func (PySem.W.fnOf "_law_far" "_law_far" (defArgs s__law_far) (defBody s__law_far) (defScope s__law_far) .none kV23 dc23 pm23 an23 cd23 ct23), sl23⟩)
    (c23 : PySem.W.codeIn K cd23 "_law_far" = true)
    (k23 : PySem.W.keepIn K (.ref f23) = true)
    (a24 : PySem.W.nsIn K mainGlobals "_law_int" = some (some (.ref f24)))
    (l24 : K.lookup f24 = some ⟨oc24, od24, .func (PySem.W.fnOf "_law_int" "_law_int" (defArgs s__law_int) (defBody s__law_int) (defScope s__law_int) .none kV24 dc24 pm24 an24 cd24 ct24), sl24⟩)
    (c24 : PySem.W.codeIn K cd24 "_law_int" = true)
    (k24 : PySem.W.keepIn K (.ref f24) = true)
    (a25 : PySem.W.nsIn K mainGlobals "_law_is_way" = some (some (.ref f25)))
    (l25 : K.lookup f25 = some ⟨oc25, od25, .func (PySem.W.fnOf "_law_is_way" "_law_is_way" (defArgs s__law_is_way) (defBody s__law_is_way) (defScope s__law_is_way) .none kV25 dc25 pm25 an25 cd25 ct25), sl25⟩)
    (c25 : PySem.W.codeIn K cd25 "_law_is_way" = true)
    (k25 : PySem.W.keepIn K (.ref f25) = true)
    (a26 : PySem.W.nsIn K mainGlobals "_law_ways_told" = some (some (.ref f26)))
    (l26 : K.lookup f26 = some ⟨oc26, od26, .func (PySem.W.fnOf "_law_ways_told" "_law_ways_told" (defArgs s__law_ways_told) (defBody s__law_ways_told) (defScope s__law_ways_told) .none kV26 dc26 pm26 an26 cd26 ct26), sl26⟩)
    (c26 : PySem.W.codeIn K cd26 "_law_ways_told" = true)
    (k26 : PySem.W.keepIn K (.ref f26) = true)
    (a27 : PySem.W.nsIn K mainGlobals "heads" = some (some (.ref f27)))
    (l27 : K.lookup f27 = some ⟨oc27, od27, .func (PySem.W.fnOf "heads" "heads" (defArgs s_heads) (defBody s_heads) (defScope s_heads) .none kV27 dc27 pm27 an27 cd27 ct27), sl27⟩)
    (c27 : PySem.W.codeIn K cd27 "heads" = true)
    (k27 : PySem.W.keepIn K (.ref f27) = true)
    (a28 : PySem.W.nsIn K mainGlobals "shut_lot" = some (some (.ref f28)))
    (l28 : K.lookup f28 = some ⟨oc28, od28, .func (PySem.W.fnOf "shut_lot" "shut_lot" (defArgs s_shut_lot) (defBody s_shut_lot) (defScope s_shut_lot) .none kV28 dc28 pm28 an28 cd28 ct28), sl28⟩)
    (c28 : PySem.W.codeIn K cd28 "shut_lot" = true)
    (k28 : PySem.W.keepIn K (.ref f28) = true)
    (a29 : PySem.W.nsIn K mainGlobals "is_linked" = some (some (.ref f29)))
    (l29 : K.lookup f29 = some ⟨oc29, od29, .func (PySem.W.fnOf "is_linked" "is_linked" (defArgs s_is_linked) (defBody s_is_linked) (defScope s_is_linked) .none kV29 dc29 pm29 an29 cd29 ct29), sl29⟩)
    (c29 : PySem.W.codeIn K cd29 "is_linked" = true)
    (k29 : PySem.W.keepIn K (.ref f29) = true)
    (a30 : PySem.W.nsIn K mainGlobals "law" = some (some (.ref f30)))
    (l30 : K.lookup f30 = some ⟨oc30, od30, .func (PySem.W.fnOf "law" "law" (defArgs s_law) (defBody s_law) (defScope s_law) .none kV30 dc30 pm30 an30 cd30 ct30), sl30⟩)
    (c30 : PySem.W.codeIn K cd30 "law" = true)
    (k30 : PySem.W.keepIn K (.ref f30) = true)
    (a31 : PySem.W.findIn K (.ref C35) "__init__" = some (some (.ref f31)))
    (l31 : K.lookup f31 = some ⟨oc31, od31, .func (PySem.W.fnOf "__init__" "BadPlace.__init__" (defArgs s_BadPlace_init) (defBody s_BadPlace_init) (defScope s_BadPlace_init) .none kV31 dc31 pm31 an31 cd31 ct31), sl31⟩)
    (c31 : PySem.W.codeIn K cd31 "BadPlace.__init__" = true)
    (k31 : PySem.W.keepIn K (.ref f31) = true)
    (a32 : PySem.W.findIn K (.ref C37) "__init__" = some (some (.ref f32)))
    (l32 : K.lookup f32 = some ⟨oc32, od32, .func (PySem.W.fnOf "__init__" "BadTable.__init__" (defArgs s_BadTable_init) (defBody s_BadTable_init) (defScope s_BadTable_init) .none kV32 dc32 pm32 an32 cd32 ct32), sl32⟩)
    (c32 : PySem.W.codeIn K cd32 "BadTable.__init__" = true)
    (k32 : PySem.W.keepIn K (.ref f32) = true)
    (sa_RatesError : PySem.W.findIn K (.ref C33) "__setattr__" = some (some (.builtin "object.__setattr__")))
    (ga_RatesError : PySem.W.findIn K (.ref C33) "__getattribute__" = some (some (.builtin "BaseException.__getattribute__")))
    (gg_RatesError : PySem.W.findIn K (.ref C33) "__getattr__" = some none)
    (eC_RatesError : PySem.W.subIn K (.ref C33) (.type "BaseException") = some true)
    (tC_RatesError : PySem.W.typeIn K (.ref C33) = some (.type "type"))
    (kC_RatesError : PySem.W.keepIn K (.ref C33) = true)
    (hd_RatesError : PySem.W.hasDictIn K C33 = true)
    (iC_RatesError : PySem.W.isClsIn K C33 = true)
    (ha_RatesError : PySem.W.findIn K (.ref C33) "__class__" = some (some (.builtin "object.__class__")))
    (mo_RatesError : PySem.W.mroIn K C33 (.type "object") = some true)
    (sc_RatesError : PySem.W.subIn K (.ref C33) (.ref C33) = some true)
    (sa_BadNumber : PySem.W.findIn K (.ref C34) "__setattr__" = some (some (.builtin "object.__setattr__")))
    (ga_BadNumber : PySem.W.findIn K (.ref C34) "__getattribute__" = some (some (.builtin "BaseException.__getattribute__")))
    (gg_BadNumber : PySem.W.findIn K (.ref C34) "__getattr__" = some none)
    (eC_BadNumber : PySem.W.subIn K (.ref C34) (.type "BaseException") = some true)
    (tC_BadNumber : PySem.W.typeIn K (.ref C34) = some (.type "type"))
    (kC_BadNumber : PySem.W.keepIn K (.ref C34) = true)
    (hd_BadNumber : PySem.W.hasDictIn K C34 = true)
    (iC_BadNumber : PySem.W.isClsIn K C34 = true)
    (ha_BadNumber : PySem.W.findIn K (.ref C34) "__class__" = some (some (.builtin "object.__class__")))
    (mo_BadNumber : PySem.W.mroIn K C34 (.type "object") = some true)
    (sc_BadNumber : PySem.W.subIn K (.ref C34) (.ref C34) = some true)
    (sa_BadPlace : PySem.W.findIn K (.ref C35) "__setattr__" = some (some (.builtin "object.__setattr__")))
    (ga_BadPlace : PySem.W.findIn K (.ref C35) "__getattribute__" = some (some (.builtin "BaseException.__getattribute__")))
    (gg_BadPlace : PySem.W.findIn K (.ref C35) "__getattr__" = some none)
    (eC_BadPlace : PySem.W.subIn K (.ref C35) (.type "BaseException") = some true)
    (tC_BadPlace : PySem.W.typeIn K (.ref C35) = some (.type "type"))
    (kC_BadPlace : PySem.W.keepIn K (.ref C35) = true)
    (hd_BadPlace : PySem.W.hasDictIn K C35 = true)
    (iC_BadPlace : PySem.W.isClsIn K C35 = true)
    (ha_BadPlace : PySem.W.findIn K (.ref C35) "__class__" = some (some (.builtin "object.__class__")))
    (mo_BadPlace : PySem.W.mroIn K C35 (.type "object") = some true)
    (sc_BadPlace : PySem.W.subIn K (.ref C35) (.ref C35) = some true)
    (sa_BadLot : PySem.W.findIn K (.ref C36) "__setattr__" = some (some (.builtin "object.__setattr__")))
    (ga_BadLot : PySem.W.findIn K (.ref C36) "__getattribute__" = some (some (.builtin "BaseException.__getattribute__")))
    (gg_BadLot : PySem.W.findIn K (.ref C36) "__getattr__" = some none)
    (eC_BadLot : PySem.W.subIn K (.ref C36) (.type "BaseException") = some true)
    (tC_BadLot : PySem.W.typeIn K (.ref C36) = some (.type "type"))
    (kC_BadLot : PySem.W.keepIn K (.ref C36) = true)
    (hd_BadLot : PySem.W.hasDictIn K C36 = true)
    (iC_BadLot : PySem.W.isClsIn K C36 = true)
    (ha_BadLot : PySem.W.findIn K (.ref C36) "__class__" = some (some (.builtin "object.__class__")))
    (mo_BadLot : PySem.W.mroIn K C36 (.type "object") = some true)
    (sc_BadLot : PySem.W.subIn K (.ref C36) (.ref C36) = some true)
    (sa_BadTable : PySem.W.findIn K (.ref C37) "__setattr__" = some (some (.builtin "object.__setattr__")))
    (ga_BadTable : PySem.W.findIn K (.ref C37) "__getattribute__" = some (some (.builtin "BaseException.__getattribute__")))
    (gg_BadTable : PySem.W.findIn K (.ref C37) "__getattr__" = some none)
    (eC_BadTable : PySem.W.subIn K (.ref C37) (.type "BaseException") = some true)
    (tC_BadTable : PySem.W.typeIn K (.ref C37) = some (.type "type"))
    (kC_BadTable : PySem.W.keepIn K (.ref C37) = true)
    (hd_BadTable : PySem.W.hasDictIn K C37 = true)
    (iC_BadTable : PySem.W.isClsIn K C37 = true)
    (ha_BadTable : PySem.W.findIn K (.ref C37) "__class__" = some (some (.builtin "object.__class__")))
    (mo_BadTable : PySem.W.mroIn K C37 (.type "object") = some true)
    (sc_BadTable : PySem.W.subIn K (.ref C37) (.ref C37) = some true)
    (sa_OtherSize : PySem.W.findIn K (.ref C38) "__setattr__" = some (some (.builtin "object.__setattr__")))
    (ga_OtherSize : PySem.W.findIn K (.ref C38) "__getattribute__" = some (some (.builtin "BaseException.__getattribute__")))
    (gg_OtherSize : PySem.W.findIn K (.ref C38) "__getattr__" = some none)
    (eC_OtherSize : PySem.W.subIn K (.ref C38) (.type "BaseException") = some true)
    (tC_OtherSize : PySem.W.typeIn K (.ref C38) = some (.type "type"))
    (kC_OtherSize : PySem.W.keepIn K (.ref C38) = true)
    (hd_OtherSize : PySem.W.hasDictIn K C38 = true)
    (iC_OtherSize : PySem.W.isClsIn K C38 = true)
    (ha_OtherSize : PySem.W.findIn K (.ref C38) "__class__" = some (some (.builtin "object.__class__")))
    (mo_OtherSize : PySem.W.mroIn K C38 (.type "object") = some true)
    (sc_OtherSize : PySem.W.subIn K (.ref C38) (.ref C38) = some true)
    (hn : PySem.W.specialIn K (.builtin "object.__class__") "__get__" = some (some (.builtin "getset_descriptor.__get__")))
    (ht : PySem.W.takesIn K (.builtin "object.__class__") = some true)
    (xL_BadPlace : K.lookup C35 = some (excClassObj nm31 qq31 C35 N31 bs31 bm31 true sn31 sub31 ab31 col31 dd31 x031 x131 x231 x331 x531 "ValueError.__new__"))
    (xr_BadPlace : PySem.HandSPX.refsVE bm31 = true)
    (ti_BadPlace : PySem.W.typeIn K (.ref f31) = some (.type "function"))
    (nf_BadPlace : PySem.W.findIn K (.ref C35) "place" = some none)
    (xL_BadTable : K.lookup C37 = some (excClassObj nm32 qq32 C37 N32 bs32 bm32 true sn32 sub32 ab32 col32 dd32 x032 x132 x232 x332 x532 "ValueError.__new__"))
    (xr_BadTable : PySem.HandSPX.refsVE bm32 = true)
    (ti_BadTable : PySem.W.typeIn K (.ref f32) = some (.type "function"))
    (nf_BadTable : PySem.W.findIn K (.ref C37) "row" = some none)
    (no_place_RatesError : PySem.W.findIn K (.ref C33) "place" = some none)
    (no_place_BadNumber : PySem.W.findIn K (.ref C34) "place" = some none)
    (no_place_BadPlace : PySem.W.findIn K (.ref C35) "place" = some none)
    (no_place_BadLot : PySem.W.findIn K (.ref C36) "place" = some none)
    (no_place_BadTable : PySem.W.findIn K (.ref C37) "place" = some none)
    (no_place_OtherSize : PySem.W.findIn K (.ref C38) "place" = some none)
    (u_RatesError_BadPlace : PySem.W.subIn K (.ref C33) (.ref C35) = some false)
    (u_BadNumber_BadPlace : PySem.W.subIn K (.ref C34) (.ref C35) = some false)
    (u_BadLot_BadPlace : PySem.W.subIn K (.ref C36) (.ref C35) = some false)
    (u_BadTable_BadPlace : PySem.W.subIn K (.ref C37) (.ref C35) = some false)
    (u_OtherSize_BadPlace : PySem.W.subIn K (.ref C38) (.ref C35) = some false)
    (u_BadNumber_RatesError : PySem.W.subIn K (.ref C34) (.ref C33) = some true)
    (u_BadPlace_RatesError : PySem.W.subIn K (.ref C35) (.ref C33) = some true)
    (u_BadLot_RatesError : PySem.W.subIn K (.ref C36) (.ref C33) = some true)
    (u_BadTable_RatesError : PySem.W.subIn K (.ref C37) (.ref C33) = some true)
    (u_OtherSize_RatesError : PySem.W.subIn K (.ref C38) (.ref C33) = some true)
    (u_RatesError_ValueError : PySem.W.subIn K (.ref C33) (.type "ValueError") = some true)
    (u_BadNumber_ValueError : PySem.W.subIn K (.ref C34) (.type "ValueError") = some true)
    (u_BadPlace_ValueError : PySem.W.subIn K (.ref C35) (.type "ValueError") = some true)
    (u_BadLot_ValueError : PySem.W.subIn K (.ref C36) (.type "ValueError") = some true)
    (u_BadTable_ValueError : PySem.W.subIn K (.ref C37) (.type "ValueError") = some true)
    (u_OtherSize_ValueError : PySem.W.subIn K (.ref C38) (.type "ValueError") = some true)
    (u_RatesError_BadLot : PySem.W.subIn K (.ref C33) (.ref C36) = some false)
    (u_BadNumber_BadLot : PySem.W.subIn K (.ref C34) (.ref C36) = some false)
    (u_BadPlace_BadLot : PySem.W.subIn K (.ref C35) (.ref C36) = some false)
    (u_BadTable_BadLot : PySem.W.subIn K (.ref C37) (.ref C36) = some false)
    (u_OtherSize_BadLot : PySem.W.subIn K (.ref C38) (.ref C36) = some false)
    (pg_World : PySem.W.plainGet K C39 Str.empty = true)
    (ic_World : PySem.W.isClsIn K C39 = true)
    (po_World : PySem.W.plainOver K C39 = true)
    (sa_World : PySem.W.findIn K (.ref C39) "__setattr__" = some (some (.builtin "object.__setattr__")))
    (mk_World : PySem.W.makesIn K C39 = true)
    (kc_World : PySem.W.keepIn K (.ref C39) = true)
    (fn_World : PySem.W.isFn K (.ref f4) = true)
    (qa_World_size : PySem.W.findIn K (.ref C39) "size" = some (some (.ref q40)))
    (qg_World_size : PySem.W.specialIn K (.ref q40) "__get__" = some (some (.builtin "member_descriptor.__get__")))
    (qt_World_size : PySem.W.takesIn K (.ref q40) = some true)
    (qy_World_size : PySem.W.typeIn K (.ref q40) = some (.type "member_descriptor"))
    (qi_World_size : PySem.W.slotIn K q40 C39 = some 1)
    (qa_World_takes : PySem.W.findIn K (.ref C39) "takes" = some (some (.ref q41)))
    (qg_World_takes : PySem.W.specialIn K (.ref q41) "__get__" = some (some (.builtin "member_descriptor.__get__")))
    (qt_World_takes : PySem.W.takesIn K (.ref q41) = some true)
    (qy_World_takes : PySem.W.typeIn K (.ref q41) = some (.type "member_descriptor"))
    (qi_World_takes : PySem.W.slotIn K q41 C39 = some 2)
    (qa_World_calls : PySem.W.findIn K (.ref C39) "calls" = some (some (.ref q42)))
    (qg_World_calls : PySem.W.specialIn K (.ref q42) "__get__" = some (some (.builtin "member_descriptor.__get__")))
    (qt_World_calls : PySem.W.takesIn K (.ref q42) = some true)
    (qy_World_calls : PySem.W.typeIn K (.ref q42) = some (.type "member_descriptor"))
    (qi_World_calls : PySem.W.slotIn K q42 C39 = some 0) :
    ∃ (A : Nat → Addr) (FD : Nat → FuncData), A 30 = fa ∧ (∀ (s : Shared) (v : Value), BindsTo s (FD 30) ⟨[v], []⟩ [("_law_script", v)]) ∧ Tx K mg A FD := by
  have e := hfa.symm.trans (PySem.W.mg_of X G a30)
  cases e
  let AL : List Addr := [f0, f1, f2, f3, f4, f5, f6, f7, f8, f9, f10, f11, f12, f13, f14, f15, f16, f17, f18, f19, f20, f21, f22, f23, f24, f25, f26, f27, f28, f29, fa, f31, f32, C33, C34, C35, C36, C37, C38, C39, q40, q41, q42]
  let FL : List FuncData := [PySem.W.fnOf "is_whole" "is_whole" (defArgs s_is_whole) (defBody s_is_whole) (defScope s_is_whole) .none kV0 dc0 pm0 an0 cd0 ct0,
    PySem.W.fnOf "_worlds_row" "_worlds_row" (defArgs s__worlds_row) (defBody s__worlds_row) (defScope s__worlds_row) .none kV1 dc1 pm1 an1 cd1 ct1,
    PySem.W.fnOf "_worlds_calls" "_worlds_calls" (defArgs s__worlds_calls) (defBody s__worlds_calls) (defScope s__worlds_calls) .none kV2 dc2 pm2 an2 cd2 ct2,
    PySem.W.fnOf "_worlds_takes" "_worlds_takes" (defArgs s__worlds_takes) (defBody s__worlds_takes) (defScope s__worlds_takes) .none kV3 dc3 pm3 an3 cd3 ct3,
    PySem.W.fnOf "__init__" "World.__init__" (defArgs s_World_init) (defBody s_World_init) (defScope s_World_init) .none (.ref kd4) dc4 pm4 an4 cd4 ct4,
    PySem.W.fnOf "_law_closed" "_law_closed" (defArgs s__law_closed) (defBody s__law_closed) (defScope s__law_closed) .none kV5 dc5 pm5 an5 cd5 ct5,
    PySem.W.fnOf "_law_lots" "_law_lots" (defArgs s__law_lots) (defBody s__law_lots) (defScope s__law_lots) .none kV6 dc6 pm6 an6 cd6 ct6,
    PySem.W.fnOf "_law_least_closed" "_law_least_closed" (defArgs s__law_least_closed) (defBody s__law_least_closed) (defScope s__law_least_closed) .none kV7 dc7 pm7 an7 cd7 ct7,
    PySem.W.fnOf "_law_blank" "_law_blank" (defArgs s__law_blank) (defBody s__law_blank) (defScope s__law_blank) .none kV8 dc8 pm8 an8 cd8 ct8,
    PySem.W.fnOf "_law_pick" "_law_pick" (defArgs s__law_pick) (defBody s__law_pick) (defScope s__law_pick) .none kV9 dc9 pm9 an9 cd9 ct9,
    PySem.W.fnOf "_law_rate" "_law_rate" (defArgs s__law_rate) (defBody s__law_rate) (defScope s__law_rate) .none kV10 dc10 pm10 an10 cd10 ct10,
    PySem.W.fnOf "_law_loose" "_law_loose" (defArgs s__law_loose) (defBody s__law_loose) (defScope s__law_loose) .none kV11 dc11 pm11 an11 cd11 ct11,
    PySem.W.fnOf "_law_loud" "_law_loud" (defArgs s__law_loud) (defBody s__law_loud) (defScope s__law_loud) .none kV12 dc12 pm12 an12 cd12 ct12,
    PySem.W.fnOf "_law_pool" "_law_pool" (defArgs s__law_pool) (defBody s__law_pool) (defScope s__law_pool) .none kV13 dc13 pm13 an13 cd13 ct13,
    PySem.W.fnOf "_law_reached" "_law_reached" (defArgs s__law_reached) (defBody s__law_reached) (defScope s__law_reached) .none kV14 dc14 pm14 an14 cd14 ct14,
    PySem.W.fnOf "bits_of" "bits_of" (defArgs s_bits_of) (defBody s_bits_of) (defScope s_bits_of) .none kV15 dc15 pm15 an15 cd15 ct15,
    PySem.W.fnOf "_linking_looks" "_linking_looks" (defArgs s__linking_looks) (defBody s__linking_looks) (defScope s__linking_looks) .none kV16 dc16 pm16 an16 cd16 ct16,
    PySem.W.fnOf "lot_from" "lot_from" (defArgs s_lot_from) (defBody s_lot_from) (defScope s_lot_from) .none kV17 dc17 pm17 an17 cd17 ct17,
    PySem.W.fnOf "_linking_reached" "_linking_reached" (defArgs s__linking_reached) (defBody s__linking_reached) (defScope s__linking_reached) .none kV18 dc18 pm18 an18 cd18 ct18,
    PySem.W.fnOf "place_of" "place_of" (defArgs s_place_of) (defBody s_place_of) (defScope s_place_of) .none kV19 dc19 pm19 an19 cd19 ct19,
    PySem.W.fnOf "reaches" "reaches" (defArgs s_reaches) (defBody s_reaches) (defScope s_reaches) .none kV20 dc20 pm20 an20 cd20 ct20,
    PySem.W.fnOf "way" "way" (defArgs s_way) (defBody s_way) (defScope s_way) .none kV21 dc21 pm21 an21 cd21 ct21,
    PySem.W.fnOf "_law_refused" "_law_refused" (defArgs s__law_refused) (defBody s__law_refused) (defScope s__law_refused) .none kV22 dc22 pm22 an22 cd22 ct22,
    PySem.W.fnOf "_law_far" "_law_far" (defArgs s__law_far) (defBody s__law_far) (defScope s__law_far) .none kV23 dc23 pm23 an23 cd23 ct23,
    PySem.W.fnOf "_law_int" "_law_int" (defArgs s__law_int) (defBody s__law_int) (defScope s__law_int) .none kV24 dc24 pm24 an24 cd24 ct24,
    PySem.W.fnOf "_law_is_way" "_law_is_way" (defArgs s__law_is_way) (defBody s__law_is_way) (defScope s__law_is_way) .none kV25 dc25 pm25 an25 cd25 ct25,
    PySem.W.fnOf "_law_ways_told" "_law_ways_told" (defArgs s__law_ways_told) (defBody s__law_ways_told) (defScope s__law_ways_told) .none kV26 dc26 pm26 an26 cd26 ct26,
    PySem.W.fnOf "heads" "heads" (defArgs s_heads) (defBody s_heads) (defScope s_heads) .none kV27 dc27 pm27 an27 cd27 ct27,
    PySem.W.fnOf "shut_lot" "shut_lot" (defArgs s_shut_lot) (defBody s_shut_lot) (defScope s_shut_lot) .none kV28 dc28 pm28 an28 cd28 ct28,
    PySem.W.fnOf "is_linked" "is_linked" (defArgs s_is_linked) (defBody s_is_linked) (defScope s_is_linked) .none kV29 dc29 pm29 an29 cd29 ct29,
    PySem.W.fnOf "law" "law" (defArgs s_law) (defBody s_law) (defScope s_law) .none kV30 dc30 pm30 an30 cd30 ct30,
    PySem.W.fnOf "__init__" "BadPlace.__init__" (defArgs s_BadPlace_init) (defBody s_BadPlace_init) (defScope s_BadPlace_init) .none kV31 dc31 pm31 an31 cd31 ct31,
    PySem.W.fnOf "__init__" "BadTable.__init__" (defArgs s_BadTable_init) (defBody s_BadTable_init) (defScope s_BadTable_init) .none kV32 dc32 pm32 an32 cd32 ct32]
  have FF4 : FunD K "__init__" "World.__init__" (defArgs s_World_init) (defBody s_World_init) (defScope s_World_init) [] [("calls", .non)] f4 (PySem.W.fnOf "__init__" "World.__init__" (defArgs s_World_init) (defBody s_World_init) (defScope s_World_init) .none (.ref kd4) dc4 pm4 an4 cd4 ct4) :=
    ⟨⟨_, _, _, _, _, _, _, _, _, _, rfl, l4, c4, .inl ⟨rfl, rfl⟩, .inr ⟨kd4, rfl, fun q hq => by simp only [List.mem_singleton] at hq; subst hq; exact ⟨.none, kd4_calls, rfl⟩⟩⟩, k4⟩
  obtain ⟨mv4, kb4⟩ := FunD.kbinds0 (ps := ["self", "takes", "calls"]) FF4 2 ["calls"] [] (fun vs mz zs => vs ++ zs) (by simp) (fun q hq => nomatch hq) (fun r1 _ r3 => r1.append r3) (fun Dk doc pm an cdv ct us mv ws h1 h2 h3 => match us, ws, h1, h3 with | [_, _], [_], _, _ => rfl)
  refine ⟨fun n => AL.getD n 0, fun n => FL.getD n (PySem.W.fnOf "law" "law" (defArgs s_law) (defBody s_law) (defScope s_law) .none kV30 dc30 pm30 an30 cd30 ct30), rfl, fun s v => .of_eq rfl, ?_⟩
  exact { n_ValueError := PySem.W.mg_none_of X G z_ValueError,
          n_all := PySem.W.mg_none_of X G z_all,
          n_bool := PySem.W.mg_none_of X G z_bool,
          n_enumerate := PySem.W.mg_none_of X G z_enumerate,
          n_int := PySem.W.mg_none_of X G z_int,
          n_isinstance := PySem.W.mg_none_of X G z_isinstance,
          n_len := PySem.W.mg_none_of X G z_len,
          n_list := PySem.W.mg_none_of X G z_list,
          n_min := PySem.W.mg_none_of X G z_min,
          n_range := PySem.W.mg_none_of X G z_range,
          n_sorted := PySem.W.mg_none_of X G z_sorted,
          n_tuple := PySem.W.mg_none_of X G z_tuple,
          g_is_whole := PySem.W.mg_of X G a0,
          g__worlds_row := PySem.W.mg_of X G a1,
          g__worlds_calls := PySem.W.mg_of X G a2,
          g__worlds_takes := PySem.W.mg_of X G a3,
          g__law_closed := PySem.W.mg_of X G a5,
          g__law_lots := PySem.W.mg_of X G a6,
          g__law_least_closed := PySem.W.mg_of X G a7,
          g__law_blank := PySem.W.mg_of X G a8,
          g__law_pick := PySem.W.mg_of X G a9,
          g__law_rate := PySem.W.mg_of X G a10,
          g__law_loose := PySem.W.mg_of X G a11,
          g__law_loud := PySem.W.mg_of X G a12,
          g__law_pool := PySem.W.mg_of X G a13,
          g__law_reached := PySem.W.mg_of X G a14,
          g_bits_of := PySem.W.mg_of X G a15,
          g__linking_looks := PySem.W.mg_of X G a16,
          g_lot_from := PySem.W.mg_of X G a17,
          g__linking_reached := PySem.W.mg_of X G a18,
          g_place_of := PySem.W.mg_of X G a19,
          g_reaches := PySem.W.mg_of X G a20,
          g_way := PySem.W.mg_of X G a21,
          g__law_refused := PySem.W.mg_of X G a22,
          g__law_far := PySem.W.mg_of X G a23,
          g__law_int := PySem.W.mg_of X G a24,
          g__law_is_way := PySem.W.mg_of X G a25,
          g__law_ways_told := PySem.W.mg_of X G a26,
          g_heads := PySem.W.mg_of X G a27,
          g_shut_lot := PySem.W.mg_of X G a28,
          g_is_linked := PySem.W.mg_of X G a29,
          g_law := PySem.W.mg_of X G a30,
          F_is_whole := fun_mk (st := s_is_whole) l0 c0 k0,
          b_is_whole := (fun_mk (st := s_is_whole) l0 c0 k0).binds (ps := ["value"]) fun _ _ _ _ _ _ us hl => match us, hl with | [_], _ => rfl,
          F__worlds_row := fun_mk (st := s__worlds_row) l1 c1 k1,
          b__worlds_row := (fun_mk (st := s__worlds_row) l1 c1 k1).binds (ps := ["entries", "size", "at", "above"]) fun _ _ _ _ _ _ us hl => match us, hl with | [_, _, _, _], _ => rfl,
          F__worlds_calls := fun_mk (st := s__worlds_calls) l2 c2 k2,
          b__worlds_calls := (fun_mk (st := s__worlds_calls) l2 c2 k2).binds (ps := ["calls", "takes"]) fun _ _ _ _ _ _ us hl => match us, hl with | [_, _], _ => rfl,
          F__worlds_takes := fun_mk (st := s__worlds_takes) l3 c3 k3,
          b__worlds_takes := (fun_mk (st := s__worlds_takes) l3 c3 k3).binds (ps := ["takes"]) fun _ _ _ _ _ _ us hl => match us, hl with | [_], _ => rfl,
          F_World_init := FF4,
          F__law_closed := fun_mk (st := s__law_closed) l5 c5 k5,
          b__law_closed := (fun_mk (st := s__law_closed) l5 c5 k5).binds (ps := ["_law_takes", "_law_lot"]) fun _ _ _ _ _ _ us hl => match us, hl with | [_, _], _ => rfl,
          F__law_lots := fun_mk (st := s__law_lots) l6 c6 k6,
          b__law_lots := (fun_mk (st := s__law_lots) l6 c6 k6).binds (ps := ["_law_size"]) fun _ _ _ _ _ _ us hl => match us, hl with | [_], _ => rfl,
          F__law_least_closed := fun_mk (st := s__law_least_closed) l7 c7 k7,
          b__law_least_closed := (fun_mk (st := s__law_least_closed) l7 c7 k7).binds (ps := ["_law_takes"]) fun _ _ _ _ _ _ us hl => match us, hl with | [_], _ => rfl,
          F__law_blank := fun_mk (st := s__law_blank) l8 c8 k8,
          b__law_blank := (fun_mk (st := s__law_blank) l8 c8 k8).binds (ps := ["_law_size"]) fun _ _ _ _ _ _ us hl => match us, hl with | [_], _ => rfl,
          F__law_pick := fun_mk (st := s__law_pick) l9 c9 k9,
          b__law_pick := (fun_mk (st := s__law_pick) l9 c9 k9).binds (ps := ["_law_pool_here", "_law_many"]) fun _ _ _ _ _ _ us hl => match us, hl with | [_, _], _ => rfl,
          F__law_rate := fun_mk (st := s__law_rate) l10 c10 k10,
          b__law_rate := (fun_mk (st := s__law_rate) l10 c10 k10).binds (ps := ["_law_pool_here"]) fun _ _ _ _ _ _ us hl => match us, hl with | [_], _ => rfl,
          F__law_loose := fun_mk (st := s__law_loose) l11 c11 k11,
          b__law_loose := (fun_mk (st := s__law_loose) l11 c11 k11).binds (ps := ["_law_pool_here"]) fun _ _ _ _ _ _ us hl => match us, hl with | [_], _ => rfl,
          F__law_loud := fun_mk (st := s__law_loud) l12 c12 k12,
          b__law_loud := (fun_mk (st := s__law_loud) l12 c12 k12).binds (ps := ["_law_pool_here", "_law_takes"]) fun _ _ _ _ _ _ us hl => match us, hl with | [_, _], _ => rfl,
          F__law_pool := fun_mk (st := s__law_pool) l13 c13 k13,
          b__law_pool := (fun_mk (st := s__law_pool) l13 c13 k13).binds (ps := ["_law_script"]) fun _ _ _ _ _ _ us hl => match us, hl with | [_], _ => rfl,
          F__law_reached := fun_mk (st := s__law_reached) l14 c14 k14,
          b__law_reached := (fun_mk (st := s__law_reached) l14 c14 k14).binds (ps := ["_law_takes", "_law_start"]) fun _ _ _ _ _ _ us hl => match us, hl with | [_, _], _ => rfl,
          F_bits_of := fun_mk (st := s_bits_of) l15 c15 k15,
          b_bits_of := (fun_mk (st := s_bits_of) l15 c15 k15).binds (ps := ["lot"]) fun _ _ _ _ _ _ us hl => match us, hl with | [_], _ => rfl,
          F__linking_looks := fun_mk (st := s__linking_looks) l16 c16 k16,
          b__linking_looks := (fun_mk (st := s__linking_looks) l16 c16 k16).binds (ps := ["world"]) fun _ _ _ _ _ _ us hl => match us, hl with | [_], _ => rfl,
          F_lot_from := fun_mk (st := s_lot_from) l17 c17 k17,
          b_lot_from := (fun_mk (st := s_lot_from) l17 c17 k17).binds (ps := ["number"]) fun _ _ _ _ _ _ us hl => match us, hl with | [_], _ => rfl,
          F__linking_reached := fun_mk (st := s__linking_reached) l18 c18 k18,
          b__linking_reached := (fun_mk (st := s__linking_reached) l18 c18 k18).binds (ps := ["looks", "place"]) fun _ _ _ _ _ _ us hl => match us, hl with | [_, _], _ => rfl,
          F_place_of := fun_mk (st := s_place_of) l19 c19 k19,
          b_place_of := (fun_mk (st := s_place_of) l19 c19 k19).binds (ps := ["value", "size"]) fun _ _ _ _ _ _ us hl => match us, hl with | [_, _], _ => rfl,
          F_reaches := fun_mk (st := s_reaches) l20 c20 k20,
          b_reaches := (fun_mk (st := s_reaches) l20 c20 k20).binds (ps := ["world", "place"]) fun _ _ _ _ _ _ us hl => match us, hl with | [_, _], _ => rfl,
          F_way := fun_mk (st := s_way) l21 c21 k21,
          b_way := (fun_mk (st := s_way) l21 c21 k21).binds (ps := ["world", "start", "goal"]) fun _ _ _ _ _ _ us hl => match us, hl with | [_, _, _], _ => rfl,
          F__law_refused := fun_mk (st := s__law_refused) l22 c22 k22,
          b__law_refused := (fun_mk (st := s__law_refused) l22 c22 k22).binds (ps := ["_law_world", "_law_door", "_law_place", "_law_other"]) fun _ _ _ _ _ _ us hl => match us, hl with | [_, _, _, _], _ => rfl,
          F__law_far := fun_mk (st := s__law_far) l23 c23 k23,
          b__law_far := (fun_mk (st := s__law_far) l23 c23 k23).binds (ps := ["_law_takes", "_law_start"]) fun _ _ _ _ _ _ us hl => match us, hl with | [_, _], _ => rfl,
          F__law_int := fun_mk (st := s__law_int) l24 c24 k24,
          b__law_int := (fun_mk (st := s__law_int) l24 c24 k24).binds (ps := ["_law_value"]) fun _ _ _ _ _ _ us hl => match us, hl with | [_], _ => rfl,
          F__law_is_way := fun_mk (st := s__law_is_way) l25 c25 k25,
          b__law_is_way := (fun_mk (st := s__law_is_way) l25 c25 k25).binds (ps := ["_law_takes", "_law_start", "_law_goal", "_law_many", "_law_path"]) fun _ _ _ _ _ _ us hl => match us, hl with | [_, _, _, _, _], _ => rfl,
          F__law_ways_told := fun_mk (st := s__law_ways_told) l26 c26 k26,
          b__law_ways_told := (fun_mk (st := s__law_ways_told) l26 c26 k26).binds (ps := ["_law_takes", "_law_world", "_law_start"]) fun _ _ _ _ _ _ us hl => match us, hl with | [_, _, _], _ => rfl,
          F_heads := fun_mk (st := s_heads) l27 c27 k27,
          b_heads := (fun_mk (st := s_heads) l27 c27 k27).binds (ps := ["world"]) fun _ _ _ _ _ _ us hl => match us, hl with | [_], _ => rfl,
          F_shut_lot := fun_mk (st := s_shut_lot) l28 c28 k28,
          b_shut_lot := (fun_mk (st := s_shut_lot) l28 c28 k28).binds (ps := ["world"]) fun _ _ _ _ _ _ us hl => match us, hl with | [_], _ => rfl,
          F_is_linked := fun_mk (st := s_is_linked) l29 c29 k29,
          b_is_linked := (fun_mk (st := s_is_linked) l29 c29 k29).binds (ps := ["world"]) fun _ _ _ _ _ _ us hl => match us, hl with | [_], _ => rfl,
          F_law := fun_mk (st := s_law) l30 c30 k30,
          b_law := (fun_mk (st := s_law) l30 c30 k30).binds (ps := ["_law_script"]) fun _ _ _ _ _ _ us hl => match us, hl with | [_], _ => rfl,
          F_BadPlace_init := fun_mk (st := s_BadPlace_init) l31 c31 k31,
          b_BadPlace_init := (fun_mk (st := s_BadPlace_init) l31 c31 k31).binds (ps := ["self", "place"]) fun _ _ _ _ _ _ us hl => match us, hl with | [_, _], _ => rfl,
          F_BadTable_init := fun_mk (st := s_BadTable_init) l32 c32 k32,
          b_BadTable_init := (fun_mk (st := s_BadTable_init) l32 c32 k32).binds (ps := ["self", "row"]) fun _ _ _ _ _ _ us hl => match us, hl with | [_, _], _ => rfl,
          g_BadLot := PySem.W.mg_of X G aC_BadLot,
          g_BadPlace := PySem.W.mg_of X G aC_BadPlace,
          g_BadTable := PySem.W.mg_of X G aC_BadTable,
          g_RatesError := PySem.W.mg_of X G aC_RatesError,
          g_World := PySem.W.mg_of X G aC_World,
          ox_BadPlace := ⟨⟨_, _, _, _, _, _, _, _, _, _, _, _, _, _, _, xL_BadPlace, xr_BadPlace⟩, sa_BadPlace, eC_BadPlace, tC_BadPlace, kC_BadPlace⟩,
          ic_BadPlace := a31,
          ti_BadPlace := ti_BadPlace,
          nf_BadPlace := nf_BadPlace,
          ox_BadTable := ⟨⟨_, _, _, _, _, _, _, _, _, _, _, _, _, _, _, xL_BadTable, xr_BadTable⟩, sa_BadTable, eC_BadTable, tC_BadTable, kC_BadTable⟩,
          ic_BadTable := a32,
          ti_BadTable := ti_BadTable,
          nf_BadTable := nf_BadTable,
          xf := fun k hk => match k, hk with | 0, _ => ⟨ga_RatesError, gg_RatesError, eC_RatesError, hd_RatesError⟩ | 1, _ => ⟨ga_BadNumber, gg_BadNumber, eC_BadNumber, hd_BadNumber⟩ | 2, _ => ⟨ga_BadPlace, gg_BadPlace, eC_BadPlace, hd_BadPlace⟩ | 3, _ => ⟨ga_BadLot, gg_BadLot, eC_BadLot, hd_BadLot⟩ | 4, _ => ⟨ga_BadTable, gg_BadTable, eC_BadTable, hd_BadTable⟩ | 5, _ => ⟨ga_OtherSize, gg_OtherSize, eC_OtherSize, hd_OtherSize⟩ | n + 6, h => absurd h (by omega),
          xe := fun k hk => match k, hk with | 0, _ => ⟨ga_RatesError, gg_RatesError, eC_RatesError, hd_RatesError, ha_RatesError, hn, ht, mo_RatesError⟩ | 1, _ => ⟨ga_BadNumber, gg_BadNumber, eC_BadNumber, hd_BadNumber, ha_BadNumber, hn, ht, mo_BadNumber⟩ | 2, _ => ⟨ga_BadPlace, gg_BadPlace, eC_BadPlace, hd_BadPlace, ha_BadPlace, hn, ht, mo_BadPlace⟩ | 3, _ => ⟨ga_BadLot, gg_BadLot, eC_BadLot, hd_BadLot, ha_BadLot, hn, ht, mo_BadLot⟩ | 4, _ => ⟨ga_BadTable, gg_BadTable, eC_BadTable, hd_BadTable, ha_BadTable, hn, ht, mo_BadTable⟩ | 5, _ => ⟨ga_OtherSize, gg_OtherSize, eC_OtherSize, hd_OtherSize, ha_OtherSize, hn, ht, mo_OtherSize⟩ | n + 6, h => absurd h (by omega),
          no_place := fun k hk => match k, hk with | 0, _ => no_place_RatesError | 1, _ => no_place_BadNumber | 2, _ => no_place_BadPlace | 3, _ => no_place_BadLot | 4, _ => no_place_BadTable | 5, _ => no_place_OtherSize | n + 6, h => absurd h (by omega),
          is_BadLot := fun k hk => match k, hk with | 0, _ => kit_ref u_RatesError_BadLot iC_BadLot tC_BadLot sc_BadLot | 1, _ => kit_ref u_BadNumber_BadLot iC_BadLot tC_BadLot sc_BadLot | 2, _ => kit_ref u_BadPlace_BadLot iC_BadLot tC_BadLot sc_BadLot | 3, _ => kit_self | 4, _ => kit_ref u_BadTable_BadLot iC_BadLot tC_BadLot sc_BadLot | 5, _ => kit_ref u_OtherSize_BadLot iC_BadLot tC_BadLot sc_BadLot | n + 6, h => absurd h (by omega),
          is_RatesError := fun k hk => match k, hk with | 0, _ => kit_self | 1, _ => kit_ref u_BadNumber_RatesError iC_RatesError tC_RatesError sc_RatesError | 2, _ => kit_ref u_BadPlace_RatesError iC_RatesError tC_RatesError sc_RatesError | 3, _ => kit_ref u_BadLot_RatesError iC_RatesError tC_RatesError sc_RatesError | 4, _ => kit_ref u_BadTable_RatesError iC_RatesError tC_RatesError sc_RatesError | 5, _ => kit_ref u_OtherSize_RatesError iC_RatesError tC_RatesError sc_RatesError | n + 6, h => absurd h (by omega),
          is_ValueError := fun k hk => match k, hk with | 0, _ => kit_type u_RatesError_ValueError (by decide +kernel) | 1, _ => kit_type u_BadNumber_ValueError (by decide +kernel) | 2, _ => kit_type u_BadPlace_ValueError (by decide +kernel) | 3, _ => kit_type u_BadLot_ValueError (by decide +kernel) | 4, _ => kit_type u_BadTable_ValueError (by decide +kernel) | 5, _ => kit_type u_OtherSize_ValueError (by decide +kernel) | n + 6, h => absurd h (by omega),
          ct_BadPlace := ⟨fun k hk => match k, hk with | 0, _ => PySem.W.exm_ref eC_BadPlace hd_BadPlace tC_BadPlace u_RatesError_BadPlace | 1, _ => PySem.W.exm_ref eC_BadPlace hd_BadPlace tC_BadPlace u_BadNumber_BadPlace | 2, _ => PySem.W.exm_ref eC_BadPlace hd_BadPlace tC_BadPlace sc_BadPlace | 3, _ => PySem.W.exm_ref eC_BadPlace hd_BadPlace tC_BadPlace u_BadLot_BadPlace | 4, _ => PySem.W.exm_ref eC_BadPlace hd_BadPlace tC_BadPlace u_BadTable_BadPlace | 5, _ => PySem.W.exm_ref eC_BadPlace hd_BadPlace tC_BadPlace u_OtherSize_BadPlace | n + 6, h => absurd h (by omega)⟩,
          sc_World := ⟨pg_World, ic_World, po_World, sa_World⟩,
          sl_World_size := ⟨qa_World_size, qg_World_size, qt_World_size, qy_World_size, qi_World_size, by decide⟩,
          sl_World_takes := ⟨qa_World_takes, qg_World_takes, qt_World_takes, qy_World_takes, qi_World_takes, by decide⟩,
          sl_World_calls := ⟨qa_World_calls, qg_World_calls, qt_World_calls, qy_World_calls, qi_World_calls, by decide⟩,
          mk_World := ⟨mk_World, a4, fn_World, kc_World⟩,
          kb_World := kb4 }
/-- what is asked of the law: it gives True, whatever the script -/
def spLaw (K : PySem.W.Frag) : Sp := fun vs H Q _ => ∃ (a : Addr) (ns : List Int), vs = [.ref a] ∧ SqF K H a (ns.map V.int) ∧ ns.length ≤ 63 ∧ (∀ z ∈ ns, Builtin.Int.intBits z ≤ 1048576) ∧ ∀ H', Q (.bl true) H'
theorem law_ok {P : Program} {w : World} {K : PySem.W.Frag} {mg : Str → Option Value} {base : Heap} {A : Nat → Addr} {FD : Nat → FuncData} (T : Tx K mg A FD) : FnOk P w K mg base (L2.CX P w) 9 (A 30) (FD 30) ["_law_script"] (spLaw K) :=
  (ok_law T).imp fun vs H Q E h => by
    obtain ⟨a, ns, rfl, hs, hl, hb, hq⟩ := h
    obtain ⟨S, e⟩ := law_true ns hl hb
    exact ⟨rfl, [], [], [.scr ns], ⟨rfl, .nil, fun n o a h => by simp at h, fun x h => by cases h⟩, .cons (.scr hs) .nil, by rw [e]; exact fun ι' H' v _ _ rv => by rw [rv.bl_inv]; exact hq H'⟩
theorem walk {l : PySem.W.OpenLaw} {q : Program} {loose : List Str} {XP : (Str → Option Value) → Heap → Prop} {YP : World → Heap → Prop} {d : DefRec} {K : Params → PySem.W.Frag} (hn : l.most = some 63) (hdf : d.params.defaults = []) (hY : ∀ (w : World) (h : Heap), YP w h → (K w.params).In h)
    (F : ∀ (w : World) (mg : Str → Option Value) (fa : Addr) (h : Heap), (K w.params).In h → h.Ns mainGlobals mg → mg d.name = some (.ref fa) → ∃ (A : Nat → Addr) (FD : Nat → FuncData), A 30 = fa ∧ (∀ (s : Shared) (v : Value), BindsTo s (FD 30) ⟨[v], []⟩ [("_law_script", v)]) ∧ Tx (K w.params) mg A FD) :
    PySem.W.WalkO q loose XP YP l.row.toRowW d [] (fun f vs => PySem.call f vs) :=
  L2.walk_ofB (n := 63) (k := 9) (x := "_law_script") (CX := fun w => L2.CX l.prog w) (sp := fun w => spLaw (K w.params)) hn (by decide) hdf ⟨rfl, by decide, by decide⟩ hY
    (fun w mg fa h KX G hmg => by obtain ⟨A, FD, e, hb, T⟩ := F w mg fa h KX G hmg; subst e; exact ⟨FD 30, hb, fun base _ _ => law_ok T⟩)
    (fun w H a ns hl hb ho hS => ⟨a, ns, rfl, SqF.of ho hS, hl, hb, fun _ => rfl⟩) fun w H s e s' z => by obtain ⟨_, _, _, _, _, _, _, _, _, _, _, _, z⟩ := z; exact z
end K01
open PySem PySem.W PyProof.Rows in
set_option maxRecDepth 100000 in
set_option maxHeartbeats 0 in
theorem PySem.Challenge.cw_copyrates_k01_ways_heads_and_shut_lots_holds : PySem.Challenge.rw_copyrates_k01_ways_heads_and_shut_lots.Holds := by
  w_on; o_law; k_head; (case hw => w_witness2)
  k_fill
  refine K01.walk (l := PySem.Challenge.rw_copyrates_k01_ways_heads_and_shut_lots) rfl rfl (fun w h Y => PySem.W.kIn_of Y) ?F
  case F =>
    intro w mg fa h KX G hmg
    refine' K01.all_mk KX G hmg ?z_ValueError ?z_all ?z_bool ?z_enumerate ?z_int ?z_isinstance ?z_len ?z_list ?z_min ?z_range ?z_sorted ?z_tuple ?aC_RatesError ?aC_BadPlace ?aC_BadLot ?aC_BadTable ?aC_World ?aC_BadNumber ?aC_OtherSize ?a0 ?l0 ?c0 ?k0 ?a1 ?l1 ?c1 ?k1 ?a2 ?l2 ?c2 ?k2 ?a3 ?l3 ?c3 ?k3 ?a4 ?l4 ?c4 ?k4 ?kd4_calls ?a5 ?l5 ?c5 ?k5 ?a6 ?l6 ?c6 ?k6 ?a7 ?l7 ?c7 ?k7 ?a8 ?l8 ?c8 ?k8 ?a9 ?l9 ?c9 ?k9 ?a10 ?l10 ?c10 ?k10 ?a11 ?l11 ?c11 ?k11 ?a12 ?l12 ?c12 ?k12 ?a13 ?l13 ?c13 ?k13 ?a14 ?l14 ?c14 ?k14 ?a15 ?l15 ?c15 ?k15 ?a16 ?l16 ?c16 ?k16 ?a17 ?l17 ?c17 ?k17 ?a18 ?l18 ?c18 ?k18 ?a19 ?l19 ?c19 ?k19 ?a20 ?l20 ?c20 ?k20 ?a21 ?l21 ?c21 ?k21 ?a22 ?l22 ?c22 ?k22 ?a23 ?l23 ?c23 ?k23 ?a24 ?l24 ?c24 ?k24 ?a25 ?l25 ?c25 ?k25 ?a26 ?l26 ?c26 ?k26 ?a27 ?l27 ?c27 ?k27 ?a28 ?l28 ?c28 ?k28 ?a29 ?l29 ?c29 ?k29 ?a30 ?l30 ?c30 ?k30 ?a31 ?l31 ?c31 ?k31 ?a32 ?l32 ?c32 ?k32 ?sa_RatesError ?ga_RatesError ?gg_RatesError ?eC_RatesError ?tC_RatesError ?kC_RatesError ?hd_RatesError ?iC_RatesError ?ha_RatesError ?mo_RatesError ?sc_RatesError ?sa_BadNumber ?ga_BadNumber ?gg_BadNumber ?eC_BadNumber ?tC_BadNumber ?kC_BadNumber ?hd_BadNumber ?iC_BadNumber ?ha_BadNumber ?mo_BadNumber ?sc_BadNumber ?sa_BadPlace ?ga_BadPlace ?gg_BadPlace ?eC_BadPlace ?tC_BadPlace ?kC_BadPlace ?hd_BadPlace ?iC_BadPlace ?ha_BadPlace ?mo_BadPlace ?sc_BadPlace ?sa_BadLot ?ga_BadLot ?gg_BadLot ?eC_BadLot ?tC_BadLot ?kC_BadLot ?hd_BadLot ?iC_BadLot ?ha_BadLot ?mo_BadLot ?sc_BadLot ?sa_BadTable ?ga_BadTable ?gg_BadTable ?eC_BadTable ?tC_BadTable ?kC_BadTable ?hd_BadTable ?iC_BadTable ?ha_BadTable ?mo_BadTable ?sc_BadTable ?sa_OtherSize ?ga_OtherSize ?gg_OtherSize ?eC_OtherSize ?tC_OtherSize ?kC_OtherSize ?hd_OtherSize ?iC_OtherSize ?ha_OtherSize ?mo_OtherSize ?sc_OtherSize ?hn ?ht ?xL_BadPlace ?xr_BadPlace ?ti_BadPlace ?nf_BadPlace ?xL_BadTable ?xr_BadTable ?ti_BadTable ?nf_BadTable ?no_place_RatesError ?no_place_BadNumber ?no_place_BadPlace ?no_place_BadLot ?no_place_BadTable ?no_place_OtherSize ?u_RatesError_BadPlace ?u_BadNumber_BadPlace ?u_BadLot_BadPlace ?u_BadTable_BadPlace ?u_OtherSize_BadPlace ?u_BadNumber_RatesError ?u_BadPlace_RatesError ?u_BadLot_RatesError ?u_BadTable_RatesError ?u_OtherSize_RatesError ?u_RatesError_ValueError ?u_BadNumber_ValueError ?u_BadPlace_ValueError ?u_BadLot_ValueError ?u_BadTable_ValueError ?u_OtherSize_ValueError ?u_RatesError_BadLot ?u_BadNumber_BadLot ?u_BadPlace_BadLot ?u_BadTable_BadLot ?u_OtherSize_BadLot ?pg_World ?ic_World ?po_World ?sa_World ?mk_World ?kc_World ?fn_World ?qa_World_size ?qg_World_size ?qt_World_size ?qy_World_size ?qi_World_size ?qa_World_takes ?qg_World_takes ?qt_World_takes ?qy_World_takes ?qi_World_takes ?qa_World_calls ?qg_World_calls ?qt_World_calls ?qy_World_calls ?qi_World_calls
    (case z_ValueError => k_is)
    (case z_all => k_is)
    (case z_bool => k_is)
    (case z_enumerate => k_is)
    (case z_int => k_is)
    (case z_isinstance => k_is)
    (case z_len => k_is)
    (case z_list => k_is)
    (case z_min => k_is)
    (case z_range => k_is)
    (case z_sorted => k_is)
    (case z_tuple => k_is)
    (case aC_RatesError => k_is)
    (case aC_BadPlace => k_is)
    (case aC_BadLot => k_is)
    (case aC_BadTable => k_is)
    (case aC_World => k_is)
    (case aC_BadNumber => k_is)
    (case aC_OtherSize => k_is)
    (case a0 => k_is)
    (case l0 => k_is)
    (case c0 => k_is)
    (case k0 => k_is)
    (case a1 => k_is)
    (case l1 => k_is)
    (case c1 => k_is)
    (case k1 => k_is)
    (case a2 => k_is)
    (case l2 => k_is)
    (case c2 => k_is)
    (case k2 => k_is)
    (case a3 => k_is)
    (case l3 => k_is)
    (case c3 => k_is)
    (case k3 => k_is)
    (case a4 => k_is)
    (case l4 => k_is)
    (case c4 => k_is)
    (case k4 => k_is)
    (case kd4_calls => k_is)
    (case a5 => k_is)
    (case l5 => k_is)
    (case c5 => k_is)
    (case k5 => k_is)
    (case a6 => k_is)
    (case l6 => k_is)
    (case c6 => k_is)
    (case k6 => k_is)
    (case a7 => k_is)
    (case l7 => k_is)
    (case c7 => k_is)
    (case k7 => k_is)
    (case a8 => k_is)
    (case l8 => k_is)
    (case c8 => k_is)
    (case k8 => k_is)
    (case a9 => k_is)
    (case l9 => k_is)
    (case c9 => k_is)
    (case k9 => k_is)
    (case a10 => k_is)
    (case l10 => k_is)
    (case c10 => k_is)
    (case k10 => k_is)
    (case a11 => k_is)
    (case l11 => k_is)
    (case c11 => k_is)
    (case k11 => k_is)
    (case a12 => k_is)
    (case l12 => k_is)
    (case c12 => k_is)
    (case k12 => k_is)
    (case a13 => k_is)
    (case l13 => k_is)
    (case c13 => k_is)
    (case k13 => k_is)
    (case a14 => k_is)
    (case l14 => k_is)
    (case c14 => k_is)
    (case k14 => k_is)
    (case a15 => k_is)
    (case l15 => k_is)
    (case c15 => k_is)
    (case k15 => k_is)
    (case a16 => k_is)
    (case l16 => k_is)
    (case c16 => k_is)
    (case k16 => k_is)
    (case a17 => k_is)
    (case l17 => k_is)
    (case c17 => k_is)
    (case k17 => k_is)
    (case a18 => k_is)
    (case l18 => k_is)
    (case c18 => k_is)
    (case k18 => k_is)
    (case a19 => k_is)
    (case l19 => k_is)
    (case c19 => k_is)
    (case k19 => k_is)
    (case a20 => k_is)
    (case l20 => k_is)
    (case c20 => k_is)
    (case k20 => k_is)
    (case a21 => k_is)
    (case l21 => k_is)
    (case c21 => k_is)
    (case k21 => k_is)
    (case a22 => k_is)
    (case l22 => k_is)
    (case c22 => k_is)
    (case k22 => k_is)
    (case a23 => k_is)
    (case l23 => k_is)
    (case c23 => k_is)
    (case k23 => k_is)
    (case a24 => k_is)
    (case l24 => k_is)
    (case c24 => k_is)
    (case k24 => k_is)
    (case a25 => k_is)
    (case l25 => k_is)
    (case c25 => k_is)
    (case k25 => k_is)
    (case a26 => k_is)
    (case l26 => k_is)
    (case c26 => k_is)
    (case k26 => k_is)
    (case a27 => k_is)
    (case l27 => k_is)
    (case c27 => k_is)
    (case k27 => k_is)
    (case a28 => k_is)
    (case l28 => k_is)
    (case c28 => k_is)
    (case k28 => k_is)
    (case a29 => k_is)
    (case l29 => k_is)
    (case c29 => k_is)
    (case k29 => k_is)
    (case a30 => k_is)
    (case l30 => k_is)
    (case c30 => k_is)
    (case k30 => k_is)
    (case a31 => k_is)
    (case l31 => k_is)
    (case c31 => k_is)
    (case k31 => k_is)
    (case a32 => k_is)
    (case l32 => k_is)
    (case c32 => k_is)
    (case k32 => k_is)
    (case sa_RatesError => k_is)
    (case ga_RatesError => k_is)
    (case gg_RatesError => k_is)
    (case eC_RatesError => k_is)
    (case tC_RatesError => k_is)
    (case kC_RatesError => k_is)
    (case hd_RatesError => k_is)
    (case iC_RatesError => k_is)
    (case ha_RatesError => k_is)
    (case mo_RatesError => k_is)
    (case sc_RatesError => first | k_is | rfl)
    (case sa_BadNumber => k_is)
    (case ga_BadNumber => k_is)
    (case gg_BadNumber => k_is)
    (case eC_BadNumber => k_is)
    (case tC_BadNumber => k_is)
    (case kC_BadNumber => k_is)
    (case hd_BadNumber => k_is)
    (case iC_BadNumber => k_is)
    (case ha_BadNumber => k_is)
    (case mo_BadNumber => k_is)
    (case sc_BadNumber => first | k_is | rfl)
    (case sa_BadPlace => k_is)
    (case ga_BadPlace => k_is)
    (case gg_BadPlace => k_is)
    (case eC_BadPlace => k_is)
    (case tC_BadPlace => k_is)
    (case kC_BadPlace => k_is)
    (case hd_BadPlace => k_is)
    (case iC_BadPlace => k_is)
    (case ha_BadPlace => k_is)
    (case mo_BadPlace => k_is)
    (case sc_BadPlace => first | k_is | rfl)
    (case sa_BadLot => k_is)
    (case ga_BadLot => k_is)
    (case gg_BadLot => k_is)
    (case eC_BadLot => k_is)
    (case tC_BadLot => k_is)
    (case kC_BadLot => k_is)
    (case hd_BadLot => k_is)
    (case iC_BadLot => k_is)
    (case ha_BadLot => k_is)
    (case mo_BadLot => k_is)
    (case sc_BadLot => first | k_is | rfl)
    (case sa_BadTable => k_is)
    (case ga_BadTable => k_is)
    (case gg_BadTable => k_is)
    (case eC_BadTable => k_is)
    (case tC_BadTable => k_is)
    (case kC_BadTable => k_is)
    (case hd_BadTable => k_is)
    (case iC_BadTable => k_is)
    (case ha_BadTable => k_is)
    (case mo_BadTable => k_is)
    (case sc_BadTable => first | k_is | rfl)
    (case sa_OtherSize => k_is)
    (case ga_OtherSize => k_is)
    (case gg_OtherSize => k_is)
    (case eC_OtherSize => k_is)
    (case tC_OtherSize => k_is)
    (case kC_OtherSize => k_is)
    (case hd_OtherSize => k_is)
    (case iC_OtherSize => k_is)
    (case ha_OtherSize => k_is)
    (case mo_OtherSize => k_is)
    (case sc_OtherSize => first | k_is | rfl)
    (case hn => k_is)
    (case ht => k_is)
    (case xL_BadPlace => k_is)
    (case xr_BadPlace => rfl)
    (case ti_BadPlace => k_is)
    (case nf_BadPlace => k_is)
    (case xL_BadTable => k_is)
    (case xr_BadTable => rfl)
    (case ti_BadTable => k_is)
    (case nf_BadTable => k_is)
    (case no_place_RatesError => k_is)
    (case no_place_BadNumber => k_is)
    (case no_place_BadPlace => k_is)
    (case no_place_BadLot => k_is)
    (case no_place_BadTable => k_is)
    (case no_place_OtherSize => k_is)
    (case u_RatesError_BadPlace => k_is)
    (case u_BadNumber_BadPlace => k_is)
    (case u_BadLot_BadPlace => k_is)
    (case u_BadTable_BadPlace => k_is)
    (case u_OtherSize_BadPlace => k_is)
    (case u_BadNumber_RatesError => k_is)
    (case u_BadPlace_RatesError => k_is)
    (case u_BadLot_RatesError => k_is)
    (case u_BadTable_RatesError => k_is)
    (case u_OtherSize_RatesError => k_is)
    (case u_RatesError_ValueError => k_is)
    (case u_BadNumber_ValueError => k_is)
    (case u_BadPlace_ValueError => k_is)
    (case u_BadLot_ValueError => k_is)
    (case u_BadTable_ValueError => k_is)
    (case u_OtherSize_ValueError => k_is)
    (case u_RatesError_BadLot => k_is)
    (case u_BadNumber_BadLot => k_is)
    (case u_BadPlace_BadLot => k_is)
    (case u_BadTable_BadLot => k_is)
    (case u_OtherSize_BadLot => k_is)
    (case pg_World => k_is)
    (case ic_World => k_is)
    (case po_World => k_is)
    (case sa_World => k_is)
    (case mk_World => k_is)
    (case kc_World => k_is)
    (case fn_World => k_is)
    (case qa_World_size => k_is)
    (case qg_World_size => k_is)
    (case qt_World_size => k_is)
    (case qy_World_size => k_is)
    (case qi_World_size => k_is)
    (case qa_World_takes => k_is)
    (case qg_World_takes => k_is)
    (case qt_World_takes => k_is)
    (case qy_World_takes => k_is)
    (case qi_World_takes => k_is)
    (case qa_World_calls => k_is)
    (case qg_World_calls => k_is)
    (case qt_World_calls => k_is)
    (case qy_World_calls => k_is)
    (case qi_World_calls => k_is)

