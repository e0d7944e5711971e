import PyProof.Rows.All
import HandS.ForMost
import HandS.ForExc
import HandS.Flow
import HandS.Wide
import KE.DataIsa
import KE.DataEq
import KE.DataAny
import KE.DataMinMax
import HandS.Deep
import HandS.TupAny
import HandS.TupMul
import HandS.TupLe
import PyProof.ReprRoads
import HandS.TupLen
import HandS.EndBits
import HandS.DictComp
import HandS.Conv
import HandS.Style
import PySem.Challenge.RW_pledgesold_k00_whole_books_judged
set_option Elab.async false
set_option linter.all false
set_option maxRecDepth 100000
set_option maxHeartbeats 4000000
/-! DL1: data trees, the tree of outcomes, the worlds and what stands for what -/
namespace DL
open PySem PySem.Spec PyProof.Rows L2

abbrev D := PyData
/-- an own exception: its class, its one argument -/
structure Exc where
  cls : Str
  arg : Option Int := none
/-- a computation: a value, an exception, nothing that is known, a number drawn below n -/
inductive M (α : Type) where
  | ret (a : α)
  | exc (x : Exc)
  | stuck
  | draw (n : Int) (k : Int → M α)
def M.bind {α β : Type} : M α → (α → M β) → M β
  | .ret a, f => f a
  | .exc x, _ => .exc x
  | .stuck, _ => .stuck
  | .draw n k, f => .draw n fun i => (k i).bind f
def M.wp {α : Type} : M α → (α → Prop) → (Exc → Prop) → Prop
  | .ret a, Q, _ => Q a
  | .exc x, _, E => E x
  | .stuck, _, _ => False
  | .draw n k, Q, E => ∀ i, 0 ≤ i → i < n → (k i).wp Q E
theorem M.wp_mono {α : Type} {Q Q' : α → Prop} {E E' : Exc → Prop} : ∀ {m : M α}, m.wp Q E → (∀ a, Q a → Q' a) → (∀ x, E x → E' x) → m.wp Q' E'
  | .ret a, h, q, _ => q a h
  | .exc x, h, _, e => e x h
  | .stuck, h, _, _ => h
  | .draw n k, h, q, e => fun i h0 h1 => M.wp_mono (h i h0 h1) q e
theorem M.wp_bind {α β : Type} {f : α → M β} {Q : β → Prop} {E : Exc → Prop} : ∀ {m : M α}, (m.bind f).wp Q E ↔ m.wp (fun a => (f a).wp Q E) E
  | .ret a => Iff.rfl
  | .exc x => Iff.rfl
  | .stuck => Iff.rfl
  | .draw n k => ⟨fun h i h0 h1 => M.wp_bind.mp (h i h0 h1), fun h i h0 h1 => M.wp_bind.mpr (h i h0 h1)⟩
theorem M.bind_bind {α β γ : Type} {f : α → M β} {g : β → M γ} : ∀ (m : M α), (m.bind f).bind g = m.bind fun a => (f a).bind g
  | .ret a => rfl
  | .exc x => rfl
  | .stuck => rfl
  | .draw n k => by simp only [M.bind]; congr 1; funext i; exact M.bind_bind (k i)
@[simp] theorem M.ret_bind {α β : Type} (a : α) (f : α → M β) : (M.ret a).bind f = f a := rfl
@[simp] theorem M.exc_bind {α β : Type} (x : Exc) (f : α → M β) : (M.exc x).bind f = .exc x := rfl
@[simp] theorem M.stuck_bind {α β : Type} (f : α → M β) : (M.stuck : M α).bind f = .stuck := rfl
@[simp] theorem M.draw_bind {α β : Type} (n : Int) (k : Int → M α) (f : α → M β) : (M.draw n k).bind f = .draw n fun i => (k i).bind f := rfl
/-- what is not known -/
def M.ofOpt {α : Type} : Option α → M α
  | some a => .ret a
  | none => .stuck
@[simp] theorem M.ofOpt_some {α : Type} (a : α) : M.ofOpt (some a) = .ret a := rfl
@[simp] theorem M.ofOpt_none {α : Type} : M.ofOpt (none : Option α) = .stuck := rfl

/-- what a name holds -/
inductive W where
  | un
  | d (x : D)
  | own (t : Nat) (x : D)
  | hand
  | fn (m : M D)
  | err (x : Exc)
  | scr (ns : List Int)
abbrev Rho := List W

/-- a world: the addresses that frozen values keep away from; the hands; those of others; the abstract heap -/
structure Wd where
  O : Addr → Prop
  Hd : Addr → Prop
  Pr : Addr → Prop
  ln : Nat → Addr
  H : Hp

def keyD : Key → D
  | .inl i => .int i
  | .inr x => .str x
/-- a dict at a: its keys, its values -/
def DcR (H : Hp) (a : Addr) (ks : List D) (vs : List V) : Prop :=
  (∃ kvs, H a = some (.dK kvs) ∧ ks = kvs.map (fun p => keyD p.1) ∧ vs = kvs.map (·.2)) ∨
  (∃ kvs, H a = some (.dT kvs) ∧ ks = kvs.map (fun p => .tuple (p.1.map keyD)) ∧ vs = kvs.map (·.2))


/-- a list, a tuple of the module's own -/
def WrL (K : PySem.W.Frag) (a : Addr) (xs : List V) : Prop := ∃ (o : Obj) (its : Array Value) (n : Nat), K.lookup a = some o ∧ o.cls = .type "list" ∧ o.dict = none ∧ o.data = .seq its n ∧ its.size ≤ sizeLine ∧ Vals xs its.toList
def QS (K : PySem.W.Frag) (O : Addr → Prop) (H : Hp) (a : Addr) (xs : List V) : Prop := (¬ O a ∧ Rd H a (.lst xs)) ∨ WrL K a xs
def WrT (K : PySem.W.Frag) (a : Addr) (xs : List V) : Prop := ∃ (o : Obj) (its : Array Value) (n : Nat), K.lookup a = some o ∧ o.cls = .type "tuple" ∧ o.data = .seq its n ∧ its.size ≤ sizeLine ∧ Vals xs its.toList
def QL (K : PySem.W.Frag) (O : Addr → Prop) (H : Hp) (a : Addr) (xs : List V) : Prop := ¬ O a ∧ H a = some (.lst xs)
def QT (K : PySem.W.Frag) (O : Addr → Prop) (H : Hp) (a : Addr) (xs : List V) : Prop := (¬ O a ∧ Rd H a (.tup xs)) ∨ WrT K a xs

mutual
/-- v stands for x, keeping away from O -/
inductive Fz (K : PySem.W.Frag) (O : Addr → Prop) (H : Hp) : V → D → Prop where
  | non : Fz K O H .non .none
  | bl (b : Bool) : Fz K O H (.bl b) (.bool b)
  | int (i : Int) : Fz K O H (.int i) (.int i)
  | str (x : Str) : Fz K O H (.str x) (.str x)
  | lst {a : Addr} {vs : List V} {xs : List D} : QL K O H a vs → FzL K O H vs xs → Fz K O H (.ref a) (.list xs)
  | tup {a : Addr} {vs : List V} {xs : List D} : QT K O H a vs → FzL K O H vs xs → Fz K O H (.ref a) (.tuple xs)
  | dic {a : Addr} {ks : List D} {vs : List V} {xs : List D} : ¬ O a → DcR H a ks vs → FzL K O H vs xs → Fz K O H (.ref a) (.dict (ks.zip xs))
inductive FzL (K : PySem.W.Frag) (O : Addr → Prop) (H : Hp) : List V → List D → Prop where
  | nil : FzL K O H [] []
  | cons {v : V} {x : D} {vs : List V} {xs : List D} : Fz K O H v x → FzL K O H vs xs → FzL K O H (v :: vs) (x :: xs)
end
/-- .. where the object itself may be owned -/
inductive Pk (K : PySem.W.Frag) (O : Addr → Prop) (H : Hp) : V → D → Prop where
  | of {v : V} {x : D} : Fz K O H v x → Pk K O H v x
  | lst {a : Addr} {vs : List V} {xs : List D} : H a = some (.lst vs) → FzL K O H vs xs → Pk K O H (.ref a) (.list xs)
  | dic {a : Addr} {ks : List D} {vs : List V} {xs : List D} : DcR H a ks vs → FzL K O H vs xs → Pk K O H (.ref a) (.dict (ks.zip xs))

section
variable {K : PySem.W.Frag} {O O' : Addr → Prop} {H H' : Hp}
theorem QL.sq {a : Addr} {xs : List V} (h : QL K O H a xs) : SqL K H a xs := .inl (.inl h.2)
theorem QS.sq {a : Addr} {xs : List V} (h : QS K O H a xs) : SqL K H a xs := h.imp And.right id
theorem QT.sq {a : Addr} {xs : List V} (h : QT K O H a xs) : SqT K H a xs := h.imp And.right id
/-- what is not owned stays, and stays unowned -/
def Keep (O : Addr → Prop) (H : Hp) (O' : Addr → Prop) (H' : Hp) : Prop := ∀ a o, H a = some o → ¬ O a → H' a = some o ∧ ¬ O' a
theorem Keep.refl : Keep O H O H := fun _ _ h n => ⟨h, n⟩
theorem Keep.trans {O2 : Addr → Prop} {H2 : Hp} (k : Keep O H O' H') (l : Keep O' H' O2 H2) : Keep O H O2 H2 := fun a o h n => let ⟨h1, n1⟩ := k a o h n; l a o h1 n1
theorem Keep.rd {a : Addr} {u : HO} (k : Keep O H O' H') (n : ¬ O a) (h : Rd H a u) : ¬ O' a ∧ Rd H' a u := by
  rcases h with h | ⟨o, h⟩
  · exact ⟨(k _ _ h n).2, .inl (k _ _ h n).1⟩
  · exact ⟨(k _ _ h n).2, .inr ⟨o, (k _ _ h n).1⟩⟩
theorem QL.keep {a : Addr} {xs : List V} (k : Keep O H O' H') (h : QL K O H a xs) : QL K O' H' a xs := ⟨(k _ _ h.2 h.1).2, (k _ _ h.2 h.1).1⟩
theorem QS.keep {a : Addr} {xs : List V} (k : Keep O H O' H') (h : QS K O H a xs) : QS K O' H' a xs := h.imp (fun h => k.rd h.1 h.2) id
theorem QT.keep {a : Addr} {xs : List V} (k : Keep O H O' H') (h : QT K O H a xs) : QT K O' H' a xs := h.imp (fun h => k.rd h.1 h.2) id
theorem dcR_keep {a : Addr} {ks : List D} {vs : List V} (k : Keep O H O' H') (n : ¬ O a) (h : DcR H a ks vs) : ¬ O' a ∧ DcR H' a ks vs := by
  rcases h with ⟨kvs, h, r⟩ | ⟨kvs, h, r⟩
  · exact ⟨(k _ _ h n).2, .inl ⟨kvs, (k _ _ h n).1, r⟩⟩
  · exact ⟨(k _ _ h n).2, .inr ⟨kvs, (k _ _ h n).1, r⟩⟩
mutual
theorem Fz.keep (k : Keep O H O' H') : ∀ {v : V} {x : D}, Fz K O H v x → Fz K O' H' v x
  | _, _, .non => .non
  | _, _, .bl b => .bl b
  | _, _, .int i => .int i
  | _, _, .str x => .str x
  | _, _, .lst q r => .lst (q.keep k) (FzL.keep k r)
  | _, _, .tup q r => .tup (q.keep k) (FzL.keep k r)
  | _, _, .dic n q r => .dic (dcR_keep k n q).1 (dcR_keep k n q).2 (FzL.keep k r)
theorem FzL.keep (k : Keep O H O' H') : ∀ {v : List V} {x : List D}, FzL K O H v x → FzL K O' H' v x
  | _, _, .nil => .nil
  | _, _, .cons h t => .cons (Fz.keep k h) (FzL.keep k t)
end
theorem FzL.length : ∀ {vs : List V} {xs : List D}, FzL K O H vs xs → vs.length = xs.length
  | _, _, .nil => rfl
  | _, _, .cons _ t => by simp [FzL.length t]
theorem FzL.append : ∀ {vs ws : List V} {xs ys : List D}, FzL K O H vs xs → FzL K O H ws ys → FzL K O H (vs ++ ws) (xs ++ ys)
  | _, _, _, _, .nil, h => h
  | _, _, _, _, .cons h t, r => .cons h (FzL.append t r)
theorem FzL.get : ∀ {vs : List V} {xs : List D} {i : Nat} {x : D}, FzL K O H vs xs → xs[i]? = some x → ∃ v, vs[i]? = some v ∧ Fz K O H v x
  | _, _, _, _, .nil, e => by simp at e
  | _, _, 0, _, .cons h _, e => by simp at e; subst e; exact ⟨_, rfl, h⟩
  | _, _, i + 1, x, .cons _ t, e => by
    obtain ⟨v, h1, h2⟩ := FzL.get (i := i) (x := x) t (by simpa using e)
    exact ⟨v, by simpa using h1, h2⟩
theorem FzL.getV : ∀ {vs : List V} {xs : List D} {i : Nat} {v : V}, FzL K O H vs xs → vs[i]? = some v → ∃ x, xs[i]? = some x ∧ Fz K O H v x
  | _, _, _, _, .nil, e => by simp at e
  | _, _, 0, _, .cons h _, e => by simp at e; subst e; exact ⟨_, rfl, h⟩
  | _, _, i + 1, x, .cons _ t, e => by
    obtain ⟨v, h1, h2⟩ := FzL.getV (i := i) (v := x) t (by simpa using e)
    exact ⟨v, by simpa using h1, h2⟩
theorem FzL.take : ∀ {vs : List V} {xs : List D} (n : Nat), FzL K O H vs xs → FzL K O H (vs.take n) (xs.take n)
  | _, _, 0, _ => .nil
  | _, _, _ + 1, .nil => .nil
  | _, _, n + 1, .cons r t => .cons r (FzL.take n t)
theorem FzL.drop : ∀ {vs : List V} {xs : List D} (n : Nat), FzL K O H vs xs → FzL K O H (vs.drop n) (xs.drop n)
  | _, _, 0, r => r
  | _, _, _ + 1, .nil => .nil
  | _, _, n + 1, .cons _ t => FzL.drop n t
theorem FzL.set {v : V} {x : D} (r : Fz K O H v x) : ∀ {vs : List V} {xs : List D} (i : Nat), FzL K O H vs xs → FzL K O H (vs.set i v) (xs.set i x)
  | _, _, _, .nil => .nil
  | _, _, 0, .cons _ t => .cons r t
  | _, _, i + 1, .cons q t => .cons q (FzL.set r i t)
theorem FzL.eraseIdx : ∀ {vs : List V} {xs : List D} (i : Nat), FzL K O H vs xs → FzL K O H (vs.eraseIdx i) (xs.eraseIdx i)
  | _, _, _, .nil => .nil
  | _, _, 0, .cons _ t => t
  | _, _, i + 1, .cons q t => .cons q (FzL.eraseIdx i t)
theorem FzL.rev {vs : List V} {xs : List D} (h : FzL K O H vs xs) : FzL K O H vs.reverse xs.reverse := by
  induction vs generalizing xs with
  | nil => cases h; exact .nil
  | cons v vs ih => cases h with
    | cons h t => rw [List.reverse_cons, List.reverse_cons]; exact (ih t).append (.cons h .nil)
theorem FzL.ints : ∀ (ns : List Int), FzL K O H (ns.map V.int) (ns.map .int)
  | [] => .nil
  | n :: ns => .cons (.int n) (FzL.ints ns)
theorem FzL.map_int_inv : ∀ {vs : List V} {ns : List Int}, FzL K O H vs (ns.map .int) → vs = ns.map V.int
  | _, [], .nil => rfl
  | _, n :: ns, .cons (.int _) t => by rw [FzL.map_int_inv t]; rfl
theorem Pk.keep (k : Keep O H O' H') (ko : ∀ a, H' a = H a ∨ ∀ o, H a = some o → H' a = some o) {v : V} {x : D} (h : Pk K O H v x) : Pk K O' H' v x := by
  have kk : ∀ a o, H a = some o → H' a = some o := fun a o e => (ko a).elim (fun z => z.trans e) fun z => z o e
  cases h with
  | of h => exact .of (h.keep k)
  | lst r q => exact .lst (kk _ _ r) (q.keep k)
  | dic r q =>
    refine .dic ?_ (q.keep k)
    rcases r with ⟨kvs, h, r⟩ | ⟨kvs, h, r⟩
    · exact .inl ⟨kvs, kk _ _ h, r⟩
    · exact .inr ⟨kvs, kk _ _ h, r⟩
end

/-! ### worlds -/
/-- a hand of numbers to be drawn: the cells, the next one's place, a rest, a mix, how many -/
def HandD (xs : List D) : Prop := ∃ (cs : List Int) (i r s n : Int), xs = [.list (cs.map .int), .int i, .int r, .int s, .int n] ∧ (∀ x ∈ cs, 0 ≤ x ∧ x < 10 ^ 42) ∧ cs.length ≤ 100 ∧ 0 ≤ i ∧ 0 ≤ r ∧ r < 10 ^ 42 ∧ 0 ≤ s ∧ s < 2 ^ 32 ∧ 0 ≤ n
def HandOk (K : PySem.W.Frag) (O : Addr → Prop) (H : Hp) (a : Addr) : Prop := ∃ (vs : List V) (xs : List D), H a = some (.lst vs) ∧ FzL K O H vs xs ∧ HandD xs
structure Wd.Ok (K : PySem.W.Frag) (w : Wd) : Prop where
  there : ∀ a, w.O a → ∃ o, w.H a = some o
  hd : ∀ a, w.Hd a → w.O a ∧ HandOk K w.O w.H a
  pr : ∀ a, w.Pr a → w.O a ∧ ¬ w.Hd a
structure Le (A B : Wd) : Prop where
  keep : Keep A.O A.H B.O B.H
  hd : ∀ a, A.Hd a → B.Hd a
  pr : ∀ a, A.Pr a → B.Pr a
  prk : ∀ a o, A.Pr a → A.H a = some o → B.H a = some o
  ln : B.ln = A.ln
theorem Le.refl {A : Wd} : Le A A := ⟨.refl, fun _ h => h, fun _ h => h, fun _ _ _ h => h, rfl⟩
theorem Le.trans {A B C : Wd} (l : Le A B) (m : Le B C) : Le A C :=
  ⟨l.keep.trans m.keep, fun a h => m.hd a (l.hd a h), fun a h => m.pr a (l.pr a h), fun a o h e => m.prk a o (l.pr a h) (l.prk a o h e), m.ln.trans l.ln⟩

/-- what a name holds, there -/
inductive SlotR (K : PySem.W.Frag) (w : Wd) : Option V → W → Prop where
  | un {v : Option V} : SlotR K w v .un
  | d {v : V} {x : D} : Fz K w.O w.H v x → SlotR K w (some v) (.d x)
  | ownL {a : Addr} {t : Nat} {vs : List V} {xs : List D} : w.O a → ¬ w.Hd a → ¬ w.Pr a → w.H a = some (.lst vs) → FzL K w.O w.H vs xs → (t = 0 ∨ a = w.ln t) → SlotR K w (some (.ref a)) (.own t (.list xs))
  | ownD {a : Addr} {t : Nat} {ks : List D} {vs : List V} {xs : List D} : w.O a → ¬ w.Hd a → ¬ w.Pr a → DcR w.H a ks vs → FzL K w.O w.H vs xs → (t = 0 ∨ a = w.ln t) → SlotR K w (some (.ref a)) (.own t (.dict (ks.zip xs)))
  | hand {a : Addr} : w.Hd a → SlotR K w (some (.ref a)) .hand
  | scr {a : Addr} {ns : List Int} : QS K w.O w.H a (ns.map V.int) → SlotR K w (some (.ref a)) (.scr ns)
structure SR (K : PySem.W.Frag) (w : Wd) (σ : L2.St) (ρ : Rho) : Prop where
  ok : w.Ok K
  len : σ.length = ρ.length
  slot : ∀ (i : Nat) (x : W), ρ[i]? = some x → SlotR K w (σ[i]?.join) x
  dis : ∀ (i j t u : Nat) (x y : D) (a : Addr), i ≠ j → ρ[i]? = some (.own t x) → ρ[j]? = some (.own u y) → σ[i]? = some (some (.ref a)) → σ[j]? ≠ some (some (.ref a))
end DL

/-! DL2: the readings, expressions -/
namespace DL
open PySem PySem.Spec PyProof.Rows L2
/-- where a body runs: the world at its entry, the classes' places, what is wanted of an exception -/
structure Ct where
  base : Wd
  cl : Str → Option Addr
  Ex : Exc → Prop
def fldOf (c : Str) : Str := if c = "BadText" then "line" else "most"
def ExcR (cl : Str → Option Addr) (H : Hp) (e : Exc) (cls : Value) (d : Option Addr) : Prop :=
  ∃ C, cl e.cls = some C ∧ cls = .ref C ∧ match e.arg with
    | none => d = none
    | some n => ∃ dd, d = some dd ∧ H dd = some (.xd [(fldOf e.cls, .int n)])
def WDx (K : PySem.W.Frag) (C : Ct) : WX := fun cls d _ H => ∃ (w : Wd) (e : Exc), w.H = H ∧ Le C.base w ∧ w.Ok K ∧ ExcR C.cl H e cls d ∧ C.Ex e

/-- an operand: a value, or the object that a name owns -/
inductive Opd where
  | v (x : D)
  | pl (i : Nat)
def rd (ρ : Rho) : Opd → M D
  | .v x => .ret x
  | .pl i => match ρ[i]? with
    | some (.own _ x) => .ret x
    | _ => .stuck
def rdL (ρ : Rho) : List Opd → M (List D)
  | [] => .ret []
  | o :: os => (rd ρ o).bind fun x => (rdL ρ os).bind fun xs => .ret (x :: xs)

abbrev G (α : Type) := Rho → M (α × Rho)
abbrev RT (α : Type) := Wd → L2.St → Rho → V → α → Prop
/-- new: at its address, not at any name's -/
def RWt (K : PySem.W.Frag) (t : Nat) : RT D := fun w σ ρ v x => ∃ a, v = .ref a ∧ SlotR K w (some (.ref a)) (.own t x) ∧ ∀ (i t : Nat) (y : D), ρ[i]? = some (.own t y) → σ[i]? ≠ some (some (.ref a))
def RD (K : PySem.W.Frag) : RT D := fun w _ _ v x => Fz K w.O w.H v x
def ROo (K : PySem.W.Frag) (w : Wd) (σ : L2.St) (v : V) (o : Opd) : Prop := match o with
  | .v x => Fz K w.O w.H v x
  | .pl i => σ[i]? = some (some v)
def RO (K : PySem.W.Frag) : RT Opd := fun w σ _ v o => ROo K w σ v o
inductive ROL (K : PySem.W.Frag) (w : Wd) (σ : L2.St) : List V → List Opd → Prop where
  | nil : ROL K w σ [] []
  | cons {v : V} {o : Opd} {vs : List V} {os : List Opd} : ROo K w σ v o → ROL K w σ vs os → ROL K w σ (v :: vs) (o :: os)
inductive PkL (K : PySem.W.Frag) (O : Addr → Prop) (H : Hp) : List V → List D → Prop where
  | nil : PkL K O H [] []
  | cons {v : V} {x : D} {vs : List V} {xs : List D} : Pk K O H v x → PkL K O H vs xs → PkL K O H (v :: vs) (x :: xs)

section
variable (K : PySem.W.Frag) (C : Ct)
def TX {α : Type} (R : RT α) (g : G α) : TE := fun σ H Q => ∃ (w : Wd) (ρ : Rho), w.H = H ∧ Le C.base w ∧ SR K w σ ρ ∧
  (g ρ).wp (fun r => ∀ v (w' : Wd), Le w w' → SR K w' σ r.2 → R w' σ r.2 v r.1 → Q v w'.H) C.Ex
def TB (g : G Bool) : TT := fun σ H Q => ∃ (w : Wd) (ρ : Rho), w.H = H ∧ Le C.base w ∧ SR K w σ ρ ∧
  (g ρ).wp (fun r => ∀ (w' : Wd), Le w w' → SR K w' σ r.2 → Q r.1 w'.H) C.Ex
def TL (g : G (List Opd)) : TA := fun σ H Q => ∃ (w : Wd) (ρ : Rho), w.H = H ∧ Le C.base w ∧ SR K w σ ρ ∧
  (g ρ).wp (fun r => ∀ vs (w' : Wd), Le w w' → SR K w' σ r.2 → ROL K w' σ vs r.1 → Q vs w'.H) C.Ex
/-- how a statement ends -/
inductive Fl where
  | nx | bk | ct
  | rt (x : D)
  | rw (x : D)
def TSm (g : G Fl) : TS := fun E σ H => ∃ (w : Wd) (ρ : Rho), w.H = H ∧ Le C.base w ∧ SR K w σ ρ ∧
  (g ρ).wp (fun r => match r.1 with
    | .nx => ∀ σ' (w' : Wd), Le w w' → SR K w' σ' r.2 → E.nx σ' w'.H
    | .bk => ∀ σ' (w' : Wd), Le w w' → SR K w' σ' r.2 → E.bk σ' w'.H
    | .ct => ∀ σ' (w' : Wd), Le w w' → SR K w' σ' r.2 → E.ct σ' w'.H
    | .rt x => ∀ v σ' (w' : Wd), Le w w' → SR K w' σ' r.2 → Fz K w'.O w'.H v x → E.rt v w'.H
    | .rw x => ∀ v σ' (w' : Wd), Le w w' → SR K w' σ' r.2 → RWt K 0 w' σ' r.2 v x → E.rt v w'.H) C.Ex
end
abbrev DE (X : Cx) (C : Ct) (e : Expr) (g : G D) : Prop := PE X e (TX X.K C (RD X.K) g)
abbrev DO (X : Cx) (C : Ct) (e : Expr) (g : G Opd) : Prop := PE X e (TX X.K C (RO X.K) g)
abbrev DT (X : Cx) (C : Ct) (e : Expr) (g : G Bool) : Prop := PT X e (TB X.K C g)
abbrev DW (X : Cx) (C : Ct) (e : Expr) (g : G Bool) : Prop := PW X e (TB X.K C g)
abbrev DA (X : Cx) (C : Ct) (es : List Expr) (g : G (List Opd)) : Prop := PA X es (TL X.K C g)
abbrev DS (X : Cx) (C : Ct) (st : Stmt) (g : G Fl) : Prop := PS X st (TSm X.K C g)
abbrev DSs (X : Cx) (C : Ct) (st : List Stmt) (g : G Fl) : Prop := PSs X st (TSm X.K C g)

section
variable {X : Cx}
theorem PE.imp {e : Expr} {t t' : TE} (h : PE X e t) (i : ∀ σ H Q, t' σ H Q → t σ H Q) : PE X e t' := ⟨fun pins s σ H Q I q => h.run pins s σ H Q I (i _ _ _ q)⟩
theorem PT.imp {e : Expr} {t t' : TT} (h : PT X e t) (i : ∀ σ H Q, t' σ H Q → t σ H Q) : PT X e t' := ⟨fun pins s σ H Q I q => h.run pins s σ H Q I (i _ _ _ q)⟩
theorem PW.imp {e : Expr} {t t' : TT} (h : PW X e t) (i : ∀ σ H Q, t' σ H Q → t σ H Q) : PW X e t' := ⟨fun wh pins s σ H Q I q => h.run wh pins s σ H Q I (i _ _ _ q)⟩
theorem PA.imp {e : List Expr} {t t' : TA} (h : PA X e t) (i : ∀ σ H Q, t' σ H Q → t σ H Q) : PA X e t' := ⟨fun p pins s σ H Q I q => h.run p pins s σ H Q I (i _ _ _ q)⟩
theorem PS.imp {e : Stmt} {t t' : TS} (h : PS X e t) (i : ∀ E σ H, t' E σ H → t E σ H) : PS X e t' := ⟨fun pins s σ H E I q => h.run pins s σ H E I (i _ _ _ q)⟩
theorem PSs.imp {e : List Stmt} {t t' : TS} (h : PSs X e t) (i : ∀ E σ H, t' E σ H → t E σ H) : PSs X e t' := ⟨fun pins s σ H E I q => h.run pins s σ H E I (i _ _ _ q)⟩
end

section
variable {K : PySem.W.Frag} {w w' : Wd} {σ : L2.St} {ρ : Rho}
/-- more stands there -/
def Ext (H H' : Hp) : Prop := ∀ a o, H a = some o → H' a = some o
theorem Ext.keep {O : Addr → Prop} {H H' : Hp} (e : Ext H H') : Keep O H O H' := fun a o h n => ⟨e a o h, n⟩
theorem HandOk.keep {O O' : Addr → Prop} {H H' : Hp} {a : Addr} (k : Keep O H O' H') (ka : ∀ o, H a = some o → H' a = some o) (h : HandOk K O H a) : HandOk K O' H' a := by
  obtain ⟨vs, xs, h1, h2, h3⟩ := h
  exact ⟨vs, xs, ka _ h1, h2.keep k, h3⟩
theorem Wd.Ok.ext {H' : Hp} (h : w.Ok K) (e : Ext w.H H') : ({ w with H := H' } : Wd).Ok K :=
  ⟨fun a q => let ⟨o, z⟩ := h.there a q; ⟨o, e a o z⟩, fun a q => ⟨(h.hd a q).1, (h.hd a q).2.keep e.keep fun o z => e a o z⟩, h.pr⟩
theorem Le.ext {H' : Hp} (e : Ext w.H H') : Le w { w with H := H' } := ⟨e.keep, fun _ h => h, fun _ h => h, fun a o _ z => e a o z, rfl⟩
theorem SlotR.ext {H' : Hp} {v : Option V} {x : W} (h : SlotR K w v x) (e : Ext w.H H') : SlotR K { w with H := H' } v x := by
  cases h with
  | un => exact .un
  | d h => exact .d (h.keep e.keep)
  | ownL h1 h2 h3 h4 h5 h6 => exact .ownL h1 h2 h3 (e _ _ h4) (h5.keep e.keep) h6
  | ownD h1 h2 h3 h4 h5 h6 =>
    refine .ownD h1 h2 h3 ?_ (h5.keep e.keep) h6
    rcases h4 with ⟨kvs, h, r⟩ | ⟨kvs, h, r⟩
    · exact .inl ⟨kvs, e _ _ h, r⟩
    · exact .inr ⟨kvs, e _ _ h, r⟩
  | hand h => exact .hand h
  | scr h => exact .scr (h.keep e.keep)
theorem SR.ext {H' : Hp} (h : SR K w σ ρ) (e : Ext w.H H') : SR K { w with H := H' } σ ρ :=
  ⟨h.ok.ext e, h.len, fun i x q => (h.slot i x q).ext e, h.dis⟩
theorem ROo.le {v : V} {o : Opd} (l : Le w w') (h : ROo K w σ v o) : ROo K w' σ v o := by
  cases o with
  | v x => exact h.keep l.keep
  | pl i => exact h
theorem ROL.le (l : Le w w') : ∀ {vs : List V} {os : List Opd}, ROL K w σ vs os → ROL K w' σ vs os
  | _, _, .nil => .nil
  | _, _, .cons h t => .cons (h.le l) (ROL.le l t)
/-- what an operand is read as -/
theorem rd_pk {v : V} {o : Opd} (h : SR K w σ ρ) (r : ROo K w σ v o) {Q : D → Prop} {E : Exc → Prop} (q : (rd ρ o).wp Q E) : ∃ x, Pk K w.O w.H v x ∧ rd ρ o = .ret x ∧ Q x := by
  cases o with
  | v x => exact ⟨x, .of r, rfl, q⟩
  | pl i =>
    have q' : (match ρ[i]? with
      | some (.own _ x) => M.ret x
      | _ => M.stuck).wp Q E := q
    show ∃ x, Pk K w.O w.H v x ∧ (match ρ[i]? with
      | some (.own _ x) => M.ret x
      | _ => M.stuck) = .ret x ∧ Q x
    have hv : σ[i]?.join = some v := by rw [show σ[i]? = some (some v) from r]; rfl
    match hx : ρ[i]? with
    | some (.own _ x) =>
      rw [hx] at q'
      have hs := h.slot i _ hx
      rw [hv] at hs
      refine ⟨x, ?_, rfl, q'⟩
      cases hs with
      | ownL h1 h2 h3 h4 h5 h6 => exact .lst h4 h5
      | ownD h1 h2 h3 h4 h5 h6 => exact .dic h4 h5
    | none => rw [hx] at q'; exact q'.elim
    | some .un => rw [hx] at q'; exact q'.elim
    | some (.d _) => rw [hx] at q'; exact q'.elim
    | some .hand => rw [hx] at q'; exact q'.elim
    | some (.fn _) => rw [hx] at q'; exact q'.elim
    | some (.err _) => rw [hx] at q'; exact q'.elim
    | some (.scr _) => rw [hx] at q'; exact q'.elim
theorem rdL_pk (h : SR K w σ ρ) : ∀ {vs : List V} {os : List Opd} (_ : ROL K w σ vs os) {Q : List D → Prop} {E : Exc → Prop} (_ : (rdL ρ os).wp Q E), ∃ xs, PkL K w.O w.H vs xs ∧ Q xs
  | _, _, .nil, _, _, q => ⟨[], .nil, q⟩
  | _, _, .cons (v := v) (o := o) r t, Q, E, q => by
    obtain ⟨x, px, _, q1⟩ := rd_pk h r (M.wp_bind.mp q)
    obtain ⟨xs, pxs, q2⟩ := rdL_pk h t (M.wp_bind.mp q1)
    exact ⟨x :: xs, .cons px pxs, q2⟩
end

/-! ### pure operations on data -/
def rP1 (K : PySem.W.Frag) (g : D → Option D) : V → Hp → VK → Prop := fun x H Q => ∃ (O : Addr → Prop) (dx z : D), (∀ a, O a → ∃ o, H a = some o) ∧ Pk K O H x dx ∧ g dx = some z ∧ ∀ v H', Ext H H' → Fz K O H' v z → Q v H'
def rP2 (K : PySem.W.Frag) (g : D → D → Option D) : R2 := fun x y H Q => ∃ (O : Addr → Prop) (dx dy z : D), (∀ a, O a → ∃ o, H a = some o) ∧ Pk K O H x dx ∧ Pk K O H y dy ∧ g dx dy = some z ∧ ∀ v H', Ext H H' → Fz K O H' v z → Q v H'
def rPN (K : PySem.W.Frag) (g : List D → Option D) : List V → Hp → VK → Prop := fun xs H Q => ∃ (O : Addr → Prop) (ds : List D) (z : D), (∀ a, O a → ∃ o, H a = some o) ∧ PkL K O H xs ds ∧ g ds = some z ∧ ∀ v H', Ext H H' → Fz K O H' v z → Q v H'
abbrev Pure2 (X : Cx) (f : Value → Value → Sem Value) (g : D → D → Option D) : Prop := OpR X f (rP2 X.K g)
abbrev Pure1 (X : Cx) (f : Value → Sem Value) (g : D → Option D) : Prop := UnR X f (rP1 X.K g)
abbrev PureN (X : Cx) (f : Value) (g : List D → Option D) : Prop := CallR X f (rPN X.K g)

def gv (x : D) : G D := fun ρ => .ret (x, ρ)
def gO (g : G D) : G Opd := fun ρ => (g ρ).bind fun r => .ret (.v r.1, r.2)
/-- a name that is read where it is not kept -/
def gP (i : Nat) : G Opd := fun ρ => match ρ[i]? with
  | some (.d x) => .ret (.v x, ρ)
  | some (.own _ _) => .ret (.pl i, ρ)
  | _ => .stuck
def gN (i : Nat) : G D := fun ρ => match ρ[i]? with
  | some (.d x) => .ret (x, ρ)
  | _ => .stuck
def g1 (f : D → Option D) (a : G Opd) : G D := fun ρ => (a ρ).bind fun r => (rd r.2 r.1).bind fun x => (M.ofOpt (f x)).bind fun z => .ret (z, r.2)
def g2 (f : D → D → Option D) (a b : G Opd) : G D := fun ρ => (a ρ).bind fun r => (b r.2).bind fun s => (rd s.2 r.1).bind fun x => (rd s.2 s.1).bind fun y => (M.ofOpt (f x y)).bind fun z => .ret (z, s.2)
def gL (f : List D → Option D) (a : G (List Opd)) : G D := fun ρ => (a ρ).bind fun r => (rdL r.2 r.1).bind fun xs => (M.ofOpt (f xs)).bind fun z => .ret (z, r.2)
def gA0 : G (List Opd) := fun ρ => .ret ([], ρ)
def gA (a : G Opd) (b : G (List Opd)) : G (List Opd) := fun ρ => (a ρ).bind fun r => (b r.2).bind fun s => .ret (r.1 :: s.1, s.2)

theorem wp_ofOpt {α : Type} {o : Option α} {Q : α → Prop} {E : Exc → Prop} (h : (M.ofOpt o).wp Q E) : ∃ a, o = some a ∧ Q a := by
  cases o with
  | none => exact h.elim
  | some a => exact ⟨a, rfl, h⟩
section
variable {X : Cx} {C : Ct} {a b e : Expr} {pos : Pos} {ga gb : G Opd}
theorem de_const {v : V} {x : D} (h : PE X e (tC v)) (r : ∀ O H, Fz X.K O H v x) : DE X C e (gv x) := PE.imp h fun σ H Q ⟨w, ρ, hw, l, sr, q⟩ => by
  subst hw; exact q v w .refl sr (r _ _)
theorem de_int {i : Int} {j} : DE X C (.Constant (.int i) j pos) (gv (.int i)) := de_const pe_int fun _ _ => .int i
theorem de_bl {i : Bool} {j} : DE X C (.Constant (.bool i) j pos) (gv (.bool i)) := de_const pe_bl fun _ _ => .bl i
theorem de_non {j} : DE X C (.Constant .none j pos) (gv .none) := de_const pe_non fun _ _ => .non
theorem de_str {i : Str} {j} : DE X C (.Constant (.str i) j pos) (gv (.str i)) := de_const pe_str fun _ _ => .str i
/-- an int of the module -/
theorem de_glob {x : Str} {i : Int} {t : Tok} (hg : Gl X x) (hm : X.mg x = some (.int i t)) (hd : (x == ("__debug__" : Str)) = false := by decide) : DE X C (.Name x pos) (gv (.int i)) := de_const (v := .int i) (pe_glob hg hm ⟨_, rfl⟩ hd) fun _ _ => .int i
theorem do_of {g : G D} (h : DE X C e g) : DO X C e (gO g) := PE.imp h fun σ H Q ⟨w, ρ, hw, l, sr, q⟩ => ⟨w, ρ, hw, l, sr, M.wp_mono (M.wp_bind.mp q) (fun r q v w' l' s' f => q v w' l' s' f) fun _ z => z⟩
theorem do_name (i : Nat) {x : Str} (h : PE X (.Name x pos) (tVar i)) : DO X C (.Name x pos) (gP i) := PE.imp h fun σ H Q ⟨w, ρ, hw, l, sr, q⟩ => by
  subst hw
  unfold gP at q
  split at q
  · rename_i x hx
    have hs := sr.slot i _ hx
    revert hs
    generalize hv : σ[i]?.join = o
    intro hs
    cases hs with
    | d f => 
      rename_i v
      have hv' : σ[i]? = some (some v) := by
        cases h : σ[i]? with
        | none => rw [h] at hv; cases hv
        | some z => rw [h] at hv; exact congrArg some hv
      exact ⟨v, hv', q v w .refl sr f⟩
  · rename_i x hx
    have hs := sr.slot i _ hx
    revert hs
    generalize hv : σ[i]?.join = o
    intro hs
    have fin : ∀ v, o = some v → ∃ v, σ[i]? = some (some v) ∧ Q v w.H := fun v e => by
      have hv' : σ[i]? = some (some v) := by
        cases h : σ[i]? with
        | none => rw [h] at hv; rw [← hv] at e; cases e
        | some z => rw [h] at hv; rw [← e]; exact congrArg some hv
      exact ⟨v, hv', q v w .refl sr hv'⟩
    cases hs with
    | ownL => exact fin _ rfl
    | ownD => exact fin _ rfl
  · exact q.elim
theorem de_name (i : Nat) {x : Str} (h : PE X (.Name x pos) (tVar i)) : DE X C (.Name x pos) (gN i) := PE.imp h fun σ H Q ⟨w, ρ, hw, l, sr, q⟩ => by
  subst hw
  unfold gN at q
  split at q
  · rename_i x hx
    have hs := sr.slot i _ hx
    revert hs
    generalize hv : σ[i]?.join = o
    intro hs
    cases hs with
    | d f => 
      rename_i v
      have hv' : σ[i]? = some (some v) := by
        cases h : σ[i]? with
        | none => rw [h] at hv; cases hv
        | some z => rw [h] at hv; exact congrArg some hv
      exact ⟨v, hv', q v w .refl sr f⟩
  · exact q.elim
/-- two operands -/
theorem two {r : R2} {f : D → D → Option D} {σ : L2.St} {H : Hp} {Q : VK}
    (hr : ∀ x y H Q, rP2 X.K f x y H Q → r x y H Q) (h : TX X.K C (RD X.K) (g2 f ga gb) σ H Q) :
    tOp r (TX X.K C (RO X.K) ga) (TX X.K C (RO X.K) gb) σ H Q := by
  obtain ⟨w, ρ, hw, l, sr, q⟩ := h
  refine ⟨w, ρ, hw, l, sr, M.wp_mono (M.wp_bind.mp q) (fun r q v w1 l1 s1 r1 => ?_) fun _ z => z⟩
  refine ⟨w1, r.2, rfl, l.trans l1, s1, M.wp_mono (M.wp_bind.mp q) (fun s q u w2 l2 s2 r2 => ?_) fun _ z => z⟩
  obtain ⟨x, px, ex, q⟩ := rd_pk s2 (ROo.le l2 r1) (M.wp_bind.mp q)
  obtain ⟨y, py, ey, q⟩ := rd_pk s2 r2 (M.wp_bind.mp q)
  obtain ⟨z, hz, q⟩ := wp_ofOpt (M.wp_bind.mp q)
  refine hr _ _ _ _ ⟨w2.O, x, y, z, s2.ok.there, px, py, hz, fun v' H' e fz => ?_⟩
  exact q v' { w2 with H := H' } (l1.trans (l2.trans (.ext e))) (s2.ext e) fz
theorem de_bin {op : Operator} {f : D → D → Option D} (ho : Pure2 X (binaryOp op) f) (ha : DO X C a ga) (hb : DO X C b gb) : DE X C (.BinOp a op b pos) (g2 f ga gb) :=
  PE.imp (pe_op ho ha hb) fun _ _ _ h => two (fun _ _ _ _ z => z) h
theorem de_cmp {op : CmpOp} {f : D → D → Option D} (ho : Pure2 X (compareOp op) f) (ha : DO X C a ga) (hb : DO X C b gb) (hm : behindInMarks op b = false) : DE X C (.Compare a [op] [b] pos) (g2 f ga gb) :=
  PE.imp (pe_cmpR ho ha hb hm) fun _ _ _ h => two (fun _ _ _ _ z => z) h
theorem de_un {op : UnaryOp} {f : D → Option D} (ho : Pure1 X (unaryOp op) f) (ha : DO X C a ga) : DE X C (.UnaryOp op a pos) (g1 f ga) :=
  PE.imp (pe_un ho ha) fun σ H Q ⟨w, ρ, hw, l, sr, q⟩ => by
    refine ⟨w, ρ, hw, l, sr, M.wp_mono (M.wp_bind.mp q) (fun r q v w1 l1 s1 r1 => ?_) fun _ z => z⟩
    obtain ⟨x, px, ex, q⟩ := rd_pk s1 r1 (M.wp_bind.mp q)
    obtain ⟨z, hz, q⟩ := wp_ofOpt (M.wp_bind.mp q)
    exact ⟨w1.O, x, z, s1.ok.there, px, hz, fun v' H' e fz => q v' { w1 with H := H' } (l1.trans (.ext e)) (s1.ext e) fz⟩
/-- argument lists -/
theorem da_nil : DA X C [] gA0 := PA.imp pa_nil fun σ H Q ⟨w, ρ, hw, l, sr, q⟩ => by subst hw; exact q [] w .refl sr .nil
theorem da_cons {es : List Expr} {g : G (List Opd)} (ha : DO X C e ga) (hr : DA X C es g) (hs : starEach (e :: es) X.env = (false, eval e X.env) :: starEach es X.env := by rfl) : DA X C (e :: es) (gA ga g) :=
  PA.imp (pa_cons ha hr hs) fun σ H Q ⟨w, ρ, hw, l, sr, q⟩ => by
    refine ⟨w, ρ, hw, l, sr, M.wp_mono (M.wp_bind.mp q) (fun r q v w1 l1 s1 r1 => ?_) fun _ z => z⟩
    refine ⟨w1, r.2, rfl, l.trans l1, s1, M.wp_mono (M.wp_bind.mp q) (fun s q u w2 l2 s2 r2 => ?_) fun _ z => z⟩
    exact q (v :: u) w2 (l1.trans l2) s2 (.cons (ROo.le l2 r1) r2)
theorem listArgs {r : List V → Hp → VK → Prop} {f : List D → Option D} {g : G (List Opd)} {σ : L2.St} {H : Hp} {Q : VK}
    (hr : ∀ x H Q, rPN X.K f x H Q → r x H Q) (h : TX X.K C (RD X.K) (gL f g) σ H Q) : tCB r (TL X.K C g) σ H Q := by
  obtain ⟨w, ρ, hw, l, sr, q⟩ := h
  refine ⟨w, ρ, hw, l, sr, M.wp_mono (M.wp_bind.mp q) (fun r q v w1 l1 s1 r1 => ?_) fun _ z => z⟩
  obtain ⟨xs, px, q⟩ := rdL_pk s1 r1 (M.wp_bind.mp q)
  obtain ⟨z, hz, q⟩ := wp_ofOpt (M.wp_bind.mp q)
  exact hr _ _ _ ⟨w1.O, xs, z, s1.ok.there, px, hz, fun v' H' e fz => q v' { w1 with H := H' } (l1.trans (.ext e)) (s1.ext e) fz⟩
/-- a built-in function -/
theorem de_callB {id : String} {x : Str} {p : Pos} {es : List Expr} {f : List D → Option D} {g : G (List Opd)} (hc : PureN X (.builtin id) f) (hg : Gl X x) (hm : X.mg x = none) (hv : bootBuiltins x = some (.builtin id)) (ha : DA X C (e :: es) g)
    (hn : x ≠ "__name__" := by decide) (hdb : (x == ("__debug__" : Str)) = false := by decide)
    (he : starEach (e :: es) X.env = (false, eval e X.env) :: starEach es X.env := by rfl) (hpl : (backTo pos (starEach es X.env)).any (·.1) = false := by rfl) : DE X C (.Call (.Name x p) (e :: es) [] pos) (gL f g) :=
  PE.imp (pe_callB hc hg hm hv ha hn hdb he hpl) fun _ _ _ h => listArgs (fun _ _ _ z => z) h
theorem de_callTy {id : String} {x : Str} {p : Pos} {es : List Expr} {f : List D → Option D} {g : G (List Opd)} (hc : PureN X (.type id) f) (hg : Gl X x) (hm : X.mg x = none) (hv : bootBuiltins x = some (.type id)) (ha : DA X C (e :: es) g)
    (hn : x ≠ "__name__" := by decide) (hdb : (x == ("__debug__" : Str)) = false := by decide)
    (he : starEach (e :: es) X.env = (false, eval e X.env) :: starEach es X.env := by rfl) (hpl : (backTo pos (starEach es X.env)).any (·.1) = false := by rfl) : DE X C (.Call (.Name x p) (e :: es) [] pos) (gL f g) :=
  PE.imp (pe_callTy hc hg hm hv ha hn hdb he hpl) fun _ _ _ h => listArgs (fun _ _ _ z => z) h
end
end DL

/-! DL3: tests, displays, what is new, names that own -/
namespace DL
open PySem PySem.Spec PyProof.Rows L2
section
variable {K : PySem.W.Frag} {w w' : Wd} {σ : L2.St} {ρ : Rho}
/-! ### a new object, owned by nobody yet -/
def Wd.alloc (w : Wd) (p : Addr) (o : HO) : Wd := { w with H := upd w.H p o, O := fun a => w.O a ∨ a = p }
theorem Ext.upd {H : Hp} {p : Addr} {o : HO} (h : H p = none) : Ext H (upd H p o) := fun a u e => by
  rw [upd_ne (ne_of_none e h)]; exact e
theorem alloc_le {p : Addr} {o : HO} (h : w.H p = none) (ok : w.Ok K) : Le w (w.alloc p o) :=
  ⟨fun a u e n => ⟨Ext.upd h a u e, fun z => z.elim n fun z => ne_of_none e h z⟩, fun _ h => h, fun _ h => h, fun a u _ e => Ext.upd h a u e, rfl⟩
theorem alloc_ok {p : Addr} {o : HO} (h : w.H p = none) (ok : w.Ok K) : (w.alloc p o).Ok K where
  there := fun a q => by
    rcases q with q | rfl
    · obtain ⟨u, e⟩ := ok.there a q; exact ⟨u, Ext.upd h a u e⟩
    · exact ⟨o, upd_same⟩
  hd := fun a q => ⟨.inl (ok.hd a q).1, (ok.hd a q).2.keep (alloc_le h ok).keep fun u e => Ext.upd h a u e⟩
  pr := fun a q => ⟨.inl (ok.pr a q).1, (ok.pr a q).2⟩
theorem Wd.Ok.ne {p : Addr} (h : w.H p = none) (ok : w.Ok K) : ¬ w.O p := fun q => by
  obtain ⟨u, e⟩ := ok.there p q; rw [h] at e; cases e
theorem SlotR.alloc {p : Addr} {o : HO} {v : Option V} {x : W} (h : w.H p = none) (ok : w.Ok K) (s : SlotR K w v x) : SlotR K (w.alloc p o) v x := by
  have k := (alloc_le (o := o) h ok).keep
  cases s with
  | un => exact .un
  | d f => exact .d (f.keep k)
  | ownL h1 h2 h3 h4 h5 h6 => exact .ownL (.inl h1) h2 h3 (Ext.upd h _ _ h4) (h5.keep k) h6
  | ownD h1 h2 h3 h4 h5 h6 =>
    refine .ownD (.inl h1) h2 h3 ?_ (h5.keep k) h6
    rcases h4 with ⟨kvs, z, r⟩ | ⟨kvs, z, r⟩
    · exact .inl ⟨kvs, Ext.upd h _ _ z, r⟩
    · exact .inr ⟨kvs, Ext.upd h _ _ z, r⟩
  | hand f => exact .hand f
  | scr f => exact .scr (f.keep k)
theorem SlotR.own_at {v : Option V} {t : Nat} {x : D} (s : SlotR K w v (.own t x)) : ∃ a, v = some (.ref a) ∧ w.O a ∧ ¬ w.Hd a ∧ ¬ w.Pr a ∧ Pk K w.O w.H (.ref a) x := by
  cases s with
  | ownL h1 h2 h3 h4 h5 h6 => exact ⟨_, rfl, h1, h2, h3, .lst h4 h5⟩
  | ownD h1 h2 h3 h4 h5 h6 => exact ⟨_, rfl, h1, h2, h3, .dic h4 h5⟩
theorem join_some {o : Option (Option V)} {v : V} (h : o.join = some v) : o = some (some v) := by
  cases o with
  | none => cases h
  | some z => exact congrArg some h
theorem SR.alloc {p : Addr} {o : HO} (h : w.H p = none) (s : SR K w σ ρ) : SR K (w.alloc p o) σ ρ :=
  ⟨alloc_ok h s.ok, s.len, fun i x q => (s.slot i x q).alloc h s.ok, s.dis⟩
abbrev RW (K : PySem.W.Frag) : RT D := RWt K 0
theorem rw_list {p : Addr} {vs : List V} {xs : List D} (h : w.H p = none) (s : SR K w σ ρ) (f : FzL K w.O w.H vs xs) : RW K (w.alloc p (.lst vs)) σ ρ (.ref p) (.list xs) := by
  refine ⟨p, rfl, .ownL (.inr rfl) (fun z => s.ok.ne h (s.ok.hd p z).1) (fun z => s.ok.ne h (s.ok.pr p z).1) upd_same (f.keep (alloc_le h s.ok).keep) (.inl rfl), fun i t y q e => ?_⟩
  obtain ⟨a, e1, h1, _⟩ := (s.slot i _ q).own_at
  rw [e] at e1
  cases e1
  exact s.ok.ne h h1
/-- an owned object is let go: nobody changes it any more -/
def Wd.let (w : Wd) (a : Addr) : Wd := { w with O := fun b => w.O b ∧ b ≠ a }
theorem let_keep {a : Addr} : Keep w.O w.H (w.let a).O (w.let a).H := fun b o e n => ⟨e, fun z => n z.1⟩
theorem let_le {a : Addr} : Le w (w.let a) := ⟨let_keep, fun _ h => h, fun _ h => h, fun _ _ _ e => e, rfl⟩
theorem let_ok {a : Addr} (h1 : ¬ w.Hd a) (h2 : ¬ w.Pr a) (ok : w.Ok K) : (w.let a).Ok K :=
  ⟨fun b q => ok.there b q.1, fun b q => ⟨⟨(ok.hd b q).1, fun z => h1 (z ▸ q)⟩, (ok.hd b q).2.keep let_keep fun _ e => e⟩, fun b q => ⟨⟨(ok.pr b q).1, fun z => h2 (z ▸ q)⟩, (ok.pr b q).2⟩⟩
theorem SlotR.letGo {a : Addr} {v : Option V} {x : W} (s : SlotR K w v x) (ne : ∀ t y, x = .own t y → v ≠ some (.ref a)) : SlotR K (w.let a) v x := by
  cases s with
  | un => exact .un
  | d f => exact .d (f.keep let_keep)
  | ownL h1 h2 h3 h4 h5 h6 => exact .ownL ⟨h1, fun z => ne _ _ rfl (by rw [z])⟩ h2 h3 h4 (h5.keep let_keep) h6
  | ownD h1 h2 h3 h4 h5 h6 => exact .ownD ⟨h1, fun z => ne _ _ rfl (by rw [z])⟩ h2 h3 h4 (h5.keep let_keep) h6
  | hand f => exact .hand f
  | scr f => exact .scr (f.keep let_keep)
theorem SR.letGo {a : Addr} (h1 : ¬ w.Hd a) (h2 : ¬ w.Pr a) (s : SR K w σ ρ) (ne : ∀ (i t : Nat) (y : D), ρ[i]? = some (.own t y) → σ[i]? ≠ some (some (.ref a))) : SR K (w.let a) σ ρ :=
  ⟨let_ok h1 h2 s.ok, s.len, fun i x q => (s.slot i x q).letGo fun t y e z => ne i t y (by rw [q, e]) (join_some z), s.dis⟩
theorem fz_letGo {a : Addr} {t : Nat} {x : D} (s : SlotR K w (some (.ref a)) (.own t x)) : Fz K (w.let a).O (w.let a).H (.ref a) x := by
  cases s with
  | ownL h1 h2 h3 h4 h5 h6 => exact .lst ⟨fun z => z.2 rfl, h4⟩ (h5.keep let_keep)
  | ownD h1 h2 h3 h4 h5 h6 => exact .dic (fun z => z.2 rfl) h4 (h5.keep let_keep)
/-- names set -/
theorem SR.setD {i : Nat} {v : V} {x : D} (s : SR K w σ ρ) (f : Fz K w.O w.H v x) : SR K w (σ.set i (some v)) (ρ.set i (.d x)) where
  ok := s.ok
  len := by rw [List.length_set, List.length_set]; exact s.len
  slot := fun j y q => by
    by_cases e : j = i
    · subst e
      have hj : j < ρ.length := by
        have := (List.getElem?_eq_some_iff.mp q).1
        rwa [List.length_set] at this
      rw [List.getElem?_set_self hj] at q
      rw [List.getElem?_set_self (by rw [s.len]; exact hj)]
      cases q
      exact .d f
    · rw [List.getElem?_set_ne (Ne.symm e)] at q ⊢
      exact s.slot j y q
  dis := fun j k t u x' y a hjk q1 q2 e1 => by
    have nj : j ≠ i := fun z => by
      subst z
      have hj : j < ρ.length := by
        have := (List.getElem?_eq_some_iff.mp q1).1
        rwa [List.length_set] at this
      rw [List.getElem?_set_self hj] at q1; cases q1
    have nk : k ≠ i := fun z => by
      subst z
      have hj : k < ρ.length := by
        have := (List.getElem?_eq_some_iff.mp q2).1
        rwa [List.length_set] at this
      rw [List.getElem?_set_self hj] at q2; cases q2
    rw [List.getElem?_set_ne (Ne.symm nj)] at q1 e1
    rw [List.getElem?_set_ne (Ne.symm nk)] at q2 ⊢
    exact s.dis j k t u x' y a hjk q1 q2 e1
/-- names forgotten -/
theorem SR.unset {i : Nat} (s : SR K w σ ρ) : SR K w σ (ρ.set i .un) where
  ok := s.ok
  len := by rw [List.length_set]; exact s.len
  slot := fun j y q => by
    by_cases e : j = i
    · subst e
      have hj : j < ρ.length := by
        have := (List.getElem?_eq_some_iff.mp q).1
        rwa [List.length_set] at this
      rw [List.getElem?_set_self hj] at q
      cases q
      exact .un
    · rw [List.getElem?_set_ne (Ne.symm e)] at q
      exact s.slot j y q
  dis := fun j k t u x' y a hjk q1 q2 e1 => by
    have nj : j ≠ i := fun z => by
      subst z
      have hj : j < ρ.length := by
        have := (List.getElem?_eq_some_iff.mp q1).1
        rwa [List.length_set] at this
      rw [List.getElem?_set_self hj] at q1; cases q1
    have nk : k ≠ i := fun z => by
      subst z
      have hj : k < ρ.length := by
        have := (List.getElem?_eq_some_iff.mp q2).1
        rwa [List.length_set] at this
      rw [List.getElem?_set_self hj] at q2; cases q2
    rw [List.getElem?_set_ne (Ne.symm nj)] at q1
    rw [List.getElem?_set_ne (Ne.symm nk)] at q2
    exact s.dis j k t u x' y a hjk q1 q2 e1
/-- a name that owns keeps what it has, as a value -/
theorem SR.fix {i : Nat} {x : D} (s : SR K w σ ρ) (q : ρ[i]? = some (.own 0 x)) : ∃ (v : V) (w' : Wd), w'.H = w.H ∧ σ[i]? = some (some v) ∧ Le w w' ∧ SR K w' σ (ρ.set i (.d x)) ∧ Fz K w'.O w'.H v x := by
  have hs := s.slot i _ q
  obtain ⟨a, e, h1, h2, h3, _⟩ := hs.own_at
  have eσ := join_some e
  rw [e] at hs
  have f := fz_letGo hs
  have s1 : SR K (w.let a) σ (ρ.set i .un) := s.unset.letGo h2 h3 fun j t y q' z => by
    by_cases ej : j = i
    · subst ej
      have hj : j < ρ.length := (List.getElem?_eq_some_iff.mp q).1
      rw [List.getElem?_set_self hj] at q'; cases q'
    · rw [List.getElem?_set_ne (Ne.symm ej)] at q'
      exact s.dis i j _ _ _ _ _ (Ne.symm ej) q q' eσ z
  refine ⟨.ref a, w.let a, rfl, eσ, let_le, ?_, f⟩
  have s2 := s1.setD (i := i) f
  rw [List.set_set] at s2
  have : σ.set i (some (.ref a)) = σ := by
    apply List.ext_getElem?
    intro j
    by_cases ej : j = i
    · subst ej
      have hj : j < σ.length := by rw [s.len]; exact (List.getElem?_eq_some_iff.mp q).1
      rw [List.getElem?_set_self hj, eσ]
    · rw [List.getElem?_set_ne (Ne.symm ej)]
  rwa [this] at s2
theorem SR.setW {i t0 : Nat} {v : V} {x : D} (s : SR K w σ ρ) (r : RWt K t0 w σ ρ v x) : SR K w (σ.set i (some v)) (ρ.set i (.own t0 x)) := by
  obtain ⟨a, rfl, f, ne⟩ := r
  refine ⟨s.ok, by rw [List.length_set, List.length_set]; exact s.len, fun j y q => ?_, fun j k t u x' y b hjk q1 q2 e1 => ?_⟩
  · by_cases e : j = i
    · subst e
      have hj : j < ρ.length := by
        have := (List.getElem?_eq_some_iff.mp q).1
        rwa [List.length_set] at this
      rw [List.getElem?_set_self hj] at q
      rw [List.getElem?_set_self (by rw [s.len]; exact hj)]
      cases q
      exact f
    · rw [List.getElem?_set_ne (Ne.symm e)] at q ⊢
      exact s.slot j y q
  · have hlt : ∀ {j : Nat} {z : W}, (ρ.set i (.own t0 x))[j]? = some z → j < σ.length := fun q => by
      have := (List.getElem?_eq_some_iff.mp q).1
      rw [List.length_set] at this
      rw [s.len]; exact this
    by_cases ej : j = i
    · subst ej
      have nk : k ≠ j := Ne.symm hjk
      rw [List.getElem?_set_self (hlt q1)] at e1
      rw [List.getElem?_set_ne (Ne.symm nk)] at q2 ⊢
      cases e1
      exact ne k _ y q2
    · rw [List.getElem?_set_ne (Ne.symm ej)] at q1 e1
      by_cases ek : k = i
      · subst ek
        rw [List.getElem?_set_self (hlt q2)]
        intro z
        cases z
        exact ne j _ _ q1 e1
      · rw [List.getElem?_set_ne (Ne.symm ek)] at q2 ⊢
        exact s.dis j k t u x' y b hjk q1 q2 e1
end

abbrev DN (X : Cx) (C : Ct) (e : Expr) (g : G D) : Prop := PE X e (TX X.K C (RW X.K) g)
/-- a name where what it has is kept -/
def gK (i : Nat) : G D := fun ρ => match ρ[i]? with
  | some (.d x) => .ret (x, ρ)
  | some (.own 0 x) => .ret (x, ρ.set i (.d x))
  | _ => .stuck
def vL : List Opd → M (List D)
  | [] => .ret []
  | .v x :: os => (vL os).bind fun xs => .ret (x :: xs)
  | .pl _ :: _ => .stuck
def gTup (a : G (List Opd)) : G D := fun ρ => (a ρ).bind fun r => (vL r.1).bind fun xs => if xs.length ≤ 16777216 then .ret (.tuple xs, r.2) else .stuck
def gLst (a : G (List Opd)) : G D := fun ρ => (a ρ).bind fun r => (vL r.1).bind fun xs => if xs.length ≤ 16777216 then .ret (.list xs, r.2) else .stuck
def gB (a : G D) : G Bool := fun ρ => (a ρ).bind fun r => match r.1 with
  | .bool b => .ret (b, r.2)
  | _ => .stuck
def gAnd (a b : G Bool) : G Bool := fun ρ => (a ρ).bind fun r => if r.1 = true then b r.2 else .ret (false, r.2)
def gOr (a b : G Bool) : G Bool := fun ρ => (a ρ).bind fun r => if r.1 = true then .ret (true, r.2) else b r.2
def gNot (a : G Bool) : G Bool := fun ρ => (a ρ).bind fun r => .ret (!r.1, r.2)
def gAndV (a b : G D) : G D := fun ρ => (a ρ).bind fun r => match r.1 with
  | .bool true => b r.2
  | .bool false => .ret (.bool false, r.2)
  | _ => .stuck
def gOrV (a b : G D) : G D := fun ρ => (a ρ).bind fun r => match r.1 with
  | .bool false => b r.2
  | .bool true => .ret (.bool true, r.2)
  | _ => .stuck
def gNotV (a : G D) : G D := fun ρ => (a ρ).bind fun r => match r.1 with
  | .bool b => .ret (.bool !b, r.2)
  | _ => .stuck
def gIf {α : Type} (c : G Bool) (a b : G α) : G α := fun ρ => (c ρ).bind fun r => if r.1 = true then a r.2 else b r.2
/-- l op m op' r: the middle is read once -/
def gChain (f f' : D → D → Option D) (a b c : G Opd) : G D := fun ρ => (a ρ).bind fun r => (b r.2).bind fun s => (rd s.2 r.1).bind fun x => (rd s.2 s.1).bind fun y => (M.ofOpt (f x y)).bind fun z => match z with
  | .bool false => .ret (.bool false, s.2)
  | .bool true => (c s.2).bind fun t => (rd t.2 s.1).bind fun y => (rd t.2 t.1).bind fun u => (M.ofOpt (f' y u)).bind fun z => .ret (z, t.2)
  | _ => .stuck

theorem vL_fz {K : PySem.W.Frag} {w : Wd} {σ : L2.St} : ∀ {vs : List V} {os : List Opd} (_ : ROL K w σ vs os) {Q : List D → Prop} {E : Exc → Prop} (_ : (vL os).wp Q E), ∃ xs, FzL K w.O w.H vs xs ∧ Q xs
  | _, _, .nil, _, _, q => ⟨[], .nil, q⟩
  | _, _, .cons (v := v) (o := .v x) r t, Q, E, q => by
    obtain ⟨xs, pxs, q2⟩ := vL_fz t (M.wp_bind.mp q)
    exact ⟨x :: xs, .cons r pxs, q2⟩
  | _, _, .cons (v := v) (o := .pl i) r t, Q, E, q => q.elim
theorem line_eq {n : Nat} (h : n ≤ 16777216) : n ≤ sizeLine := by rw [sizeLine_eq]; exact h
theorem bool_of {x : D} {α : Type} {f : Bool → M α} {Q : α → Prop} {E : Exc → Prop} (h : (match x with
    | .bool b => f b
    | _ => .stuck).wp Q E) : ∃ b, x = .bool b ∧ (f b).wp Q E := by
  cases x with
  | bool b => exact ⟨b, rfl, h⟩
  | _ => exact h.elim

section
variable {X : Cx} {C : Ct} {a b c e : Expr} {pos : Pos} {es rest : List Expr}
theorem de_keep (i : Nat) {x : Str} (h : PE X (.Name x pos) (tVar i)) : DE X C (.Name x pos) (gK i) := PE.imp h fun σ H Q ⟨w, ρ, hw, l, sr, q⟩ => by
  subst hw
  have q' : (match ρ[i]? with
    | some (.d x) => M.ret (x, ρ)
    | some (.own 0 x) => .ret (x, ρ.set i (.d x))
    | _ => .stuck).wp (fun r => ∀ v (w' : Wd), Le w w' → SR X.K w' σ r.2 → RD X.K w' σ r.2 v r.1 → Q v w'.H) C.Ex := q
  match hx : ρ[i]? with
  | some (.d x) =>
    rw [hx] at q'
    have hs := sr.slot i _ hx
    revert hs
    generalize hv : σ[i]?.join = o
    intro hs
    cases hs with
    | d f => exact ⟨_, join_some hv, q' _ w .refl sr f⟩
  | some (.own (_ + 1) _) => rw [hx] at q'; exact q'.elim
  | some (.own 0 x) =>
    rw [hx] at q'
    obtain ⟨v, w', eH, e1, l1, s1, f1⟩ := sr.fix hx
    have q2 := q' v w' l1 s1 f1
    rw [eH] at q2
    exact ⟨v, e1, q2⟩
  | none => rw [hx] at q'; exact q'.elim
  | some .un => rw [hx] at q'; exact q'.elim
  | some .hand => rw [hx] at q'; exact q'.elim
  | some (.fn _) => rw [hx] at q'; exact q'.elim
  | some (.err _) => rw [hx] at q'; exact q'.elim
  | some (.scr _) => rw [hx] at q'; exact q'.elim
/-- what is new may be a value -/
theorem de_of {g : G D} (h : DN X C e g) : DE X C e g := PE.imp h fun σ H Q ⟨w, ρ, hw, l, sr, q⟩ => by
  refine ⟨w, ρ, hw, l, sr, M.wp_mono q (fun r q v w' l' s' f => ?_) fun _ z => z⟩
  obtain ⟨a, rfl, f, ne⟩ := f
  obtain ⟨a', e, h1, h2, h3, _⟩ := f.own_at
  cases e
  exact q (.ref a) (w'.let a) (l'.trans let_le) (s'.letGo h2 h3 ne) (fz_letGo f)
theorem de_tup {x1} {g : G (List Opd)} (h : DA X C es g) : DE X C (.Tuple es x1 pos) (gTup g) := PE.imp (pe_tup h) fun σ H Q ⟨w, ρ, hw, l, sr, q⟩ => by
  refine ⟨w, ρ, hw, l, sr, M.wp_mono (M.wp_bind.mp q) (fun r q vs w1 l1 s1 r1 => ?_) fun _ z => z⟩
  obtain ⟨xs, f, q⟩ := vL_fz r1 (M.wp_bind.mp q)
  have hz : xs.length ≤ 16777216 := by
    by_cases hz : xs.length ≤ 16777216
    · exact hz
    · rw [if_neg hz] at q; exact q.elim
  rw [if_pos hz] at q
  refine ⟨by rw [f.length]; exact line_eq hz, fun p hp => ?_⟩
  have ex : Ext w1.H (upd w1.H p (.tup vs)) := Ext.upd hp
  exact q (.ref p) { w1 with H := upd w1.H p (.tup vs) } (l1.trans (.ext ex)) (s1.ext ex) (.tup (.inl ⟨(s1.ok.ne hp : ¬ w1.O p), .inl upd_same⟩) (f.keep ex.keep))
theorem dn_lst {g : G (List Opd)} (h : DA X C es g) : DN X C (.List es pos) (gLst g) := PE.imp (pe_lst h) fun σ H Q ⟨w, ρ, hw, l, sr, q⟩ => by
  refine ⟨w, ρ, hw, l, sr, M.wp_mono (M.wp_bind.mp q) (fun r q vs w1 l1 s1 r1 => ?_) fun _ z => z⟩
  obtain ⟨xs, f, q⟩ := vL_fz r1 (M.wp_bind.mp q)
  have hz : xs.length ≤ 16777216 := by
    by_cases hz : xs.length ≤ 16777216
    · exact hz
    · rw [if_neg hz] at q; exact q.elim
  rw [if_pos hz] at q
  refine ⟨by rw [f.length]; exact line_eq hz, fun p hp => ?_⟩
  exact q (.ref p) (w1.alloc p (.lst vs)) (l1.trans (alloc_le hp s1.ok)) (s1.alloc hp) (rw_list hp s1 f)

/-! ### tests -/
theorem dt_of {g : G D} (h : DE X C e g) (he : ∀ whole, isTrue e X.env whole = (do let v ← whole; standAt e.pos; holding [v] (truthy v)) := by intro _; rfl) : DT X C e (gB g) := PT.imp (pt_val h he) fun σ H Q ⟨w, ρ, hw, l, sr, q⟩ =>
  ⟨w, ρ, hw, l, sr, M.wp_mono (M.wp_bind.mp q) (fun r q v w' l' s' f => by
    obtain ⟨b, e, q⟩ := bool_of q
    have f' : Fz X.K w'.O w'.H v r.1 := f
    rw [e] at f'
    cases f'
    exact ⟨b, rfl, q w' l' s'⟩) fun _ z => z⟩
theorem dt_cmp {op : CmpOp} {f : D → D → Option D} {ga gb : G Opd} (ho : Pure2 X (compareOp op) f) (ha : DO X C a ga) (hb : DO X C b gb) (hm : behindInMarks op b = false) : DT X C (.Compare a [op] [b] pos) (gB (g2 f ga gb)) :=
  PT.imp (pt_cmpR ho ha hb hm) fun σ H Q ⟨w, ρ, hw, l, sr, q⟩ => by
    refine two (C := C) (f := f) (fun _ _ _ _ z => z) ⟨w, ρ, hw, l, sr, M.wp_mono (M.wp_bind.mp q) (fun r q v w' l' s' f => ?_) fun _ z => z⟩
    obtain ⟨b, e, q⟩ := bool_of q
    have f' : Fz X.K w'.O w'.H v r.1 := f
    rw [e] at f'
    cases f'
    exact ⟨b, rfl, q w' l' s'⟩
variable {ga gb : G Bool}
theorem dt_not (ha : DT X C a ga) : DT X C (.UnaryOp .Not a pos) (gNot ga) := PT.imp (pt_not ha) fun σ H Q ⟨w, ρ, hw, l, sr, q⟩ =>
  ⟨w, ρ, hw, l, sr, M.wp_mono (M.wp_bind.mp q) (fun r q w' l' s' => q w' l' s') fun _ z => z⟩
theorem dw_and1 (ha : DT X C a ga) : DW X C (.BoolOp .And [a] pos) ga := pw_and1 ha
theorem dw_or1 (ha : DT X C a ga) : DW X C (.BoolOp .Or [a] pos) ga := pw_or1 ha
theorem dw_and (ha : DT X C a ga) (hb : DW X C (.BoolOp .And (b :: rest) pos) gb) : DW X C (.BoolOp .And (a :: b :: rest) pos) (gAnd ga gb) := PW.imp (pw_and ha hb) fun σ H Q ⟨w, ρ, hw, l, sr, q⟩ => by
  refine ⟨w, ρ, hw, l, sr, M.wp_mono (M.wp_bind.mp q) (fun r q w1 l1 s1 => ?_) fun _ z => z⟩
  by_cases e : r.1 = true
  · rw [if_pos e] at q ⊢
    exact ⟨w1, r.2, rfl, l.trans l1, s1, M.wp_mono q (fun r q w' l' s' => q w' (l1.trans l') s') fun _ z => z⟩
  · rw [if_neg e] at q ⊢
    exact q w1 l1 s1
theorem dw_or (ha : DT X C a ga) (hb : DW X C (.BoolOp .Or (b :: rest) pos) gb) : DW X C (.BoolOp .Or (a :: b :: rest) pos) (gOr ga gb) := PW.imp (pw_or ha hb) fun σ H Q ⟨w, ρ, hw, l, sr, q⟩ => by
  refine ⟨w, ρ, hw, l, sr, M.wp_mono (M.wp_bind.mp q) (fun r q w1 l1 s1 => ?_) fun _ z => z⟩
  by_cases e : r.1 = true
  · rw [if_pos e] at q ⊢
    exact q w1 l1 s1
  · rw [if_neg e] at q ⊢
    exact ⟨w1, r.2, rfl, l.trans l1, s1, M.wp_mono q (fun r q w' l' s' => q w' (l1.trans l') s') fun _ z => z⟩
theorem dt_w {g : G Bool} (h : DW X C e g) : DT X C e g := PW.pt h
/-! ### and, or, not as values -/
variable {va vb : G D}
theorem de_one {op} (h : DE X C a va) : DE X C (.BoolOp op [a] pos) va := pe_one h
theorem bl_of {w' : Wd} {v : V} {x : D} {b : Bool} {K : PySem.W.Frag} (f : Fz K w'.O w'.H v x) (e : x = .bool b) : v = .bl b := by subst e; cases f; rfl
theorem de_and (ha : DE X C a va) (hb : DE X C (.BoolOp .And (b :: rest) pos) vb) : DE X C (.BoolOp .And (a :: b :: rest) pos) (gAndV va vb) := PE.imp (pe_and ha hb) fun σ H Q ⟨w, ρ, hw, l, sr, q⟩ => by
  refine ⟨w, ρ, hw, l, sr, M.wp_mono (M.wp_bind.mp q) (fun r q v w1 l1 s1 f => ?_) fun _ z => z⟩
  obtain ⟨x, ρ1⟩ := r
  cases x with
  | bool c =>
    refine ⟨c, bl_of f rfl, ?_⟩
    cases c with
    | true => exact ⟨w1, ρ1, rfl, l.trans l1, s1, M.wp_mono q (fun r q v w' l' s' => q v w' (l1.trans l') s') fun _ z => z⟩
    | false => exact q _ w1 l1 s1 (.bl false)
  | _ => exact q.elim
theorem de_or (ha : DE X C a va) (hb : DE X C (.BoolOp .Or (b :: rest) pos) vb) : DE X C (.BoolOp .Or (a :: b :: rest) pos) (gOrV va vb) := PE.imp (pe_or ha hb) fun σ H Q ⟨w, ρ, hw, l, sr, q⟩ => by
  refine ⟨w, ρ, hw, l, sr, M.wp_mono (M.wp_bind.mp q) (fun r q v w1 l1 s1 f => ?_) fun _ z => z⟩
  obtain ⟨x, ρ1⟩ := r
  cases x with
  | bool c =>
    refine ⟨c, bl_of f rfl, ?_⟩
    cases c with
    | false => exact ⟨w1, ρ1, rfl, l.trans l1, s1, M.wp_mono q (fun r q v w' l' s' => q v w' (l1.trans l') s') fun _ z => z⟩
    | true => exact q _ w1 l1 s1 (.bl true)
  | _ => exact q.elim
theorem de_not (ha : DE X C a va) : DE X C (.UnaryOp .Not a pos) (gNotV va) := PE.imp (pe_not ha) fun σ H Q ⟨w, ρ, hw, l, sr, q⟩ => by
  refine ⟨w, ρ, hw, l, sr, M.wp_mono (M.wp_bind.mp q) (fun r q v w1 l1 s1 f => ?_) fun _ z => z⟩
  obtain ⟨x, ρ1⟩ := r
  cases x with
  | bool c => exact ⟨c, bl_of f rfl, q _ w1 l1 s1 (.bl _)⟩
  | _ => exact q.elim
/-! ### x if c else y -/
theorem if_go {α : Type} {R : RT α} {gc : G Bool} {g g' : G α} {σ : L2.St} {H : Hp} {Q : VK} (h : TX X.K C R (gIf gc g g') σ H Q) : tIf (TB X.K C gc) (TX X.K C R g) (TX X.K C R g') σ H Q := by
  obtain ⟨w, ρ, hw, l, sr, q⟩ := h
  refine ⟨w, ρ, hw, l, sr, M.wp_mono (M.wp_bind.mp q) (fun r q w1 l1 s1 => ?_) fun _ z => z⟩
  by_cases e : r.1 = true
  · rw [if_pos e] at q ⊢
    exact ⟨w1, r.2, rfl, l.trans l1, s1, M.wp_mono q (fun r q v w' l' s' => q v w' (l1.trans l') s') fun _ z => z⟩
  · rw [if_neg e] at q ⊢
    exact ⟨w1, r.2, rfl, l.trans l1, s1, M.wp_mono q (fun r q v w' l' s' => q v w' (l1.trans l') s') fun _ z => z⟩
theorem de_if {gc : G Bool} (hc : DT X C c gc) (ha : DE X C a va) (hb : DE X C b vb) : DE X C (.IfExp c a b pos) (gIf gc va vb) := PE.imp (pe_ifExp hc ha hb) fun _ _ _ h => if_go h
theorem dn_if {gc : G Bool} (hc : DT X C c gc) (ha : DN X C a va) (hb : DN X C b vb) : DN X C (.IfExp c a b pos) (gIf gc va vb) := PE.imp (pe_ifExp hc ha hb) fun _ _ _ h => if_go h
end
end DL

/-! DL4: statements, loops, comprehensions, calls, defs -/
namespace DL
open PySem PySem.Spec PyProof.Rows L2

/-! ### statements -/
def gSeq (a b : G Fl) : G Fl := fun ρ => (a ρ).bind fun r => match r.1 with
  | .nx => b r.2
  | f => .ret (f, r.2)
def gNx : G Fl := fun ρ => .ret (.nx, ρ)
def gBk : G Fl := fun ρ => .ret (.bk, ρ)
def gCt : G Fl := fun ρ => .ret (.ct, ρ)
def gRet (a : G D) : G Fl := fun ρ => (a ρ).bind fun r => .ret (.rt r.1, r.2)
def gRetW (a : G D) : G Fl := fun ρ => (a ρ).bind fun r => .ret (.rw r.1, r.2)
def gRetN : G Fl := fun ρ => .ret (.rt .none, ρ)
def gExpr (a : G D) : G Fl := fun ρ => (a ρ).bind fun r => .ret (.nx, r.2)
def gSet (i : Nat) (a : G D) : G Fl := fun ρ => (a ρ).bind fun r => .ret (.nx, r.2.set i (.d r.1))
def gSetW (i : Nat) (a : G D) : G Fl := fun ρ => (a ρ).bind fun r => .ret (.nx, r.2.set i (.own 0 r.1))

section
variable {K : PySem.W.Frag} {C : Ct} {w w' : Wd}
abbrev PostS (K : PySem.W.Frag) (E : Ends) (w : Wd) (r : Fl × Rho) : Prop := match r.1 with
    | .nx => ∀ σ' (w' : Wd), Le w w' → SR K w' σ' r.2 → E.nx σ' w'.H
    | .bk => ∀ σ' (w' : Wd), Le w w' → SR K w' σ' r.2 → E.bk σ' w'.H
    | .ct => ∀ σ' (w' : Wd), Le w w' → SR K w' σ' r.2 → E.ct σ' w'.H
    | .rt x => ∀ v σ' (w' : Wd), Le w w' → SR K w' σ' r.2 → Fz K w'.O w'.H v x → E.rt v w'.H
    | .rw x => ∀ v σ' (w' : Wd), Le w w' → SR K w' σ' r.2 → RWt K 0 w' σ' r.2 v x → E.rt v w'.H
theorem PostS.mono {E : Ends} {r : Fl × Rho} (l : Le w w') (h : PostS K E w r) : PostS K E w' r := by
  obtain ⟨f, ρ⟩ := r
  cases f with
  | nx => exact fun σ' w2 l2 s => h σ' w2 (l.trans l2) s
  | bk => exact fun σ' w2 l2 s => h σ' w2 (l.trans l2) s
  | ct => exact fun σ' w2 l2 s => h σ' w2 (l.trans l2) s
  | rt x => exact fun v σ' w2 l2 s => h v σ' w2 (l.trans l2) s
  | rw x => exact fun v σ' w2 l2 s => h v σ' w2 (l.trans l2) s
end
section
variable {X : Cx} {C : Ct} {e : Expr} {pos : Pos} {g : G D} {st : Stmt} {rest : List Stmt} {ga gb : G Fl}
theorem dss_nil : DSs X C [] gNx := PSs.imp pss_nil fun E σ H ⟨w, ρ, hw, l, sr, q⟩ => by subst hw; exact q σ w .refl sr
theorem dss_cons (h1 : DS X C st ga) (h2 : DSs X C rest gb) : DSs X C (st :: rest) (gSeq ga gb) := PSs.imp (pss_cons h1 h2) fun E σ H ⟨w, ρ, hw, l, sr, q⟩ => by
  refine ⟨w, ρ, hw, l, sr, M.wp_mono (M.wp_bind.mp q) (fun r q => ?_) fun _ z => z⟩
  obtain ⟨f, ρ1⟩ := r
  cases f with
  | nx => exact fun σ' w1 l1 s1 => ⟨w1, ρ1, rfl, l.trans l1, s1, M.wp_mono q (fun r q => PostS.mono l1 q) fun _ z => z⟩
  | bk => exact q
  | ct => exact q
  | rt x => exact q
  | rw x => exact q
theorem dss_one (h : DS X C st ga) : DSs X C [st] ga := pss_one h
theorem ds_pass : DS X C (.Pass pos) gNx := PS.imp ps_pass fun E σ H ⟨w, ρ, hw, l, sr, q⟩ => by subst hw; exact q σ w .refl sr
theorem ds_break : DS X C (.Break pos) gBk := PS.imp ps_break fun E σ H ⟨w, ρ, hw, l, sr, q⟩ => by subst hw; exact q σ w .refl sr
theorem ds_continue : DS X C (.Continue pos) gCt := PS.imp ps_continue fun E σ H ⟨w, ρ, hw, l, sr, q⟩ => by subst hw; exact q σ w .refl sr
theorem ds_doc {x j pos pos'} : DS X C (.Expr (.Constant (.str x) j pos) pos') gNx := PS.imp ps_doc fun E σ H ⟨w, ρ, hw, l, sr, q⟩ => by subst hw; exact q σ w .refl sr
theorem ds_ret (h : DE X C e g) : DS X C (.Return (some e) pos) (gRet g) := PS.imp (ps_ret h) fun E σ H ⟨w, ρ, hw, l, sr, q⟩ =>
  ⟨w, ρ, hw, l, sr, M.wp_mono (M.wp_bind.mp q) (fun r q v w' l' s' f => q v σ w' l' s' f) fun _ z => z⟩
theorem ds_retW (h : DN X C e g) : DS X C (.Return (some e) pos) (gRetW g) := PS.imp (ps_ret h) fun E σ H ⟨w, ρ, hw, l, sr, q⟩ =>
  ⟨w, ρ, hw, l, sr, M.wp_mono (M.wp_bind.mp q) (fun r q v w' l' s' f => q v σ w' l' s' f) fun _ z => z⟩
theorem ds_retN : DS X C (.Return none pos) gRetN := PS.imp ps_retN fun E σ H ⟨w, ρ, hw, l, sr, q⟩ => by subst hw; exact q .non σ w .refl sr .non
theorem ds_expr (h : DE X C e g) (hs : swapsWith e none pos.line X.env = pure false := by rfl) : DS X C (.Expr e pos) (gExpr g) := PS.imp (ps_expr h hs) fun E σ H ⟨w, ρ, hw, l, sr, q⟩ =>
  ⟨w, ρ, hw, l, sr, M.wp_mono (M.wp_bind.mp q) (fun r q v w' l' s' f => q σ w' l' s') fun _ z => z⟩
theorem set_go {i : Nat} {E : Ends} {σ : L2.St} {H : Hp} (h : TSm X.K C (gSet i g) E σ H) : tAsg (TX X.K C (RD X.K) g) (gName i) E σ H := by
  obtain ⟨w, ρ, hw, l, sr, q⟩ := h
  exact ⟨w, ρ, hw, l, sr, M.wp_mono (M.wp_bind.mp q) (fun r q v w' l' s' f => q _ w' l' (s'.setD f)) fun _ z => z⟩
theorem setW_go {i : Nat} {E : Ends} {σ : L2.St} {H : Hp} (h : TSm X.K C (gSetW i g) E σ H) : tAsg (TX X.K C (RW X.K) g) (gName i) E σ H := by
  obtain ⟨w, ρ, hw, l, sr, q⟩ := h
  exact ⟨w, ρ, hw, l, sr, M.wp_mono (M.wp_bind.mp q) (fun r q v w' l' s' f => q _ w' l' (s'.setW f)) fun _ z => z⟩
theorem ds_set {i : Nat} {x : Str} {pos' : Pos} (hN : X.N.Nodup) (he : DE X C e g) (hi : X.N[i]? = some x := by rfl) (hx : Loc X.env.scope x := by first | exact Or.inl rfl | exact Or.inr rfl) (hs : swapsWith e (some (.Name x pos')) pos.line X.env = pure false := by rfl)
    (hf : X.fn x = true ∨ X.env.scope.names.lookup x = some .local := by first | exact .inl rfl | exact .inr rfl | assumption) : DS X C (.Assign [.Name x pos'] e pos) (gSet i g) := PS.imp (ps_set hN hi hx he hs hf) fun _ _ _ h => set_go h
theorem ds_setW {i : Nat} {x : Str} {pos' : Pos} (hN : X.N.Nodup) (he : DN X C e g) (hi : X.N[i]? = some x := by rfl) (hx : Loc X.env.scope x := by first | exact Or.inl rfl | exact Or.inr rfl) (hs : swapsWith e (some (.Name x pos')) pos.line X.env = pure false := by rfl)
    (hf : X.fn x = true ∨ X.env.scope.names.lookup x = some .local := by first | exact .inl rfl | exact .inr rfl | assumption) : DS X C (.Assign [.Name x pos'] e pos) (gSetW i g) := PS.imp (ps_set hN hi hx he hs hf) fun _ _ _ h => setW_go h
theorem ds_if {c : Expr} {a b : List Stmt} {gc : G Bool} (hc : DT X C c gc) (ha : DSs X C a ga) (hb : DSs X C b gb) : DS X C (.If c a b pos) (gIf gc ga gb) := PS.imp (ps_if hc ha hb) fun E σ H ⟨w, ρ, hw, l, sr, q⟩ => by
  refine ⟨w, ρ, hw, l, sr, M.wp_mono (M.wp_bind.mp q) (fun r q w1 l1 s1 => ?_) fun _ z => z⟩
  by_cases e : r.1 = true
  · rw [if_pos e] at q ⊢
    exact ⟨w1, r.2, rfl, l.trans l1, s1, M.wp_mono q (fun r q => PostS.mono l1 q) fun _ z => z⟩
  · rw [if_neg e] at q ⊢
    exact ⟨w1, r.2, rfl, l.trans l1, s1, M.wp_mono q (fun r q => PostS.mono l1 q) fun _ z => z⟩
end

/-! ### targets -/
section
variable (K : PySem.W.Frag) (C : Ct)
def TGm (ts : List Nat) (g : D → Rho → M Rho) : TG := fun v σ H Q => ∃ (w : Wd) (ρ : Rho) (x : D), w.H = H ∧ Le C.base w ∧ SR K w σ ρ ∧ Fz K w.O w.H v x ∧
  (g x ρ).wp (fun ρ' => ∀ σ' (w' : Wd), Le w w' → SR K w' σ' ρ' → ((∀ i, i ∉ ts → σ'[i]? = σ[i]?) ∧ σ'.length = σ.length) → Q σ' w'.H) C.Ex
def TGsm (ts : List Nat) (g : List D → Rho → M Rho) : TGs := fun vs σ H Q => ∃ (w : Wd) (ρ : Rho) (xs : List D), w.H = H ∧ Le C.base w ∧ SR K w σ ρ ∧ FzL K w.O w.H vs xs ∧
  (g xs ρ).wp (fun ρ' => ∀ σ' (w' : Wd), Le w w' → SR K w' σ' ρ' → ((∀ i, i ∉ ts → σ'[i]? = σ[i]?) ∧ σ'.length = σ.length) → Q σ' w'.H) C.Ex
end
abbrev DG (X : Cx) (C : Ct) (e : Expr) (ts : List Nat) (g : D → Rho → M Rho) : Prop := PG X e (TGm X.K C ts g)
abbrev DGs (X : Cx) (C : Ct) (es : List Expr) (ts : List Nat) (g : List D → Rho → M Rho) : Prop := PGs X es (TGsm X.K C ts g)
def tName (i : Nat) : D → Rho → M Rho := fun x ρ => .ret (ρ.set i (.d x))
def tNil : List D → Rho → M Rho := fun xs ρ => match xs with
  | [] => .ret ρ
  | _ => .stuck
def tCons (a : D → Rho → M Rho) (b : List D → Rho → M Rho) : List D → Rho → M Rho := fun xs ρ => match xs with
  | x :: r => (a x ρ).bind fun ρ1 => b r ρ1
  | [] => .stuck
def tTupl (n : Nat) (b : List D → Rho → M Rho) : D → Rho → M Rho := fun x ρ => match x with
  | .tuple xs => if xs.length = n then b xs ρ else .stuck
  | _ => .stuck
section
variable {X : Cx} {C : Ct} {e : Expr} {pos : Pos} {es : List Expr}
theorem PG.imp {t t' : TG} (h : PG X e t) (i : ∀ v σ H Q, t' v σ H Q → t v σ H Q) : PG X e t' := ⟨fun pins s σ H v u Q I r q => h.run pins s σ H v u Q I r (i _ _ _ _ q)⟩
theorem PGs.imp {t t' : TGs} (h : PGs X es t) (i : ∀ v σ H Q, t' v σ H Q → t v σ H Q) : PGs X es t' := ⟨fun pins s σ H v u Q I r q => h.run pins s σ H v u Q I r (i _ _ _ _ q)⟩
theorem dg_name {i : Nat} {x : Str} (hN : X.N.Nodup) (hi : X.N[i]? = some x := by rfl) (hx : Loc X.env.scope x := by first | exact Or.inl rfl | exact Or.inr rfl) (hf : X.fn x = true ∨ X.env.scope.names.lookup x = some .local := by first | exact .inl rfl | exact .inr rfl | assumption) :
    DG X C (.Name x pos) [i] (tName i) := PG.imp (pg_name hN hi hx hf) fun v σ H Q ⟨w, ρ, x, hw, l, sr, f, q⟩ => by
  subst hw
  exact q _ w .refl (sr.setD f) ⟨fun j hj => List.getElem?_set_ne (fun z => hj (by simp [z])), List.length_set⟩
theorem dgs_nil : DGs X C [] [] tNil := PGs.imp pgs_nil fun v σ H Q ⟨w, ρ, xs, hw, l, sr, f, q⟩ => by
  subst hw
  cases f with
  | nil => exact ⟨rfl, q σ w .refl sr ⟨fun _ _ => rfl, rfl⟩⟩
  | cons => exact q.elim
theorem dgs_cons {ts us : List Nat} {a : D → Rho → M Rho} {b : List D → Rho → M Rho} (h1 : DG X C e ts a) (h2 : DGs X C es us b) (hs : (assignEach (e :: es) X.env).map (·.2) = assign e X.env :: (assignEach es X.env).map (·.2) := by rfl) : DGs X C (e :: es) (ts ++ us) (tCons a b) := PGs.imp (pgs_cons h1 h2 hs) fun v σ H Q ⟨w, ρ, xs, hw, l, sr, f, q⟩ => by
  cases f with
  | nil => exact q.elim
  | cons f fs =>
    refine ⟨_, _, rfl, w, ρ, _, hw, l, sr, f, M.wp_mono (M.wp_bind.mp q) (fun ρ1 q σ1 w1 l1 s1 o1 => ?_) fun _ z => z⟩
    refine ⟨w1, ρ1, _, rfl, l.trans l1, s1, fs.keep l1.keep, M.wp_mono q (fun ρ2 q σ2 w2 l2 s2 o2 => ?_) fun _ z => z⟩
    exact q σ2 w2 (l1.trans l2) s2 ⟨fun i hi => (o2.1 i fun z => hi (List.mem_append_right _ z)).trans (o1.1 i fun z => hi (List.mem_append_left _ z)), o2.2.trans o1.2⟩
theorem dg_tup {n : Nat} {ts : List Nat} {b : List D → Rho → M Rho} {k : Nat} (hc : X.calm = true) (h : DGs X C es ts b) (hn : (assignEach es X.env).length = n := by rfl) (hst : (assignEach es X.env).findIdx? (·.1) = none := by rfl) : DG X C (.Tuple es k pos) ts (tTupl n b) := by
  refine PG.imp (pg_tup hc h hn hst) fun v σ H Q hh => ?_
  obtain ⟨w, ρ, x, hw, l, sr, f, q⟩ := hh
  subst hw
  have f' : Fz X.K w.O w.H v x := f
  cases f' with
  | tup qt fs =>
    rename_i a vs xs
    have q' : (if xs.length = n then b xs ρ else M.stuck).wp (fun ρ' => ∀ σ' (w' : Wd), Le w w' → SR X.K w' σ' ρ' → ((∀ i, i ∉ ts → σ'[i]? = σ[i]?) ∧ σ'.length = σ.length) → Q σ' w'.H) C.Ex := q
    by_cases hz : xs.length = n
    · rw [if_pos hz] at q'
      exact ⟨a, vs, rfl, qt.sq, by rw [fs.length]; exact hz, w, ρ, xs, rfl, l, sr, fs, q'⟩
    · rw [if_neg hz] at q'; exact q'.elim
  | _ => exact q.elim
end

/-! ### what is walked -/
/-- a walk of the items xs -/
def ItD (K : PySem.W.Frag) (w : Wd) (J : It) (xs : List D) : Prop := ∀ (w2 : Wd), Le w w2 → (∀ i, i < xs.length → J.go i w2.H) ∧ J.stop xs.length w2.H ∧
  ∀ i x, xs[i]? = some x → ∀ v H', J.yld i w2.H v H' → Ext w2.H H' ∧ Fz K w2.O H' v x
def TIm (K : PySem.W.Frag) (C : Ct) (g : G (List D)) : TI := fun σ H R => ∃ (w : Wd) (ρ : Rho), w.H = H ∧ Le C.base w ∧ SR K w σ ρ ∧
  (g ρ).wp (fun r => ∀ (w' : Wd) (J : It), Le w w' → SR K w' σ r.2 → ItD K w' J r.1 → R J w'.H) C.Ex
abbrev DI (X : Cx) (C : Ct) (tg it : Expr) (g : G (List D)) : Prop := PI X tg it (TIm X.K C g)
def gSeqI (a : G D) : G (List D) := fun ρ => (a ρ).bind fun r => match r.1 with
  | .list xs => .ret (xs, r.2)
  | .tuple xs => .ret (xs, r.2)
  | _ => .stuck
def intsFrom (lo : Int) : Nat → List D
  | 0 => []
  | n + 1 => .int lo :: intsFrom (lo + 1) n
def rng1 : List D → Option (List D)
  | [.int j] => if j < 2 ^ 62 ∧ -(2 ^ 62) ≤ j then some (intsFrom 0 j.toNat) else none
  | _ => none
def rng2 : List D → Option (List D)
  | [.int i, .int j] => if i < 2 ^ 62 ∧ -(2 ^ 62) ≤ i ∧ j < 2 ^ 62 ∧ -(2 ^ 62) ≤ j then some (intsFrom i (j - i).toNat) else none
  | _ => none
def gRng (f : List D → Option (List D)) (a : G (List Opd)) : G (List D) := fun ρ => (a ρ).bind fun r => (rdL r.2 r.1).bind fun xs => (M.ofOpt (f xs)).bind fun z => .ret (z, r.2)
theorem intsFrom_length : ∀ (n : Nat) (lo : Int), (intsFrom lo n).length = n
  | 0, _ => rfl
  | n + 1, lo => by simp [intsFrom, intsFrom_length n]
theorem intsFrom_get : ∀ (n : Nat) (lo : Int) (i : Nat), i < n → (intsFrom lo n)[i]? = some (.int (lo + i))
  | 0, _, _, h => absurd h (Nat.not_lt_zero _)
  | n + 1, lo, 0, _ => by simp [intsFrom]
  | n + 1, lo, i + 1, h => by
    simp only [intsFrom, List.getElem?_cons_succ]
    rw [intsFrom_get n (lo + 1) i (by omega)]
    congr 2
    omega
section
variable {X : Cx} {C : Ct} {e : Expr} {pos : Pos} {es : List Expr} {tg : Expr}
theorem PI.imp {t t' : TI} (h : PI X tg e t) (i : ∀ σ H Q, t' σ H Q → t σ H Q) : PI X tg e t' := ⟨fun pins s σ H R I q => h.run pins s σ H R I (i _ _ _ q)⟩
/-- a list or a tuple, whichever it is -/
def iSq (K : PySem.W.Frag) (tl : TE) : TI := fun σ H R => tl σ H fun x H1 => ∃ a, x = .ref a ∧ (((∃ xs, SqL K H1 a xs) ∧ R (Itl K a) H1) ∨ ((∃ xs, SqT K H1 a xs) ∧ R (Itt K a) H1))
theorem pi_sq {tl : TE} (hl : PE X e tl) : PI X tg e (iSq X.K tl) := by
  refine ⟨fun pins s σ H R I h => ?_⟩
  refine thn (hl.run pins s σ H _ I h) fun v s1 ⟨x, H1, I1, r1, q1⟩ => ?_
  obtain ⟨a, e, q1⟩ := q1
  subst e
  cases r1
  rcases q1 with ⟨⟨xs, hq⟩, q⟩ | ⟨⟨xs, hq⟩, q⟩
  · obtain ⟨its, rv, p, hz⟩ := I1.list hq
    refine wpAny_pyIter_list p.isList ?_
    refine ⟨s1.heap.objs.size, [s1.heap.objs.size], _, _, H1, rfl, I1.kept (t' := s1.toks) fun b o e => Heap.get?_push_of_some _ e, turn_list a _, ⟨_, Heap.get?_push_size _ rfl, rfl, rfl⟩, fun b hb => ?_, q⟩
    have e : b = s1.heap.objs.size := by simpa using hb
    subst e
    exact I1.fpOk (Nat.le_refl _) (I1.hok.fresh (Nat.le_refl _))
  · obtain ⟨its, rv, p, hz⟩ := I1.tuple hq
    refine wpAny_pyIter_tuple (show s1.heap.IsTuple a its.toArray from p) ?_
    refine ⟨s1.heap.objs.size, [s1.heap.objs.size], _, _, H1, rfl, I1.kept (t' := s1.toks) fun b o e => Heap.get?_push_of_some _ e, turn_tuple a _, ⟨_, Heap.get?_push_size _ rfl, rfl, rfl⟩, fun b hb => ?_, q⟩
    have e : b = s1.heap.objs.size := by simpa using hb
    subst e
    exact I1.fpOk (Nat.le_refl _) (I1.hok.fresh (Nat.le_refl _))
theorem itD_list {K : PySem.W.Frag} {w : Wd} {a : Addr} {vs : List V} {xs : List D} (q : QL K w.O w.H a vs) (f : FzL K w.O w.H vs xs) : ItD K w (Itl K a) xs := fun w2 l => by
  have q2 := (q.keep l.keep).sq
  have f2 := f.keep l.keep
  refine ⟨fun i hi => ?_, ⟨vs, q2, by rw [f.length]; exact Nat.le_refl _⟩, fun i x hx v H' hy => ?_⟩
  · obtain ⟨v, hv, _⟩ := f2.get (List.getElem?_eq_getElem hi)
    exact ⟨vs, v, q2, hv⟩
  · obtain ⟨rfl, hy⟩ := hy
    obtain ⟨v', hv, fz⟩ := f2.get hx
    rw [hy vs q2] at hv
    cases hv
    exact ⟨fun _ _ e => e, fz⟩
theorem itD_tup {K : PySem.W.Frag} {w : Wd} {a : Addr} {vs : List V} {xs : List D} (q : QT K w.O w.H a vs) (f : FzL K w.O w.H vs xs) : ItD K w (Itt K a) xs := fun w2 l => by
  have q2 := (q.keep l.keep).sq
  have f2 := f.keep l.keep
  refine ⟨fun i hi => ?_, ⟨vs, q2, by rw [f.length]; exact Nat.le_refl _⟩, fun i x hx v H' hy => ?_⟩
  · obtain ⟨v, hv, _⟩ := f2.get (List.getElem?_eq_getElem hi)
    exact ⟨vs, v, q2, hv⟩
  · obtain ⟨rfl, hy⟩ := hy
    obtain ⟨v', hv, fz⟩ := f2.get hx
    rw [hy vs q2] at hv
    cases hv
    exact ⟨fun _ _ e => e, fz⟩
theorem itD_rng {K : PySem.W.Frag} {w : Wd} {lo : Int} {n : Nat} : ItD K w (Itr lo n) (intsFrom lo n) := fun w2 l => by
  refine ⟨fun i hi => by rw [intsFrom_length] at hi; exact hi, by rw [intsFrom_length]; exact Nat.le_refl _, fun i x hx v H' hy => ?_⟩
  obtain ⟨rfl, rfl⟩ := hy
  have hi : i < n := by
    have := (List.getElem?_eq_some_iff.mp hx).1
    rwa [intsFrom_length] at this
  rw [intsFrom_get n lo i hi] at hx
  cases hx
  exact ⟨fun _ _ e => e, .int _⟩
theorem di_seq {g : G D} (h : DE X C e g) : DI X C tg e (gSeqI g) := PI.imp (pi_sq h) fun σ H Q ⟨w, ρ, hw, l, sr, q⟩ => by
  refine ⟨w, ρ, hw, l, sr, M.wp_mono (M.wp_bind.mp q) (fun r q v w1 l1 s1 f => ?_) fun _ z => z⟩
  obtain ⟨x, ρ1⟩ := r
  have f' : Fz X.K w1.O w1.H v x := f
  cases f' with
  | lst q1 f1 => exact ⟨_, rfl, .inl ⟨⟨_, q1.sq⟩, q w1 _ l1 s1 (itD_list q1 f1)⟩⟩
  | tup q1 f1 => exact ⟨_, rfl, .inr ⟨⟨_, q1.sq⟩, q w1 _ l1 s1 (itD_tup q1 f1)⟩⟩
  | _ => exact q.elim
theorem Pk.int_inv {K : PySem.W.Frag} {O : Addr → Prop} {H : Hp} {v : V} {i : Int} (h : Pk K O H v (.int i)) : v = .int i := by
  cases h with
  | of h => cases h; rfl
theorem rng1_of {xs z : List D} (h : rng1 xs = some z) : ∃ j, xs = [.int j] ∧ j < 2 ^ 62 ∧ -(2 ^ 62) ≤ j ∧ z = intsFrom 0 j.toNat := by
  unfold rng1 at h
  split at h
  · split at h
    · rename_i j c; cases h; exact ⟨j, rfl, c.1, c.2, rfl⟩
    · cases h
  · cases h
theorem rng2_of {xs z : List D} (h : rng2 xs = some z) : ∃ i j, xs = [.int i, .int j] ∧ (i < 2 ^ 62 ∧ -(2 ^ 62) ≤ i ∧ j < 2 ^ 62 ∧ -(2 ^ 62) ≤ j) ∧ z = intsFrom i (j - i).toNat := by
  unfold rng2 at h
  split at h
  · split at h
    · rename_i i j c; cases h; exact ⟨i, j, rfl, c, rfl⟩
    · cases h
  · cases h
theorem di_rng1 {a : Expr} {g : G (List Opd)} {p pos : Pos} (hg : Gl X "range") (hm : X.mg "range" = none) (ha : DA X C [a] g) (hs : starEach [a] X.env = [(false, eval a X.env)] := by rfl) : DI X C tg (.Call (.Name "range" p) [a] [] pos) (gRng rng1 g) :=
  PI.imp (pi_range1 hg hm ha hs) fun σ H Q ⟨w, ρ, hw, l, sr, q⟩ => by
    refine ⟨w, ρ, hw, l, sr, M.wp_mono (M.wp_bind.mp q) (fun r q vs w1 l1 s1 r1 => ?_) fun _ z => z⟩
    obtain ⟨xs, px, q⟩ := rdL_pk s1 r1 (M.wp_bind.mp q)
    obtain ⟨z, hz, q⟩ := wp_ofOpt (M.wp_bind.mp q)
    obtain ⟨j, rfl, h1, h2, rfl⟩ := rng1_of hz
    cases px with
    | cons p1 pn =>
      cases pn
      rw [p1.int_inv]
      exact ⟨j, rfl, h2, h1, q w1 _ l1 s1 itD_rng⟩
theorem di_rng2 {a b : Expr} {g : G (List Opd)} {p pos : Pos} (hg : Gl X "range") (hm : X.mg "range" = none) (ha : DA X C [a, b] g) (hs : starEach [a, b] X.env = [(false, eval a X.env), (false, eval b X.env)] := by rfl) (hs2 : starEach [b] X.env = [(false, eval b X.env)] := by rfl) :
    DI X C tg (.Call (.Name "range" p) [a, b] [] pos) (gRng rng2 g) :=
  PI.imp (pi_range2 hg hm ha hs hs2) fun σ H Q ⟨w, ρ, hw, l, sr, q⟩ => by
    refine ⟨w, ρ, hw, l, sr, M.wp_mono (M.wp_bind.mp q) (fun r q vs w1 l1 s1 r1 => ?_) fun _ z => z⟩
    obtain ⟨xs, px, q⟩ := rdL_pk s1 r1 (M.wp_bind.mp q)
    obtain ⟨z, hz, q⟩ := wp_ofOpt (M.wp_bind.mp q)
    obtain ⟨i, j, rfl, h1, rfl⟩ := rng2_of hz
    cases px with
    | cons p1 pn =>
      cases pn with
      | cons p2 pn =>
        cases pn
        rw [p1.int_inv, p2.int_inv]
        exact ⟨i, j, rfl, ⟨h1.2.1, h1.1, h1.2.2.2, h1.2.2.1⟩, q w1 _ l1 s1 itD_rng⟩
end
end DL

/-! DL5: loops, comprehensions -/
namespace DL
open PySem PySem.Spec PyProof.Rows L2

def forD (body : D → G Fl) : List D → G Fl
  | [] => fun ρ => .ret (.nx, ρ)
  | x :: xs => fun ρ => (body x ρ).bind fun r => match r.1 with
    | .nx => forD body xs r.2
    | .ct => forD body xs r.2
    | .bk => .ret (.nx, r.2)
    | .rt v => .ret (.rt v, r.2)
    | .rw v => .ret (.rw v, r.2)
def gFor (src : G (List D)) (tg : D → Rho → M Rho) (body : G Fl) : G Fl := fun ρ => (src ρ).bind fun r => forD (fun x ρ => (tg x ρ).bind body) r.1 r.2
def whileD (c : G Bool) (b : G Fl) : Nat → G Fl
  | 0 => fun _ => .stuck
  | n + 1 => fun ρ => (c ρ).bind fun r => if r.1 = true then (b r.2).bind fun s => match s.1 with
      | .nx => whileD c b n s.2
      | .ct => whileD c b n s.2
      | .bk => .ret (.nx, s.2)
      | .rt v => .ret (.rt v, s.2)
      | .rw v => .ret (.rw v, s.2)
    else .ret (.nx, r.2)
/-- turns at most -/
def FUEL : Nat := 1000000
def gWhile (c : G Bool) (b : G Fl) : G Fl := whileD c b FUEL

section
variable {X : Cx} {C : Ct} {e it tg : Expr} {pos : Pos} {body : List Stmt} {gb : G Fl} {src : G (List D)} {ts : List Nat} {t : D → Rho → M Rho}
theorem ds_for (hp : PassesOwn (model X.prog X.w) X.A X.env X.xe) (hc : X.calm = true) (hi : DI X C tg it src) (hg : DG X C tg ts t) (hb : DSs X C body gb) (hs : ∀ x, foldedSetIterable it X.env x = pure x := by intro _; rfl) :
    DS X C (.For tg it body [] pos) (gFor src t gb) := PS.imp (ps_for hp hc hi hg hb hs) fun E σ H ⟨w, ρ, hw, l, sr, q⟩ => by
  refine ⟨w, ρ, hw, l, sr, M.wp_mono (M.wp_bind.mp q) (fun r q w0 J l0 s0 hJ => ?_) fun _ z => z⟩
  refine ⟨fun i m σ H => ∃ (w1 : Wd) (ρ1 : Rho), w1.H = H ∧ Le C.base w1 ∧ Le w w1 ∧ Le w0 w1 ∧ SR X.K w1 σ ρ1 ∧ i ≤ r.1.length ∧ m = r.1.length - i ∧ (forD (fun x ρ => (t x ρ).bind gb) (r.1.drop i) ρ1).wp (PostS X.K E w) C.Ex,
    ⟨_, w0, r.2, rfl, l.trans l0, l0, .refl, s0, Nat.zero_le _, rfl, q⟩, ?_⟩
  rintro i m σ1 H1 ⟨w1, ρ1, rfl, lb, lw, l1, s1, hi, rfl, q⟩
  obtain ⟨h1, h2, h3⟩ := hJ w1 l1
  by_cases hlt : i < r.1.length
  · right
    refine ⟨h1 i hlt, fun σ' H' => ∃ (w1 : Wd) (ρ1 : Rho), w1.H = H' ∧ Le C.base w1 ∧ Le w w1 ∧ Le w0 w1 ∧ SR X.K w1 σ' ρ1 ∧ (forD (fun x ρ => (t x ρ).bind gb) (r.1.drop (i + 1)) ρ1).wp (PostS X.K E w) C.Ex, fun σ' H' hN => ?_, fun v H' hy => ?_⟩
    · obtain ⟨w2, ρ2, e1, e2, e3, e4, e5, e6⟩ := hN
      exact ⟨r.1.length - (i + 1), by omega, w2, ρ2, e1, e2, e3, e4, e5, hlt, rfl, e6⟩
    · rw [List.drop_eq_getElem_cons hlt] at q
      obtain ⟨ex, fz⟩ := h3 i _ (List.getElem?_eq_getElem hlt) v H' hy
      have q' := M.wp_bind.mp (M.wp_bind.mp q)
      refine ⟨{ w1 with H := H' }, ρ1, _, rfl, lb.trans (.ext ex), s1.ext ex, fz, M.wp_mono q' (fun ρ2 q σ2 w2 l2 s2 _ => ?_) fun _ z => z⟩
      have l12 : Le w1 w2 := (Le.ext ex).trans l2
      refine ⟨w2, ρ2, rfl, lb.trans l12, s2, M.wp_mono q (fun f q => ?_) fun _ z => z⟩
      obtain ⟨f, ρ3⟩ := f
      cases f with
      | nx => exact fun σ' w' l' s' => ⟨w', ρ3, rfl, lb.trans (l12.trans l'), lw.trans (l12.trans l'), l1.trans (l12.trans l'), s', q⟩
      | ct => exact fun σ' w' l' s' => ⟨w', ρ3, rfl, lb.trans (l12.trans l'), lw.trans (l12.trans l'), l1.trans (l12.trans l'), s', q⟩
      | bk => exact fun σ' w' l' s' => q σ' w' (lw.trans (l12.trans l')) s'
      | rt x => exact fun v σ' w' l' ok f => q v σ' w' (lw.trans (l12.trans l')) ok f
      | rw x => exact fun v σ' w' l' ok f => q v σ' w' (lw.trans (l12.trans l')) ok f
  · left
    have e : i = r.1.length := by omega
    subst e
    rw [List.drop_length] at q
    exact ⟨h2, q σ1 w1 lw s1⟩
theorem ds_while {c : Expr} {gc : G Bool} (hp : PassesOwn (model X.prog X.w) X.A X.env X.xe) (hc : DT X C c gc) (hb : DSs X C body gb) : DS X C (.While c body [] pos) (gWhile gc gb) := PS.imp (ps_while hp hc hb) fun E σ H ⟨w, ρ, hw, l, sr, q⟩ => by
  refine ⟨fun m σ H => ∃ (w1 : Wd) (ρ1 : Rho), w1.H = H ∧ Le C.base w1 ∧ Le w w1 ∧ SR X.K w1 σ ρ1 ∧ (whileD gc gb m ρ1).wp (PostS X.K E w) C.Ex, ⟨FUEL, w, ρ, hw, l, .refl, sr, q⟩, ?_⟩
  rintro m σ1 H1 ⟨w1, ρ1, rfl, lb, lw, s1, q⟩
  cases m with
  | zero => exact q.elim
  | succ m =>
    refine ⟨w1, ρ1, rfl, lb, s1, M.wp_mono (M.wp_bind.mp q) (fun r q w2 l2 s2 => ?_) fun _ z => z⟩
    by_cases e : r.1 = true
    · rw [if_pos e] at q ⊢
      refine ⟨fun σ' H' => ∃ (w1 : Wd) (ρ1 : Rho), w1.H = H' ∧ Le C.base w1 ∧ Le w w1 ∧ SR X.K w1 σ' ρ1 ∧ (whileD gc gb m ρ1).wp (PostS X.K E w) C.Ex, fun σ' H' hN => ⟨m, Nat.lt_succ_self m, hN⟩, w2, r.2, rfl, lb.trans l2, s2, M.wp_mono (M.wp_bind.mp q) (fun f q => ?_) fun _ z => z⟩
      obtain ⟨f, ρ3⟩ := f
      cases f with
      | nx => exact fun σ' w' l' s' => ⟨w', ρ3, rfl, lb.trans (l2.trans l'), lw.trans (l2.trans l'), s', q⟩
      | ct => exact fun σ' w' l' s' => ⟨w', ρ3, rfl, lb.trans (l2.trans l'), lw.trans (l2.trans l'), s', q⟩
      | bk => exact fun σ' w' l' s' => q σ' w' (lw.trans (l2.trans l')) s'
      | rt x => exact fun v σ' w' l' ok f => q v σ' w' (lw.trans (l2.trans l')) ok f
      | rw x => exact fun v σ' w' l' ok f => q v σ' w' (lw.trans (l2.trans l')) ok f
    · rw [if_neg e] at q ⊢
      exact q σ1 w2 (lw.trans l2) s2
end

/-! ### comprehensions -/
/-- what raises within a comprehension is not known -/
def M.nox {α : Type} : M α → M α
  | .ret a => .ret a
  | .exc _ => .stuck
  | .stuck => .stuck
  | .draw n k => .draw n fun i => (k i).nox
theorem M.wp_nox {α : Type} {Q : α → Prop} {E : Exc → Prop} : ∀ {m : M α}, m.nox.wp Q E → m.wp Q fun _ => False
  | .ret _, h => h
  | .exc _, h => h
  | .stuck, h => h
  | .draw _ k, h => fun i h0 h1 => M.wp_nox (h i h0 h1)
def clr (vs : List Nat) (ρ : Rho) : Rho := vs.foldl (fun ρ i => ρ.set i .un) ρ
def rst1 (o : Option W) (i : Nat) (ρ : Rho) : Rho := match o with
  | some (.d x) => ρ.set i (.d x)
  | _ => ρ
def rst (vs : List Nat) (ρ0 ρ : Rho) : Rho := vs.foldl (fun ρ i => rst1 ρ0[i]? i ρ) ρ
def gYes : G Bool := fun ρ => .ret (true, ρ)
def lcD (vs : List Nat) (tg : D → Rho → M Rho) (tt : G Bool) (elt : G D) : List D → Rho → M (List D × Rho)
  | [], ρ => .ret ([], ρ)
  | x :: xs, ρ => (tg x ρ).bind fun ρ1 => (tt ρ1).bind fun b => if b.1 = true then (elt b.2).bind fun y => (lcD vs tg tt elt xs (clr vs y.2)).bind fun r => .ret (y.1 :: r.1, r.2)
    else lcD vs tg tt elt xs (clr vs b.2)
def gLc (vs : List Nat) (src : G (List D)) (tg : D → Rho → M Rho) (tt : G Bool) (elt : G D) : G D := fun ρ => (src ρ).bind fun r => if r.1.length ≤ 16777216 then
    ((lcD vs tg tt elt r.1 (clr vs r.2)).nox).bind fun s => .ret (.list s.1, rst vs r.2 s.2) else .stuck

section
variable {K : PySem.W.Frag} {w : Wd} {σ σ' : L2.St} {ρ ρ0 : Rho}
theorem wipe_get : ∀ (vs : List Nat) (σ : L2.St) (i : Nat), i ∉ vs → (wipe σ vs)[i]? = σ[i]?
  | [], σ, i, _ => rfl
  | v :: vs, σ, i, h => by
    have h1 : i ≠ v := fun z => h (by simp [z])
    have h2 : i ∉ vs := fun z => h (by simp [z])
    show ((wipe σ vs).set v none)[i]? = σ[i]?
    rw [List.getElem?_set_ne (Ne.symm h1), wipe_get vs _ i h2]
theorem wipe_len (vs : List Nat) (σ : L2.St) : (wipe σ vs).length = σ.length := wipe_length σ vs
theorem wipe_in : ∀ (vs : List Nat) (σ : L2.St) (i : Nat), i ∈ vs → i < σ.length → (wipe σ vs)[i]? = some none
  | v :: vs, σ, i, h, hl => by
    show ((wipe σ vs).set v none)[i]? = some none
    by_cases h2 : i = v
    · subst h2
      exact List.getElem?_set_self (by rw [wipe_len]; exact hl)
    · rw [List.getElem?_set_ne (Ne.symm h2)]
      exact wipe_in vs σ i (by simpa [h2] using h) hl
theorem wipe_eq {vs : List Nat} (h : ∀ i, i ∉ vs → σ'[i]? = σ[i]?) (hl : σ'.length = σ.length) : wipe σ' vs = wipe σ vs := by
  apply List.ext_getElem?
  intro i
  by_cases hi : i ∈ vs
  · by_cases hlt : i < σ.length
    · rw [wipe_in vs σ i hi hlt, wipe_in vs σ' i hi (by omega)]
    · rw [List.getElem?_eq_none_iff.mpr (by rw [wipe_len]; omega), List.getElem?_eq_none_iff.mpr (by rw [wipe_len]; omega)]
  · rw [wipe_get vs σ i hi, wipe_get vs σ' i hi, h i hi]
theorem clr_len : ∀ (vs : List Nat) (ρ : Rho), (clr vs ρ).length = ρ.length
  | [], ρ => rfl
  | v :: vs, ρ => by
    show (clr vs (ρ.set v .un)).length = ρ.length
    rw [clr_len vs, List.length_set]
theorem clr_get : ∀ (vs : List Nat) (ρ : Rho) (i : Nat), i ∉ vs → (clr vs ρ)[i]? = ρ[i]?
  | [], ρ, i, _ => rfl
  | v :: vs, ρ, i, h => by
    have h1 : i ≠ v := fun z => h (by simp [z])
    have h2 : i ∉ vs := fun z => h (by simp [z])
    show (clr vs (ρ.set v .un))[i]? = ρ[i]?
    rw [clr_get vs _ i h2, List.getElem?_set_ne (Ne.symm h1)]
theorem clr_in : ∀ (vs : List Nat) (ρ : Rho) (i : Nat) (x : W), i ∈ vs → (clr vs ρ)[i]? = some x → x = .un
  | v :: vs, ρ, i, x, h, e => by
    have e' : (clr vs (ρ.set v .un))[i]? = some x := e
    by_cases h2 : i ∈ vs
    · exact clr_in vs _ i x h2 e'
    · rw [clr_get vs _ i h2] at e'
      have : i = v := by simpa [h2] using h
      subst this
      have hl := (List.getElem?_eq_some_iff.mp e').1
      rw [List.length_set] at hl
      rw [List.getElem?_set_self hl] at e'
      exact (Option.some.inj e').symm
theorem SR.clr (vs : List Nat) (s : SR K w σ ρ) : SR K w σ (clr vs ρ) := by
  induction vs generalizing ρ with
  | nil => exact s
  | cons v vs ih => exact ih (s.unset (i := v))
/-- where the names at vs are free, what stands at them does not matter -/
theorem SR.swap {vs : List Nat} (s : SR K w σ ρ) (hu : ∀ i x, i ∈ vs → ρ[i]? = some x → x = .un) (h : ∀ i, i ∉ vs → σ'[i]? = σ[i]?) (hl : σ'.length = σ.length) : SR K w σ' ρ where
  ok := s.ok
  len := hl.trans s.len
  slot := fun i x q => by
    by_cases hi : i ∈ vs
    · rw [hu i x hi q]; exact .un
    · rw [h i hi]; exact s.slot i x q
  dis := fun i j t u x y a hij q1 q2 e => by
    have hi : i ∉ vs := fun z => by have := hu i _ z q1; cases this
    have hj : j ∉ vs := fun z => by have := hu j _ z q2; cases this
    rw [h i hi] at e
    rw [h j hj]
    exact s.dis i j t u x y a hij q1 q2 e
theorem rst_len (vs : List Nat) (ρ0 : Rho) : ∀ ρ : Rho, (rst vs ρ0 ρ).length = ρ.length := by
  induction vs with
  | nil => intro ρ; rfl
  | cons v vs ih =>
    intro ρ
    show (rst vs ρ0 (rst1 ρ0[v]? v ρ)).length = ρ.length
    rw [ih]
    unfold rst1
    split
    · rw [List.length_set]
    · rfl
theorem set_self {v : V} {i : Nat} (h : σ[i]? = some (some v)) : σ.set i (some v) = σ := by
  apply List.ext_getElem?
  intro j
  by_cases ej : j = i
  · subst ej
    have hj : j < σ.length := (List.getElem?_eq_some_iff.mp h).1
    rw [List.getElem?_set_self hj, h]
  · rw [List.getElem?_set_ne (Ne.symm ej)]
theorem SR.rst {w0 : Wd} (vs : List Nat) (s0 : SR K w0 σ ρ0) (l : Le w0 w) : ∀ {ρ : Rho}, SR K w σ ρ → SR K w σ (rst vs ρ0 ρ) := by
  induction vs with
  | nil => intro ρ s; exact s
  | cons v vs ih =>
    intro ρ s
    show SR K w σ (DL.rst vs ρ0 (rst1 ρ0[v]? v ρ))
    apply ih
    unfold rst1
    split
    · rename_i x hx
      have hs := s0.slot v _ hx
      revert hs
      generalize hv : σ[v]?.join = o
      intro hs
      cases hs with
      | d f =>
        have := s.setD (i := v) (f.keep l.keep)
        rwa [set_self (join_some hv)] at this
    · exact s
theorem rst_own : ∀ (vs : List Nat) (ρ0 ρ : Rho) (i t : Nat) (y : D), (DL.rst vs ρ0 ρ)[i]? = some (.own t y) → ρ[i]? = some (.own t y)
  | [], _, _, _, _, _, h => h
  | v :: vs, ρ0, ρ, i, t, y, h => by
    have h' : (DL.rst vs ρ0 (rst1 ρ0[v]? v ρ))[i]? = some (.own t y) := h
    have h2 := rst_own vs ρ0 _ i t y h'
    unfold rst1 at h2
    split at h2
    · by_cases e : i = v
      · subst e
        have hl := (List.getElem?_eq_some_iff.mp h2).1
        rw [List.length_set] at hl
        rw [List.getElem?_set_self hl] at h2
        cases h2
      · rwa [List.getElem?_set_ne (Ne.symm e)] at h2
    · exact h2
/-- nobody else's, while others run -/
def Wd.prot (w : Wd) (a : Addr) : Wd := { w with Pr := fun b => w.Pr b ∨ b = a }
theorem prot_le {a : Addr} : Le w (w.prot a) := ⟨.refl, fun _ h => h, fun _ h => .inl h, fun _ _ _ e => e, rfl⟩
theorem prot_ok {a : Addr} (ok : w.Ok K) (h1 : w.O a) (h2 : ¬ w.Hd a) : (w.prot a).Ok K := ⟨ok.there, ok.hd, fun b q => q.elim (ok.pr b) fun z => by subst z; exact ⟨h1, h2⟩⟩
theorem SR.prot {a : Addr} (s : SR K w σ ρ) (h1 : w.O a) (h2 : ¬ w.Hd a) (ne : ∀ (i t : Nat) (y : D), ρ[i]? = some (.own t y) → σ[i]? ≠ some (some (.ref a))) : SR K (w.prot a) σ ρ := by
  refine ⟨prot_ok s.ok h1 h2, s.len, fun i x q => ?_, s.dis⟩
  have hs := s.slot i x q
  revert hs
  generalize hv : σ[i]?.join = o
  intro hs
  cases hs with
  | un => exact .un
  | d f => exact .d f
  | ownL g1 g2 g3 g4 g5 g6 => exact .ownL g1 g2 (fun z => z.elim g3 fun z => ne i _ _ q (by rw [join_some hv, z])) g4 g5 g6
  | ownD g1 g2 g3 g4 g5 g6 => exact .ownD g1 g2 (fun z => z.elim g3 fun z => ne i _ _ q (by rw [join_some hv, z])) g4 g5 g6
  | hand f => exact .hand f
  | scr f => exact .scr f
/-- back to what was protected ahead -/
def Wd.unprot (w : Wd) (P : Addr → Prop) : Wd := { w with Pr := P }
theorem unprot_le {w0 : Wd} (l : Le w0 w) : Le w0 (w.unprot w0.Pr) := ⟨l.keep, l.hd, fun _ h => h, l.prk, l.ln⟩
theorem unprot_sr {w0 : Wd} (l : Le w0 w) (s : SR K w σ ρ) : SR K (w.unprot w0.Pr) σ ρ := by
  refine ⟨⟨s.ok.there, s.ok.hd, fun b q => s.ok.pr b (l.pr b q)⟩, s.len, fun i x q => ?_, s.dis⟩
  have hs := s.slot i x q
  revert hs
  generalize hv : σ[i]?.join = o
  intro hs
  cases hs with
  | un => exact .un
  | d f => exact .d f
  | ownL g1 g2 g3 g4 g5 g6 => exact .ownL g1 g2 (fun z => g3 (l.pr _ z)) g4 g5 g6
  | ownD g1 g2 g3 g4 g5 g6 => exact .ownD g1 g2 (fun z => g3 (l.pr _ z)) g4 g5 g6
  | hand f => exact .hand f
  | scr f => exact .scr f
/-- the list that is being made grows -/
theorem grow_ok {H' : Hp} {a : Addr} {o : HO} (ok : w.Ok K) (h1 : w.O a) (h2 : ¬ w.Hd a) (e : H' = upd w.H a o) : ({ w with H := H' } : Wd).Ok K ∧ Keep w.O w.H w.O H' := by
  subst e
  have k : Keep w.O w.H w.O (upd w.H a o) := fun b u e n => ⟨by rw [upd_ne (fun z => n (by rw [z]; exact h1))]; exact e, n⟩
  refine ⟨⟨fun b q => ?_, fun b q => ⟨(ok.hd b q).1, (ok.hd b q).2.keep k fun u e => by rw [show ({ w with H := upd w.H a o } : Wd).H b = w.H b from upd_ne (fun z => h2 (by rw [← z]; exact q))]; exact e⟩, ok.pr⟩, k⟩
  by_cases z : b = a
  · subst z; exact ⟨o, upd_same⟩
  · obtain ⟨u, e⟩ := ok.there b q; exact ⟨u, by rw [show ({ w with H := upd w.H a o } : Wd).H b = w.H b from upd_ne z]; exact e⟩
theorem grow_sr {a : Addr} {o : HO} (s : SR K w σ ρ) (h1 : w.O a) (h2 : ¬ w.Hd a) (ne : ∀ (i t : Nat) (y : D), ρ[i]? = some (.own t y) → σ[i]? ≠ some (some (.ref a))) : SR K { w with H := upd w.H a o } σ ρ := by
  obtain ⟨ok, k⟩ := grow_ok (o := o) s.ok h1 h2 rfl
  refine ⟨ok, s.len, fun i x q => ?_, s.dis⟩
  have hs := s.slot i x q
  revert hs
  generalize hv : σ[i]?.join = v
  intro hs
  cases hs with
  | un => exact .un
  | d f => exact .d (f.keep k)
  | ownL g1 g2 g3 g4 g5 g6 =>
    rename_i b t vs xs
    have nb : b ≠ a := fun z => ne i _ _ q (by rw [join_some hv, z])
    exact .ownL g1 g2 g3 (by rw [show ({ w with H := upd w.H a o } : Wd).H b = w.H b from upd_ne nb]; exact g4) (g5.keep k) g6
  | ownD g1 g2 g3 g4 g5 g6 =>
    rename_i b t ks vs xs
    have nb : b ≠ a := fun z => ne i _ _ q (by rw [join_some hv, z])
    have eb : ({ w with H := upd w.H a o } : Wd).H b = w.H b := upd_ne nb
    refine .ownD g1 g2 g3 ?_ (g5.keep k) g6
    rcases g4 with ⟨kvs, h, r⟩ | ⟨kvs, h, r⟩
    · exact .inl ⟨kvs, eb.trans h, r⟩
    · exact .inr ⟨kvs, eb.trans h, r⟩
  | hand f => exact .hand f
  | scr f => exact .scr (f.keep k)
end

section
variable {X : Cx} {C : Ct} {e it tg elt : Expr} {pos : Pos} {ga ge : G D} {src : G (List D)} {ts : List Nat} {t : D → Rho → M Rho} {tt : G Bool}
/-- within a comprehension nothing may be raised -/
def Ct.nox (C : Ct) : Ct := { C with Ex := fun _ => False }
theorem takes_blk {X : Cx} (hx : X.xe = fun _ _ => False) : Takes X (WDx X.K C.nox) := fun u s' x => by
  obtain ⟨_, _, _, _, _, _, _, _, _, _, _, _, _, _, _, _, z⟩ := x
  obtain ⟨_, _, _, _, _, _, z⟩ := z
  exact z.elim
/-- the tests of a comprehension -/
abbrev DTs (X : Cx) (C : Ct) (es : List Expr) (g : G Bool) : Prop := PTs X es (TB X.K C g)
theorem PTs.imp {es : List Expr} {t t' : TT} (h : PTs X es t) (i : ∀ σ H Q, t' σ H Q → t σ H Q) : PTs X es t' := ⟨fun pins s σ H Q I q => h.run pins s σ H Q I (i _ _ _ q)⟩
theorem dts_nil : DTs X C [] gYes := PTs.imp pts_nil fun σ H Q ⟨w, ρ, hw, l, sr, q⟩ => by subst hw; exact q w .refl sr
theorem dts_one {c : Expr} {g : G Bool} (h : DT X C c g) : DTs X C [c] g := pts_one h

theorem lc_go {vs : List Nat} {σ : L2.St} {H : Hp} {Q : VK} (hts : ∀ i ∈ ts, i ∈ vs) (h : TX X.K C (RW X.K) (gLc vs src t tt ge) σ H Q) :
    tLc (TIm X.K C src) (TGm X.K C.nox ts t) (TB X.K C.nox tt) (TX X.K C.nox (RD X.K) ge) vs σ H Q := by
  obtain ⟨w, ρ, hw, l, sr, q⟩ := h
  refine ⟨w, ρ, hw, l, sr, M.wp_mono (M.wp_bind.mp q) (fun r q w0 J l0 s0 hJ => ?_) fun _ z => z⟩
  have hz : r.1.length ≤ 16777216 := by
    by_cases hz : r.1.length ≤ 16777216
    · exact hz
    · rw [if_neg hz] at q; exact q.elim
  rw [if_pos hz] at q
  have q := M.wp_nox (M.wp_bind.mp q)
  intro D hD
  -- the invariant
  refine ⟨fun i m H => ∃ (w1 : Wd) (ρ1 : Rho) (acc : List V) (ax : List DL.D), w1.H = H ∧ Le w0 w1 ∧ w1.Pr D ∧ H D = some (.lst acc) ∧ FzL X.K w1.O w1.H acc ax ∧ SR X.K w1 (wipe σ vs) (clr vs ρ1) ∧ SR X.K w1 σ (clr vs ρ1) ∧ i ≤ r.1.length ∧ m = r.1.length - i ∧ ax.length ≤ i ∧
      (lcD vs t tt ge (r.1.drop i) (clr vs ρ1)).wp (fun s => ∀ v (w' : Wd), Le w w' → SR X.K w' σ (rst vs r.2 s.2) → RW X.K w' σ (rst vs r.2 s.2) v (.list (ax ++ s.1)) → Q v w'.H) fun _ => False, ?_, ?_⟩
  · have hne := s0.ok.ne hD
    have sa := s0.alloc (o := .lst []) hD
    have o1 : (w0.alloc D (.lst [])).O D := .inr rfl
    have o2 : ¬ (w0.alloc D (.lst [])).Hd D := fun z => hne (s0.ok.hd D z).1
    have ne : ∀ (i t : Nat) (y : DL.D), r.2[i]? = some (.own t y) → σ[i]? ≠ some (some (.ref D)) := fun i t y hq he => by
      obtain ⟨a, e1, h1, _⟩ := (s0.slot i _ hq).own_at
      rw [he] at e1; cases e1
      exact hne h1
    have sp := (sa.prot o1 o2 ne).clr vs
    refine ⟨_, (w0.alloc D (.lst [])).prot D, r.2, [], [], rfl, (alloc_le hD s0.ok).trans prot_le, .inr rfl, upd_same, .nil, sp.swap (fun i x hi hx => clr_in vs _ i x hi hx) (fun i hi => wipe_get vs σ i hi) (wipe_len vs σ), sp, Nat.zero_le _, rfl, Nat.zero_le _, ?_⟩
    exact q
  rintro i m H1 ⟨w1, ρ1, acc, ax, rfl, l1, pD, hA, fA, s1, s1', hi, rfl, hax, q⟩
  obtain ⟨h1, h2, h3⟩ := hJ w1 l1
  have nD : ¬ w1.Hd D := (s1.ok.pr D pD).2
  have oD : w1.O D := (s1.ok.pr D pD).1
  by_cases hlt : i < r.1.length
  · right
    refine ⟨h1 i hlt, fun H' => ∃ (w1 : Wd) (ρ1 : Rho) (acc : List V) (ax : List DL.D), w1.H = H' ∧ Le w0 w1 ∧ w1.Pr D ∧ H' D = some (.lst acc) ∧ FzL X.K w1.O w1.H acc ax ∧ SR X.K w1 (wipe σ vs) (clr vs ρ1) ∧ SR X.K w1 σ (clr vs ρ1) ∧ ax.length ≤ i + 1 ∧
      (lcD vs t tt ge (r.1.drop (i + 1)) (clr vs ρ1)).wp (fun s => ∀ v (w' : Wd), Le w w' → SR X.K w' σ (rst vs r.2 s.2) → RW X.K w' σ (rst vs r.2 s.2) v (.list (ax ++ s.1)) → Q v w'.H) fun _ => False, fun H' hN => ?_, fun v H' hy => ?_⟩
    · obtain ⟨w2, ρ2, acc2, ax2, e1, e2, e3, e4, e5, e6, e7, e8, e9⟩ := hN
      exact ⟨r.1.length - (i + 1), by omega, w2, ρ2, acc2, ax2, e1, e2, e3, e4, e5, e6, e7, hlt, rfl, e8, e9⟩
    · rw [List.drop_eq_getElem_cons hlt] at q
      obtain ⟨ex, fz⟩ := h3 i _ (List.getElem?_eq_getElem hlt) v H' hy
      have q' := M.wp_bind.mp q
      have lB : ∀ {w2 : Wd}, Le w0 w2 → Le C.base w2 := fun l2 => l.trans (l0.trans l2)
      have le1 : Le w1 { w1 with H := H' } := .ext ex
      refine ⟨{ w1 with H := H' }, clr vs ρ1, _, rfl, lB (l1.trans le1), s1.ext ex, fz, M.wp_mono q' (fun ρ2 q σ2 w2 l2 s2 o2 => ?_) fun _ z => z⟩
      have l12 : Le w1 w2 := le1.trans l2
      have e2 : ∀ i, i ∉ vs → σ2[i]? = (wipe σ vs)[i]? := fun i hi => o2.1 i fun z => hi (hts i z)
      have hlen : σ2.length = (wipe σ vs).length := o2.2
      have ew : wipe σ2 vs = wipe σ vs := by
        rw [wipe_eq e2 hlen]
        exact wipe_eq (fun i hi => wipe_get vs σ i hi) (wipe_len vs σ)
      refine ⟨ew, w2, ρ2, rfl, lB (l1.trans l12), s2, M.wp_mono (M.wp_bind.mp q) (fun b q w3 l3 s3 => ?_) fun _ z => z⟩
      have l13 : Le w1 w3 := l12.trans l3
      have back : ∀ {w4 : Wd} {ρ4 : Rho}, SR X.K w4 σ2 ρ4 → SR X.K w4 (wipe σ vs) (clr vs ρ4) ∧ SR X.K w4 σ (clr vs ρ4) := fun s4 => by
        have s5 := s4.clr vs
        exact ⟨s5.swap (fun i x hi hx => clr_in vs _ i x hi hx) (fun i hi => (e2 i hi).symm) hlen.symm, s5.swap (fun i x hi hx => clr_in vs _ i x hi hx) (fun i hi => ((e2 i hi).trans (wipe_get vs σ i hi)).symm) (by rw [hlen, wipe_len])⟩
      dsimp only
      by_cases eb : b.1 = true
      · rw [if_pos eb] at q ⊢
        refine ⟨w3, b.2, rfl, lB (l1.trans l13), s3, M.wp_mono (M.wp_bind.mp q) (fun y q v4 w4 l4 s4 f4 => ?_) fun _ z => z⟩
        have l14 : Le w1 w4 := l13.trans l4
        have hD4 : w4.H D = some (.lst acc) := l14.prk D _ pD hA
        have p4 : w4.Pr D := l14.pr D pD
        have nD4 : ¬ w4.Hd D := (s4.ok.pr D p4).2
        have oD4 : w4.O D := (s4.ok.pr D p4).1
        refine ⟨acc, hD4, ?_, ?_⟩
        · have := fA.length
          rw [sizeLine_eq]
          omega
        · obtain ⟨b1, b2⟩ := back s4
          have gk := grow_ok (o := .lst (acc ++ [v4])) s4.ok oD4 nD4 rfl
          have l05 : Le w0 { w4 with H := upd w4.H D (.lst (acc ++ [v4])) } :=
            ⟨(l1.trans l14).keep.trans gk.2, (l1.trans l14).hd, (l1.trans l14).pr, (fun a o ha he => by
              have na : a ≠ D := fun z => by rw [z, hD] at he; cases he
              rw [show ({ w4 with H := upd w4.H D (.lst (acc ++ [v4])) } : Wd).H a = w4.H a from upd_ne na]
              exact (l1.trans l14).prk a o ha he), (l1.trans l14).ln⟩
          have nown : ∀ {σ0 : L2.St} {ρ0 : Rho}, SR X.K w4 σ0 ρ0 → ∀ (i t : Nat) (y : DL.D), ρ0[i]? = some (.own t y) → σ0[i]? ≠ some (some (.ref D)) := fun s0' i t y hq he => by
            obtain ⟨a, e1, _, _, h3, _⟩ := (s0'.slot i _ hq).own_at
            rw [he] at e1; cases e1
            exact h3 p4
          have f5 : FzL X.K w4.O (upd w4.H D (.lst (acc ++ [v4]))) (acc ++ [v4]) (ax ++ [y.1]) := ((fA.keep l14.keep).append (.cons f4 .nil)).keep gk.2
          refine ⟨{ w4 with H := upd w4.H D (.lst (acc ++ [v4])) }, y.2, acc ++ [v4], ax ++ [y.1], rfl, l05, p4, upd_same, f5, grow_sr b1 oD4 nD4 (nown b1), grow_sr b2 oD4 nD4 (nown b2), by rw [List.length_append, List.length_singleton]; omega, M.wp_mono (M.wp_bind.mp q) (fun r2 q => ?_) fun _ z => z⟩
          rw [List.append_assoc]
          exact q
      · rw [if_neg eb] at q ⊢
        obtain ⟨b1, b2⟩ := back s3
        exact ⟨w3, b.2, acc, ax, rfl, l1.trans l13, l13.pr D pD, l13.prk D _ pD hA, fA.keep l13.keep, b1, b2, Nat.le_succ_of_le hax, q⟩
  · left
    have e : i = r.1.length := by omega
    subst e
    rw [List.drop_length] at q
    refine ⟨h2, ?_⟩
    have sF := s0.rst vs l1 s1'
    have q2 := q (.ref D) (w1.unprot w0.Pr) (l0.trans (unprot_le l1)) (unprot_sr l1 (SR.rst vs s0 l1 s1'))
    rw [List.append_nil] at q2
    refine q2 ⟨D, rfl, .ownL oD nD ?_ hA fA (.inl rfl), fun i t y hq he => ?_⟩
    · intro z
      exact s0.ok.ne hD (s0.ok.pr D z).1
    · have hq' := rst_own vs r.2 _ i t y hq
      obtain ⟨a, e1, _, _, h3, _⟩ := (s1'.slot i _ hq').own_at
      rw [he] at e1; cases e1
      exact h3 pD
theorem dn_lc {ifs : List Expr} {scope : Scope} {own : List (Str × Nat)} {vs : List Nat} (hc : X.calm = true) (hN : X.N.Nodup) (hi : DI X C tg it src) (ok : BlkOk X.N X.env.scope scope own)
    (hg : ∀ (s : Shared) (H : Hp) (Cc : Addr) (cl : List (Str × Addr)) (fp : List Addr), DG (X.blk s H scope (compEnvC scope cl Cc X.env) fp) C.nox tg ts t) (ht : ∀ (s : Shared) (H : Hp) (Cc : Addr) (cl : List (Str × Addr)) (fp : List Addr), DTs (X.blk s H scope (compEnvC scope cl Cc X.env) fp) C.nox ifs tt)
    (he : ∀ (s : Shared) (H : Hp) (Cc : Addr) (cl : List (Str × Addr)) (fp : List Addr), DE (X.blk s H scope (compEnvC scope cl Cc X.env) fp) C.nox elt ge) (hvs : own.map (·.2) = vs := by rfl) (hts : ∀ i ∈ ts, i ∈ vs := by decide) (hs : ∀ x, foldedSetIterable it X.env x = pure x := by intro _; rfl) :
    DN X C (.ListComp elt [⟨tg, it, ifs, 0⟩] scope pos) (gLc vs src t tt ge) := by
  subst hvs
  exact PE.imp (pe_lc hc hN hi ok hg ht he hs) fun _ _ _ h => lc_go hts h
theorem ds_setLc {i : Nat} {y : Str} {py spos : Pos} {ifs : List Expr} {scope : Scope} {own : List (Str × Nat)} {vs : List Nat} (hc : X.calm = true) (hN : X.N.Nodup) (hy : X.N[i]? = some y) (hyl : X.env.scope.names.lookup y = some .local)
    (hsw : swapsWith (.ListComp elt [⟨tg, it, ifs, 0⟩] scope pos) (some (.Name y py)) spos.line X.env = pure true) (hi : DI X C tg it src) (ok : BlkOk X.N X.env.scope scope own)
    (hg : ∀ (s : Shared) (H : Hp) (Cc : Addr) (cl : List (Str × Addr)) (fp : List Addr), DG (X.blk s H scope (compEnvC scope cl Cc X.env) fp) C.nox tg ts t) (ht : ∀ (s : Shared) (H : Hp) (Cc : Addr) (cl : List (Str × Addr)) (fp : List Addr), DTs (X.blk s H scope (compEnvC scope cl Cc X.env) fp) C.nox ifs tt)
    (he : ∀ (s : Shared) (H : Hp) (Cc : Addr) (cl : List (Str × Addr)) (fp : List Addr), DE (X.blk s H scope (compEnvC scope cl Cc X.env) fp) C.nox elt ge) (hvs : own.map (·.2) = vs := by rfl) (hts : ∀ i ∈ ts, i ∈ vs := by decide) (hs : ∀ x, foldedSetIterable it X.env x = pure x := by intro _; rfl) :
    DS X C (.Assign [.Name y py] (.ListComp elt [⟨tg, it, ifs, 0⟩] scope pos) spos) (gSetW i (gLc vs src t tt ge)) := by
  subst hvs
  exact PS.imp (ps_setLc hc hN hy hyl hsw hi ok hg ht he hs) fun E σ H h => by
    obtain ⟨w, ρ, hw, l, sr, q⟩ := h
    exact lc_go hts ⟨w, ρ, hw, l, sr, M.wp_mono (M.wp_bind.mp q) (fun r q v w' l' s' f => q _ w' l' (s'.setW f)) fun _ z => z⟩
end
end DL

/-! DL6: calls of defs, what a def promises -/
namespace DL
open PySem PySem.Spec PyProof.Rows L2

inductive ArgR (K : PySem.W.Frag) (w : Wd) : V → W → Prop where
  | d {v : V} {x : D} : Fz K w.O w.H v x → ArgR K w v (.d x)
  | hand {a : Addr} : w.Hd a → ArgR K w (.ref a) .hand
  | scr {a : Addr} {ns : List Int} : QS K w.O w.H a (ns.map V.int) → ArgR K w (.ref a) (.scr ns)
inductive ArgsR (K : PySem.W.Frag) (w : Wd) : List V → List W → Prop where
  | nil : ArgsR K w [] []
  | cons {v : V} {x : W} {vs : List V} {xs : List W} : ArgR K w v x → ArgsR K w vs xs → ArgsR K w (v :: vs) (x :: xs)
def RA (K : PySem.W.Frag) : RT W := fun w _ _ v x => ArgR K w v x
def TLw (K : PySem.W.Frag) (C : Ct) (g : G (List W)) : TA := fun σ H Q => ∃ (w : Wd) (ρ : Rho), w.H = H ∧ Le C.base w ∧ SR K w σ ρ ∧
  (g ρ).wp (fun r => ∀ vs (w' : Wd), Le w w' → SR K w' σ r.2 → ArgsR K w' vs r.1 → Q vs w'.H) C.Ex
abbrev DX (X : Cx) (C : Ct) (e : Expr) (g : G W) : Prop := PE X e (TX X.K C (RA X.K) g)
abbrev DC (X : Cx) (C : Ct) (es : List Expr) (g : G (List W)) : Prop := PA X es (TLw X.K C g)
def gX (a : G D) : G W := fun ρ => (a ρ).bind fun r => .ret (.d r.1, r.2)
def gHd (i : Nat) : G W := fun ρ => match ρ[i]? with
  | some .hand => .ret (.hand, ρ)
  | _ => .stuck
def gC0 : G (List W) := fun ρ => .ret ([], ρ)
def gCs (a : G W) (b : G (List W)) : G (List W) := fun ρ => (a ρ).bind fun r => (b r.2).bind fun s => .ret (r.1 :: s.1, s.2)
def gCall (np : Nat) (m : List W → M D) (a : G (List W)) : G D := fun ρ => (a ρ).bind fun r => if r.1.length = np then (m r.1).bind fun x => .ret (x, r.2) else .stuck
/-- a def's promise: what m says of its arguments -/
def spD (K : PySem.W.Frag) (cl : Str → Option Addr) (np : Nat) (m : List W → M D) : Sp := fun vs H Q E => ∃ (w : Wd) (ws : List W), w.H = H ∧ w.Ok K ∧ ArgsR K w vs ws ∧ ws.length = np ∧
  (m ws).wp (fun x => ∀ v (w' : Wd), Le w w' → w'.Ok K → Fz K w'.O w'.H v x → Q v w'.H) (fun e => ∀ cls d (w' : Wd), Le w w' → w'.Ok K → ExcR cl w'.H e cls d → E cls d w'.H)
/-- a body as a function of its arguments -/
def fnM (n : Nat) (g : G Fl) : List W → M D := fun ws => (g (ws ++ List.replicate (n - ws.length) .un)).bind fun r => match r.1 with
    | .rt x => .ret x
    | .nx => .ret .none
    | _ => .stuck

section
variable {K : PySem.W.Frag} {w w' : Wd} {σ : L2.St} {ρ : Rho}
theorem ArgR.le {v : V} {x : W} (l : Le w w') (h : ArgR K w v x) : ArgR K w' v x := by
  cases h with
  | d f => exact .d (f.keep l.keep)
  | hand f => exact .hand (l.hd _ f)
  | scr f => exact .scr (f.keep l.keep)
theorem ArgsR.length : ∀ {vs : List V} {xs : List W}, ArgsR K w vs xs → vs.length = xs.length
  | _, _, .nil => rfl
  | _, _, .cons _ t => by simp [ArgsR.length t]
theorem ArgR.fz {P : Addr → Prop} {v : V} {x : W} (h : ArgR K w v x) : ArgR K { w with Pr := P } v x := by
  cases h with
  | d f => exact .d f
  | hand f => exact .hand f
  | scr f => exact .scr f
theorem ArgsR.fz {P : Addr → Prop} : ∀ {vs : List V} {xs : List W}, ArgsR K w vs xs → ArgsR K { w with Pr := P } vs xs
  | _, _, .nil => .nil
  | _, _, .cons h t => .cons h.fz (ArgsR.fz t)
/-- what a callee is to keep off -/
def Wd.callee (w : Wd) : Wd := { w with Pr := fun a => w.Pr a ∨ (w.O a ∧ ¬ w.Hd a) }
theorem callee_le : Le w w.callee := ⟨.refl, fun _ h => h, fun _ h => .inl h, fun _ _ _ e => e, rfl⟩
theorem callee_ok (ok : w.Ok K) : w.callee.Ok K := ⟨ok.there, ok.hd, fun a q => q.elim (ok.pr a) id⟩
theorem callee_back (ok : w.Ok K) (ok' : w'.Ok K) (l : Le w.callee w') (s : SR K w σ ρ) : SR K (w'.unprot w.Pr) σ ρ := by
  have l0 : Le w w' := callee_le.trans l
  refine ⟨⟨ok'.there, ok'.hd, fun b q => ok'.pr b (l0.pr b q)⟩, s.len, fun i x q => ?_, s.dis⟩
  have hs := s.slot i x q
  revert hs
  generalize hv : σ[i]?.join = o
  intro hs
  cases hs with
  | un => exact .un
  | d f => exact .d (f.keep l0.keep)
  | ownL g1 g2 g3 g4 g5 g6 =>
    have p := ok'.pr _ (l.pr _ (.inr ⟨g1, g2⟩))
    exact .ownL p.1 p.2 g3 (l.prk _ _ (.inr ⟨g1, g2⟩) g4) (g5.keep l0.keep) (g6.imp id fun z => z.trans (by rw [show (w'.unprot w.Pr).ln = w'.ln from rfl, l0.ln]))
  | ownD g1 g2 g3 g4 g5 g6 =>
    have p := ok'.pr _ (l.pr _ (.inr ⟨g1, g2⟩))
    refine .ownD p.1 p.2 g3 ?_ (g5.keep l0.keep) (g6.imp id fun z => z.trans (by rw [show (w'.unprot w.Pr).ln = w'.ln from rfl, l0.ln]))
    rcases g4 with ⟨kvs, h, r⟩ | ⟨kvs, h, r⟩
    · exact .inl ⟨kvs, l.prk _ _ (.inr ⟨g1, g2⟩) h, r⟩
    · exact .inr ⟨kvs, l.prk _ _ (.inr ⟨g1, g2⟩) h, r⟩
  | hand f => exact .hand (l0.hd _ f)
  | scr f => exact .scr (f.keep l0.keep)
theorem args_slot : ∀ {vs : List V} {ws : List W}, ArgsR K w vs ws → ∀ (n : Nat) (i : Nat) (x : W), (ws ++ List.replicate n .un)[i]? = some x → SlotR K w ((vs.map some ++ List.replicate n none)[i]?.join) x ∧ ∀ t y, x ≠ .own t y
  | _, _, .nil, n, i, x, h => by
    rw [List.nil_append, List.getElem?_replicate] at h
    split at h
    · cases h; exact ⟨.un, fun t y z => by cases z⟩
    · cases h
  | _, _, .cons a t, n, 0, x, h => by
    cases h
    cases a with
    | d f => exact ⟨.d f, fun t y z => by cases z⟩
    | hand f => exact ⟨.hand f, fun t y z => by cases z⟩
    | scr f => exact ⟨.scr f, fun t y z => by cases z⟩
  | _, _, .cons a t, n, i + 1, x, h => args_slot t n i x h
theorem args_start {vs : List V} {ws : List W} (ok : w.Ok K) (h : ArgsR K w vs ws) (n : Nat) : SR K w (vs.map some ++ List.replicate n none) (ws ++ List.replicate n .un) where
  ok := ok
  len := by simp [h.length]
  slot := fun i x q => (args_slot h n i x q).1
  dis := fun i j t u x y a _ q => absurd rfl ((args_slot h n i _ q).2 t x)
end
/-! ### defs where the guards are known -/
/-- a def's promise, kept where no repr is running -/
structure FnG (P : Program) (w : World) (K : PySem.W.Frag) (mg : Str → Option Value) (base : Heap) (k : Nat) (f : Addr) (fd : FuncData) (ps : List Str) (sp : Sp) : Prop where
  len : ∀ {vs H Q E}, sp vs H Q E → vs.length = ps.length
  run : ∀ {A : Around} {outer : List Env} {s : Shared} {H : Hp} {args : Args} {us : List Value} {vs : List V} {Q : VK} {E : XK}, Room k A → A.guards = some [] → Env0 P w K mg base A outer s H →
    BindsTo s fd args (ps.zip us) → Vals vs us → sp vs H Q E → codeAny (model P w) A (.call (.ref f) args) (CR (L2.CX P w) outer P w H s Q E) s
theorem FnG.mono {P : Program} {w : World} {K : PySem.W.Frag} {mg : Str → Option Value} {base : Heap} {j k : Nat} {f : Addr} {fd : FuncData} {ps : List Str} {sp : Sp} (F : FnG P w K mg base j f fd ps sp) (h : j ≤ k) : FnG P w K mg base k f fd ps sp :=
  ⟨F.len, fun r g e b v s => F.run (r.mono h) g e b v s⟩
section
variable {X : Cx} {k : Nat} {f : Addr} {fd : FuncData} {ps : List Str} {sp : Sp} {E : XK} {x : Str} {p pos : Pos} {e : Expr} {es : List Expr} {t : TA}
theorem pe_callG (F : FnG X.prog X.w X.K X.mg X.base k f fd ps sp) (hr : Room k X.A) (hgd : X.A.guards = some []) (hg : Gl X x) (hm : X.mg x = some (.ref f)) (hk : PySem.W.keepIn X.K (.ref f) = true) (hb : Binds X.K fd ps [])
    (hx : Passes (L2.CX X.prog X.w) X E) (ha : PA X (e :: es) t) (hdb : (x == ("__debug__" : Str)) = false) (he : starEach (e :: es) X.env = (false, eval e X.env) :: starEach es X.env) (hpl : (backTo pos (starEach es X.env)).any (·.1) = false) :
    PE X (.Call (.Name x p) (e :: es) [] pos) (fun σ H Q => t σ H fun vs H1 => sp vs H1 Q E) := ⟨fun pins s σ H Q I h => by
  apply wpAny_Call_Name_kw (ld_glob I hg hm _ hdb)
  apply PySem.W.callWith_K (h₀ := X.base) I.ok.mod.kin hk _ he hpl
  refine thn (ha.run pos pins s σ H _ I h) ?_
  rintro us s1 ⟨vs, H1, J, rv, hs⟩
  refine ⟨J.kIn, ?_⟩
  have len := F.len hs
  have bt := hb s1 us J.kIn (by rw [List.append_nil, ← rv.length, len])
  simp only [List.append_nil] at bt
  refine wpAny_call (codeAny_mono (F.run hr hgd J.env0 bt rv hs) ?_)
  rintro (er | (u | _ | _ | _)) s2 z
  · exact hx pins σ H1 s1 er s2 J z
  all_goals first | exact J.after z | exact (z : False).elim⟩
end
section
variable {P : Program} {w : World} {K : PySem.W.Frag} {mg : Str → Option Value} {base : Heap}
theorem fnG_of {x qual : Str} {st : Stmt} {f : Addr} {fd : FuncData} {N ps : List Str} {k : Nat} {sp : Sp} (F : Fun K x qual st f fd) (S : FnScope N ps (defScope st)) (len : ∀ {vs H Q E}, sp vs H Q E → vs.length = ps.length)
    (hbody : ∀ (cdv : Value) (A : Around) (outer : List Env) (s : Shared) (H : Hp) (vs : List V) (Q : VK) (E : XK), Room k (A.deeper (envOfC qual (defScope st) s.heap.objs.size f cdv)) → A.guards = some [] → sp vs H Q E →
      ∃ t, PSs (cxOf (L2.CX P w) P w K mg base N qual (defScope st) f cdv A outer s H E) (defBody st) t ∧ t { nx := fun _ H' => Q .non H', rt := Q } (L2.start N vs) H) : FnG P w K mg base (k + 1) f fd ps sp := by
  obtain ⟨oc, od, kV, doc, pm, an, cdv, ct, osl, rfl, lk, code⟩ := F.ex
  refine ⟨len, fun {A outer s H args us vs Q E} room gd e0 bd rv hs => ?_⟩
  have K0 : K.In s.heap := e0.mod.kin.keeps (fun b o z => (e0.bs b o z).1)
  have noLim : s.heap.NoLimit := e0.mod.nolimit.keeps (fun b o z => (e0.bs b o z).1)
  refine codeAny_call_function room.depth (K0 _ _ lk) rfl S.co S.gen rfl (PySem.W.codeRec_of K0 code) (bd _ _ _ _ (wpAny_newFunctionEnv_cells S.kind ?_ ?_))
  · rintro ⟨n, v⟩ hy
    exact (S.par n (List.of_mem_zip hy).1).imp id fun c => ⟨c, PySem.W.cellsFrom_some _ _ _ (.inl c)⟩
  · rintro env he s1 ic
    cases he
    refine ⟨noLim.keeps ic.toInCall.keep, codeAny_func ?_⟩
    obtain ⟨t, body, hq⟩ := hbody cdv A outer s H vs Q E (room.deeper _) gd hs
    have J0 := inv_start (CX := L2.CX P w) (E := E) S room.hd e0 (len hs) rv ic
    refine wpAny_mono (body.run [] s1 (L2.start N vs) H _ J0 hq) ?_ fun _ _ z => z
    rintro (u | _ | _ | _) s' h
    all_goals first
      | (obtain ⟨v, σ', H', J, rv', q⟩ := h; exact ⟨v, H', J.os, J.bare, J.base, J.hok, rv', q⟩)
      | (obtain ⟨σ', H', J, q⟩ := h; exact ⟨.non, H', J.os, J.bare, J.base, J.hok, rfl, q⟩)
      | (obtain ⟨_, _, _, q⟩ := h; exact False.elim q)
end

section
variable {X : Cx} {C : Ct} {e : Expr} {es : List Expr} {p pos : Pos}
theorem dx_of {g : G D} (h : DE X C e g) : DX X C e (gX g) := PE.imp h fun σ H Q ⟨w, ρ, hw, l, sr, q⟩ =>
  ⟨w, ρ, hw, l, sr, M.wp_mono (M.wp_bind.mp q) (fun r q v w' l' s' f => q v w' l' s' (.d f)) fun _ z => z⟩
theorem dx_hand (i : Nat) {x : Str} (h : PE X (.Name x pos) (tVar i)) : DX X C (.Name x pos) (gHd i) := PE.imp h fun σ H Q ⟨w, ρ, hw, l, sr, q⟩ => by
  subst hw
  have q' : (match ρ[i]? with
    | some .hand => M.ret (W.hand, ρ)
    | _ => .stuck).wp (fun r => ∀ v (w' : Wd), Le w w' → SR X.K w' σ r.2 → RA X.K w' σ r.2 v r.1 → Q v w'.H) C.Ex := q
  match hx : ρ[i]? with
  | some .hand =>
    rw [hx] at q'
    have hs := sr.slot i _ hx
    revert hs
    generalize hv : σ[i]?.join = o
    intro hs
    cases hs with
    | hand f => exact ⟨_, join_some hv, q' _ w .refl sr (.hand f)⟩
  | none => rw [hx] at q'; exact q'.elim
  | some .un => rw [hx] at q'; exact q'.elim
  | some (.d _) => rw [hx] at q'; exact q'.elim
  | some (.own _ _) => rw [hx] at q'; exact q'.elim
  | some (.fn _) => rw [hx] at q'; exact q'.elim
  | some (.err _) => rw [hx] at q'; exact q'.elim
  | some (.scr _) => rw [hx] at q'; exact q'.elim
theorem dc_nil : DC X C [] gC0 := PA.imp pa_nil fun σ H Q ⟨w, ρ, hw, l, sr, q⟩ => by subst hw; exact q [] w .refl sr .nil
theorem dc_cons {ga : G W} {g : G (List W)} (ha : DX X C e ga) (hr : DC X C es g) (hs : starEach (e :: es) X.env = (false, eval e X.env) :: starEach es X.env := by rfl) : DC X C (e :: es) (gCs ga g) :=
  PA.imp (pa_cons ha hr hs) fun σ H Q ⟨w, ρ, hw, l, sr, q⟩ => by
    refine ⟨w, ρ, hw, l, sr, M.wp_mono (M.wp_bind.mp q) (fun r q v w1 l1 s1 r1 => ?_) fun _ z => z⟩
    refine ⟨w1, r.2, rfl, l.trans l1, s1, M.wp_mono (M.wp_bind.mp q) (fun s q u w2 l2 s2 r2 => ?_) fun _ z => z⟩
    exact q (v :: u) w2 (l1.trans l2) s2 (.cons (ArgR.le l2 r1) r2)
theorem de_call {k np : Nat} {f : Addr} {fd : FuncData} {ps : List Str} {x : Str} {m : List W → M D} {g : G (List W)} (F : FnG X.prog X.w X.K X.mg X.base k f fd ps (spD X.K C.cl np m)) (hr : Room k X.A) (hgd : X.A.guards = some []) (hm : X.mg x = some (.ref f)) (hk : PySem.W.keepIn X.K (.ref f) = true) (hb : Binds X.K fd ps [])
    (tk : Takes X (WDx X.K C)) (ha : DC X C (e :: es) g) (hg : Gl X x := by rfl) (hdb : (x == ("__debug__" : Str)) = false := by decide) (he : starEach (e :: es) X.env = (false, eval e X.env) :: starEach es X.env := by rfl) (hpl : (backTo pos (starEach es X.env)).any (·.1) = false := by rfl) :
    DE X C (.Call (.Name x p) (e :: es) [] pos) (gCall np m g) := by
  refine PE.imp (pe_callG F hr hgd hg hm hk hb (E := fun cls d H => WDx X.K C cls d [] H) (passes_call tk fun _ _ _ _ h => h) ha hdb he hpl) fun σ H Q ⟨w, ρ, hw, l, sr, q⟩ => ?_
  refine ⟨w, ρ, hw, l, sr, M.wp_mono (M.wp_bind.mp q) (fun r q vs w1 l1 s1 r1 => ?_) fun _ z => z⟩
  have hl : r.1.length = np := by
    by_cases h : r.1.length = np
    · exact h
    · rw [if_neg h] at q; exact q.elim
  rw [if_pos hl] at q
  have q := M.wp_bind.mp q
  refine ⟨w1.callee, r.1, rfl, callee_ok s1.ok, r1.fz, hl, M.wp_mono q (fun y q v w' l' ok' f' => ?_) (fun ex z cls d w' l' ok' hx => ?_)⟩
  · have l0 : Le w1 w' := callee_le.trans l'
    exact q v (w'.unprot w1.Pr) (l1.trans (unprot_le l0)) (callee_back s1.ok ok' l' s1) f'
  · have l0 : Le w1 w' := callee_le.trans l'
    exact ⟨w'.unprot w1.Pr, ex, rfl, l.trans (l1.trans (unprot_le l0)), (callee_back s1.ok ok' l' s1).ok, hx, z⟩
end
section
variable {P : Program} {w : World} {K : PySem.W.Frag} {mg : Str → Option Value} {base : Heap}
/-- THE RULE for a def -/
theorem fn_ok {cl : Str → Option Addr} {x qual : Str} {st : Stmt} {f : Addr} {fd : FuncData} {N ps : List Str} {k : Nat} {g : G Fl} (F : Fun K x qual st f fd) (S : FnScope N ps (defScope st))
    (hbody : ∀ (cdv : Value) (A : Around) (outer : List Env) (s : Shared) (H : Hp) (E : XK) (C : Ct), Room k (A.deeper (envOfC qual (defScope st) s.heap.objs.size f cdv)) → A.guards = some [] → C.cl = cl →
      Takes (cxOf (L2.CX P w) P w K mg base N qual (defScope st) f cdv A outer s H E) (WDx K C) → DSs (cxOf (L2.CX P w) P w K mg base N qual (defScope st) f cdv A outer s H E) C (defBody st) g) :
    FnG P w K mg base (k + 1) f fd ps (spD K cl ps.length (fnM N.length g)) := by
  refine fnG_of F S (fun {vs H Q E} h => ?_) (fun cdv A outer s H vs Q E hr hgd h => ?_)
  · obtain ⟨w, ws, _, _, a, hl, _⟩ := h
    rw [a.length, hl]
  · obtain ⟨wd, ws, rfl, ok, a, hl, q⟩ := h
    let C : Ct := { base := wd, cl := cl, Ex := fun e => ∀ cls d (w' : Wd), Le wd w' → w'.Ok K → ExcR cl w'.H e cls d → E cls d w'.H }
    have tk : Takes (cxOf (L2.CX P w) P w K mg base N qual (defScope st) f cdv A outer s wd.H E) (WDx K C) :=
      Takes.imp (W := fun cls d _ H => E cls d H) (takes_of rfl rfl rfl rfl) fun c d σ H ⟨w', e, e1, e2, e3, e4, e5⟩ => e1 ▸ e5 c d w' e2 e3 (e1 ▸ e4)
    refine ⟨_, hbody cdv A outer s wd.H E C hr hgd rfl tk, wd, ws ++ List.replicate (N.length - ws.length) .un, rfl, .refl, ?_, ?_⟩
    · unfold L2.start
      rw [a.length]
      exact args_start ok a _
    · refine M.wp_mono (M.wp_bind.mp q) (fun r q => ?_) fun _ z => z
      obtain ⟨fl, ρ⟩ := r
      cases fl with
      | nx => exact fun σ' w' l' s' => q .non w' l' s'.ok .non
      | rt x => exact fun v σ' w' l' s' f => q v w' l' s'.ok f
      | rw x => exact q.elim
      | bk => exact q.elim
      | ct => exact q.elim
end
end DL

/-! DL7: data read off the heap; operations -/
namespace DL
open PySem PySem.Spec PyProof.Rows L2
section
variable {X : Cx} {pins : List (Addr × Obj)} {σ : L2.St} {H : Hp} {s : Shared} {O : Addr → Prop}
theorem readsAll_of {P : V → D → Prop} (h : ∀ v x u, P v x → RelV v u → ∃ as, Reads s.heap u x as) : ∀ {vs : List V} {us : List Value} {xs : List D}, Paired P vs xs → Vals vs us → ∃ as, ReadsAll s.heap us xs as
  | _, _, _, .nil, .nil => ⟨[], .nil⟩
  | _, _, _, .cons p t, .cons r rs => by
    obtain ⟨a1, h1⟩ := h _ _ _ p r
    obtain ⟨a2, h2⟩ := readsAll_of h t rs
    exact ⟨a1 ++ a2, .cons h1 h2⟩
theorem key_reads {k : Key} {u : Value} (h : keyIs k u = true) : Reads s.heap u (keyD k) [] := by
  rcases keyIs_shape h with ⟨i, t, rfl, rfl⟩ | ⟨x, t, rfl, rfl⟩
  · exact .int i t
  · exact .str x t
theorem keyV_reads {k : Key} {u : Value} (h : RelV (kV k) u) : Reads s.heap u (keyD k) [] := by
  cases k with
  | inl i => obtain ⟨t, rfl⟩ := h; exact .int i t
  | inr x => obtain ⟨t, rfl⟩ := h; exact .str x t
theorem keysV_reads : ∀ {ks : List Key} {us : List Value}, Vals (ks.map kV) us → ∃ as, ReadsAll s.heap us (ks.map keyD) as
  | [], _, .nil => ⟨[], .nil⟩
  | k :: ks, _, .cons r rs => by
    obtain ⟨as, h⟩ := keysV_reads rs
    exact ⟨[] ++ as, .cons (keyV_reads r) h⟩
theorem dict_reads (I : Inv X pins σ H s) {a : Addr} {ks xs : List D} {vs : List V} (hd : DcR H a ks vs) (hl : vs.length = xs.length) (hv : ∀ us, Vals vs us → ∃ as, ReadsAll s.heap us xs as) : ∃ as, Reads s.heap (.ref a) (.dict (ks.zip xs)) as := by
  rcases hd with ⟨kvs, h, rfl, rfl⟩ | ⟨kvs, h, rfl, rfl⟩
  · obtain ⟨_, _, ws, kv, o, es, ep, ho, hex, hdt, _, hp, _⟩ := I.hok a _ h
    have hks : ∀ {es : List DictEntry} {ws : List (Key × Value)} {kvs : List (Key × V)}, Pairs (mixKind X.prog X.w) es ws → KV kvs ws → (∃ as, ReadsAll s.heap (es.map (·.key)) (kvs.map fun p => keyD p.1) as) ∧ Vals (kvs.map (·.2)) (es.map (·.val)) := by
      intro es ws kvs hp
      induction hp generalizing kvs with
      | nil => intro q; cases q; exact ⟨⟨[], .nil⟩, .nil⟩
      | cons e1 e2 _ ih =>
        intro q
        cases q with
        | cons q qs =>
          obtain ⟨⟨as, i1⟩, i2⟩ := ih qs
          refine ⟨⟨[] ++ as, .cons (key_reads ?_) i1⟩, .cons (show L2.RelV _ _ from by have z := q.2; rw [← e2] at z; exact z) i2⟩
          rw [q.1]; exact e1
    obtain ⟨⟨as, h1⟩, h2⟩ := hks hp kv
    obtain ⟨bs, h3⟩ := hv _ h2
    refine ⟨_, .dict ho hex.1 hdt (as := as) (bs := bs) ?_ ?_⟩
    · rw [List.map_fst_zip (by simp only [List.length_map] at hl ⊢; omega)]; exact h1
    · rw [List.map_snd_zip (by simp only [List.length_map] at hl ⊢; omega)]; exact h3
  · obtain ⟨_, _, ws, kv, o, es, ep, ho, hex, hdt, he, _⟩ := I.hok a _ h
    have hks : ∀ {ws : List (List Key × Addr × Value)} {kvs : List (List Key × V)}, Paired (fun (p : List Key × V) (q : List Key × Addr × Value) => p.1 = q.1 ∧ H q.2.1 = some (.tup (p.1.map kV)) ∧ RelV p.2 q.2.2) kvs ws →
        (∃ as, ReadsAll s.heap (ws.map fun q => Value.ref q.2.1) (kvs.map fun p => .tuple (p.1.map keyD)) as) ∧ Vals (kvs.map (·.2)) (ws.map (·.2.2)) := by
      intro ws kvs hp
      induction hp with
      | nil => exact ⟨⟨[], .nil⟩, .nil⟩
      | cons e _ ih =>
        obtain ⟨⟨as, i1⟩, i2⟩ := ih
        obtain ⟨_, its, rv, ob, g1, g2, n, g3⟩ := I.hok _ _ e.2.1
        obtain ⟨bs, r⟩ := keysV_reads rv
        exact ⟨⟨_, .cons (.tuple g1 g2 g3 (by simpa using r)) i1⟩, .cons e.2.2 i2⟩
    obtain ⟨⟨as, h1⟩, h2⟩ := hks kv
    have ek : es.toList.map (·.key) = ws.map fun q => Value.ref q.2.1 := by rw [he, List.map_map]; rfl
    have ev : es.toList.map (·.val) = ws.map (·.2.2) := by rw [he, List.map_map]; rfl
    rw [← ev] at h2
    obtain ⟨bs, h3⟩ := hv _ h2
    refine ⟨_, .dict ho hex.1 hdt (as := as) (bs := bs) ?_ ?_⟩
    · rw [List.map_fst_zip (by simp only [List.length_map] at hl ⊢; omega), ek]; exact h1
    · rw [List.map_snd_zip (by simp only [List.length_map] at hl ⊢; omega)]; exact h3
mutual
theorem Fz.reads (I : Inv X pins σ H s) : ∀ {v : V} {x : D} {u : Value}, Fz X.K O H v x → RelV v u → ∃ as, Reads s.heap u x as
  | _, _, _, .non, r => by cases r; exact ⟨[], .none⟩
  | _, _, _, .bl b, r => by cases r; exact ⟨[], .bool b⟩
  | _, _, _, .int i, r => by obtain ⟨t, rfl⟩ := r; exact ⟨[], .int i t⟩
  | _, _, _, .str x, r => by obtain ⟨t, rfl⟩ := r; exact ⟨[], .str x t⟩
  | _, _, _, .lst q f, r => by
    cases r
    obtain ⟨its, rv, ⟨o, n, e1, e2, _, e3⟩, _⟩ := I.list q.sq
    obtain ⟨as, h⟩ := FzL.reads I f rv
    exact ⟨_, .list e1 e2 e3 (by simpa using h)⟩
  | _, _, _, .tup q f, r => by
    cases r
    obtain ⟨its, rv, ⟨o, e1, e2, n, e3⟩, _⟩ := I.tuple q.sq
    obtain ⟨as, h⟩ := FzL.reads I f rv
    exact ⟨_, .tuple e1 e2 e3 (by simpa using h)⟩
  | _, _, _, .dic n q f, r => by
    cases r
    exact dict_reads I q f.length fun us rv => FzL.reads I f rv
theorem FzL.reads (I : Inv X pins σ H s) : ∀ {vs : List V} {xs : List D} {us : List Value}, FzL X.K O H vs xs → Vals vs us → ∃ as, ReadsAll s.heap us xs as
  | _, _, _, .nil, .nil => ⟨[], .nil⟩
  | _, _, _, .cons h t, .cons r rs => by
    obtain ⟨a1, h1⟩ := Fz.reads I h r
    obtain ⟨a2, h2⟩ := FzL.reads I t rs
    exact ⟨a1 ++ a2, .cons h1 h2⟩
end
theorem Pk.reads (I : Inv X pins σ H s) {v : V} {x : D} {u : Value} (p : Pk X.K O H v x) (r : RelV v u) : ∃ as, Reads s.heap u x as := by
  cases p with
  | of f => exact f.reads I r
  | lst q f =>
    cases r
    obtain ⟨its, rv, ⟨o, n, e1, e2, _, e3⟩, _⟩ := I.list (.inl (.inl q))
    obtain ⟨as, h⟩ := FzL.reads I f rv
    exact ⟨_, .list e1 e2 e3 (by simpa using h)⟩
  | dic q f =>
    cases r
    exact dict_reads I q f.length fun us rv => FzL.reads I f rv
end

/-! ### ints -/
def iI (f : Int → Int → Int) (c : Int → Int → Bool) : D → D → Option D
  | .int i, .int j => if c i j = true then some (.int (f i j)) else none
  | _, _ => none
def cI (f : Int → Int → Bool) : D → D → Option D
  | .int i, .int j => some (.bool (f i j))
  | _, _ => none
theorem iI_of {f : Int → Int → Int} {c : Int → Int → Bool} {x y z : D} (h : iI f c x y = some z) : ∃ i j, x = .int i ∧ y = .int j ∧ c i j = true ∧ z = .int (f i j) := by
  cases x with
  | int i =>
    cases y with
    | int j =>
      have h' : (if c i j = true then some (PyData.int (f i j)) else none) = some z := h
      by_cases hc : c i j = true
      · rw [if_pos hc] at h'; cases h'; exact ⟨i, j, rfl, rfl, hc, rfl⟩
      · rw [if_neg hc] at h'; cases h'
    | _ => cases h
  | _ => cases h
theorem cI_of {f : Int → Int → Bool} {x y z : D} (h : cI f x y = some z) : ∃ i j, x = .int i ∧ y = .int j ∧ z = .bool (f i j) := by
  cases x with
  | int i =>
    cases y with
    | int j => cases h; exact ⟨i, j, rfl, rfl, rfl⟩
    | _ => cases h
  | _ => cases h
section
variable {X : Cx}
theorem OpR.imp {f : Value → Value → Sem Value} {r r' : R2} (h : OpR X f r) (i : ∀ x y H Q, r' x y H Q → r x y H Q) : OpR X f r' := fun pins s σ H x y v u Q I a b q => h pins s σ H x y v u Q I a b (i _ _ _ _ q)
theorem UnR.imp {f : Value → Sem Value} {r r' : V → Hp → VK → Prop} (h : UnR X f r) (i : ∀ x H Q, r' x H Q → r x H Q) : UnR X f r' := fun pins s σ H x v Q I a q => h pins s σ H x v Q I a (i _ _ _ q)
theorem CallR.imp {f : Value} {r r' : List V → Hp → VK → Prop} (h : CallR X f r) (i : ∀ x H Q, r' x H Q → r x H Q) : CallR X f r' := fun pins s σ H x v Q I a q => h pins s σ H x v Q I a (i _ _ _ q)
theorem pure_int {f : Value → Value → Sem Value} {g : Int → Int → Int} {Cn : Int → Int → Prop} {c : Int → Int → Bool} (h : OpR X f (rI Cn fun i j => .int (g i j))) (hc : ∀ i j, c i j = true → Cn i j) : Pure2 X f (iI g c) :=
  OpR.imp h fun x y H Q ⟨O, dx, dy, z, _, px, py, e, q⟩ => by
    obtain ⟨i, j, rfl, rfl, c, rfl⟩ := iI_of e
    exact ⟨i, j, px.int_inv, py.int_inv, hc i j c, q _ H (fun _ _ e => e) (.int _)⟩
theorem pure_int0 {f : Value → Value → Sem Value} {g : Int → Int → Int} {c : Int → Int → Bool} (h : OpR X f (rI0 fun i j => .int (g i j))) : Pure2 X f (iI g c) :=
  OpR.imp h fun x y H Q ⟨O, dx, dy, z, _, px, py, e, q⟩ => by
    obtain ⟨i, j, rfl, rfl, c, rfl⟩ := iI_of e
    exact ⟨i, j, px.int_inv, py.int_inv, q _ H (fun _ _ e => e) (.int _)⟩
theorem pure_cmp {f : Value → Value → Sem Value} {g : Int → Int → Bool} (h : OpR X f (rI0 fun i j => .bl (g i j))) : Pure2 X f (cI g) :=
  OpR.imp h fun x y H Q ⟨O, dx, dy, z, _, px, py, e, q⟩ => by
    obtain ⟨i, j, rfl, rfl, rfl⟩ := cI_of e
    exact ⟨i, j, px.int_inv, py.int_inv, q _ H (fun _ _ e => e) (.bl _)⟩
def yes2 : Int → Int → Bool := fun _ _ => true
def subI : D → D → Option D := iI (fun i j => i - j) yes2
def w64 (i : Int) : Bool := decide (-(2 ^ 64) < i) && decide (i < 2 ^ 64)
def mulC (i j : Int) : Bool := w64 i || w64 j
def divI : D → D → Option D := iI (fun i j => i / j) fun i j => decide (0 < j) && decide (j < 2 ^ 150)
def modI : D → D → Option D := iI (fun i j => i % j) fun i j => decide (0 < j)
def powI : D → D → Option D := iI (fun i j => i ^ j.toNat) fun i j => decide (0 ≤ j) && decide (j ≤ 1000000) && decide (i.natAbs < 2 ^ 64)
def shlI : D → D → Option D := iI (fun i j => i * 2 ^ j.toNat) fun i j => decide (0 ≤ j) && decide (j ≤ 1000000) && decide (i.natAbs < 2 ^ 64)
def ltI : D → D → Option D := cI fun i j => decide (i < j)
def leI : D → D → Option D := cI fun i j => decide (i ≤ j)
def gtI : D → D → Option D := cI fun i j => decide (j < i)
def geI : D → D → Option D := cI fun i j => decide (j ≤ i)
theorem p_sub : Pure2 X (binaryOp .Sub) subI := pure_int0 op_sub
theorem CMul.of {i j : Int} (h : mulC i j = true) : CMul i j := by
  unfold mulC w64 at h
  simp only [Bool.or_eq_true, Bool.and_eq_true, decide_eq_true_eq] at h
  exact h
theorem p_div : Pure2 X (binaryOp .FloorDiv) divI := pure_int op_fdivW fun i j h => by
  simp only [Bool.and_eq_true, decide_eq_true_eq] at h
  exact wide_div h.1 (b := 150) (by have := h.2; omega) (by decide) (by decide)
theorem p_mod : Pure2 X (binaryOp .Mod) modI := pure_int op_mod fun i j h => by simpa using h
theorem p_pow : Pure2 X (binaryOp .Pow) powI := pure_int op_pow fun i j h => by
  simp only [Bool.and_eq_true, decide_eq_true_eq] at h; exact ⟨h.1.1, h.1.2, h.2⟩
theorem p_shl : Pure2 X (binaryOp .LShift) shlI := pure_int op_shl fun i j h => by
  simp only [Bool.and_eq_true, decide_eq_true_eq] at h; exact ⟨h.1.1, h.1.2, h.2⟩
theorem p_lt : Pure2 X (compareOp .Lt) ltI := pure_cmp op_lt
theorem p_le : Pure2 X (compareOp .LtE) leI := pure_cmp op_le
theorem p_gt : Pure2 X (compareOp .Gt) gtI := pure_cmp op_gt
theorem p_ge : Pure2 X (compareOp .GtE) geI := pure_cmp op_ge
end
end DL

/-! DL8: operations on data -/
namespace DL
open PySem PySem.Spec PyProof.Rows L2
def LIM : Nat := 16777216
theorem lim_line {n : Nat} (h : n ≤ LIM) : n ≤ sizeLine := by rw [sizeLine_eq]; exact h
/-- new lists -/
def rN2 (K : PySem.W.Frag) (g : D → D → Option (List D)) : R2 := fun x y H Q => ∃ (O : Addr → Prop) (dx dy : D) (zs : List D), (∀ a, O a → ∃ o, H a = some o) ∧ Pk K O H x dx ∧ Pk K O H y dy ∧ g dx dy = some zs ∧ ∀ p vs, H p = none → FzL K O H vs zs → Q (.ref p) (upd H p (.lst vs))
def rNN (K : PySem.W.Frag) (g : List D → Option (List D)) : List V → Hp → VK → Prop := fun xs H Q => ∃ (O : Addr → Prop) (ds : List D) (zs : List D), (∀ a, O a → ∃ o, H a = some o) ∧ PkL K O H xs ds ∧ g ds = some zs ∧ ∀ p vs, H p = none → FzL K O H vs zs → Q (.ref p) (upd H p (.lst vs))
abbrev New2 (X : Cx) (f : Value → Value → Sem Value) (g : D → D → Option (List D)) : Prop := OpR X f (rN2 X.K g)
abbrev NewN (X : Cx) (f : Value) (g : List D → Option (List D)) : Prop := CallR X f (rNN X.K g)
def gN2 (f : D → D → Option (List D)) (a b : G Opd) : G D := fun ρ => (a ρ).bind fun r => (b r.2).bind fun s => (rd s.2 r.1).bind fun x => (rd s.2 s.1).bind fun y => (M.ofOpt (f x y)).bind fun z => .ret (.list z, s.2)
def gNL (f : List D → Option (List D)) (a : G (List Opd)) : G D := fun ρ => (a ρ).bind fun r => (rdL r.2 r.1).bind fun xs => (M.ofOpt (f xs)).bind fun z => .ret (.list z, r.2)
section
variable {X : Cx} {C : Ct} {a b e : Expr} {pos : Pos} {ga gb : G Opd}
theorem dn_bin {op : Operator} {f : D → D → Option (List D)} (ho : New2 X (binaryOp op) f) (ha : DO X C a ga) (hb : DO X C b gb) : DN X C (.BinOp a op b pos) (gN2 f ga gb) :=
  PE.imp (pe_op ho ha hb) fun σ H Q ⟨w, ρ, hw, l, sr, q⟩ => by
    refine ⟨w, ρ, hw, l, sr, M.wp_mono (M.wp_bind.mp q) (fun r q v w1 l1 s1 r1 => ?_) fun _ z => z⟩
    refine ⟨w1, r.2, rfl, l.trans l1, s1, M.wp_mono (M.wp_bind.mp q) (fun s q u w2 l2 s2 r2 => ?_) fun _ z => z⟩
    obtain ⟨x, px, ex, q⟩ := rd_pk s2 (ROo.le l2 r1) (M.wp_bind.mp q)
    obtain ⟨y, py, ey, q⟩ := rd_pk s2 r2 (M.wp_bind.mp q)
    obtain ⟨z, hz, q⟩ := wp_ofOpt (M.wp_bind.mp q)
    refine ⟨w2.O, x, y, z, s2.ok.there, px, py, hz, fun p vs hp f => ?_⟩
    exact q (.ref p) (w2.alloc p (.lst vs)) (l1.trans (l2.trans (alloc_le hp s2.ok))) (s2.alloc hp) (rw_list hp s2 f)
theorem newArgs {r : List V → Hp → VK → Prop} {f : List D → Option (List D)} {g : G (List Opd)} {σ : L2.St} {H : Hp} {Q : VK}
    (hr : ∀ x H Q, rNN X.K f x H Q → r x H Q) (h : TX X.K C (RW X.K) (gNL f g) σ H Q) : tCB r (TL X.K C g) σ H Q := by
  obtain ⟨w, ρ, hw, l, sr, q⟩ := h
  refine ⟨w, ρ, hw, l, sr, M.wp_mono (M.wp_bind.mp q) (fun r q v w1 l1 s1 r1 => ?_) fun _ z => z⟩
  obtain ⟨xs, px, q⟩ := rdL_pk s1 r1 (M.wp_bind.mp q)
  obtain ⟨z, hz, q⟩ := wp_ofOpt (M.wp_bind.mp q)
  exact hr _ _ _ ⟨w1.O, xs, z, s1.ok.there, px, hz, fun p vs hp f => q (.ref p) (w1.alloc p (.lst vs)) (l1.trans (alloc_le hp s1.ok)) (s1.alloc hp) (rw_list hp s1 f)⟩
theorem dn_callB {id : String} {x : Str} {p : Pos} {es : List Expr} {f : List D → Option (List D)} {g : G (List Opd)} (hc : NewN X (.builtin id) f) (hg : Gl X x) (hm : X.mg x = none) (hv : bootBuiltins x = some (.builtin id)) (ha : DA X C (e :: es) g)
    (hn : x ≠ "__name__" := by decide) (hdb : (x == ("__debug__" : Str)) = false := by decide)
    (he : starEach (e :: es) X.env = (false, eval e X.env) :: starEach es X.env := by rfl) (hpl : (backTo pos (starEach es X.env)).any (·.1) = false := by rfl) : DN X C (.Call (.Name x p) (e :: es) [] pos) (gNL f g) :=
  PE.imp (pe_callB hc hg hm hv ha hn hdb he hpl) fun _ _ _ h => newArgs (fun _ _ _ z => z) h
theorem dn_callTy {id : String} {x : Str} {p : Pos} {es : List Expr} {f : List D → Option (List D)} {g : G (List Opd)} (hc : NewN X (.type id) f) (hg : Gl X x) (hm : X.mg x = none) (hv : bootBuiltins x = some (.type id)) (ha : DA X C (e :: es) g)
    (hn : x ≠ "__name__" := by decide) (hdb : (x == ("__debug__" : Str)) = false := by decide)
    (he : starEach (e :: es) X.env = (false, eval e X.env) :: starEach es X.env := by rfl) (hpl : (backTo pos (starEach es X.env)).any (·.1) = false := by rfl) : DN X C (.Call (.Name x p) (e :: es) [] pos) (gNL f g) :=
  PE.imp (pe_callTy hc hg hm hv ha hn hdb he hpl) fun _ _ _ h => newArgs (fun _ _ _ z => z) h
end
section
variable {K : PySem.W.Frag} {O : Addr → Prop} {H : Hp}
theorem Pk.tup_inv {v : V} {xs : List D} (h : Pk K O H v (.tuple xs)) : ∃ a vs, v = .ref a ∧ QT K O H a vs ∧ FzL K O H vs xs := by
  cases h with
  | of h => cases h with
    | tup q f => exact ⟨_, _, rfl, q, f⟩
theorem Pk.lst_inv {v : V} {xs : List D} (h : Pk K O H v (.list xs)) : ∃ a vs, v = .ref a ∧ H a = some (.lst vs) ∧ FzL K O H vs xs := by
  cases h with
  | of h => cases h with
    | lst q f => exact ⟨_, _, rfl, q.2, f⟩
  | lst q f => exact ⟨_, _, rfl, q, f⟩
theorem Pk.str_inv {v : V} {x : Str} (h : Pk K O H v (.str x)) : v = .str x := by
  cases h with
  | of h => cases h; rfl
theorem Pk.bl_inv {v : V} {x : Bool} (h : Pk K O H v (.bool x)) : v = .bl x := by
  cases h with
  | of h => cases h; rfl
theorem Pk.non_inv {v : V} (h : Pk K O H v .none) : v = .non := by
  cases h with
  | of h => cases h; rfl
theorem new_free {p : Addr} (h : ∀ a, O a → ∃ o, H a = some o) (hp : H p = none) : ¬ O p := fun z => by
  obtain ⟨o, e⟩ := h p z; rw [hp] at e; cases e
/-- a new tuple, a new list, as values -/
theorem fz_newT {p : Addr} {vs : List V} {xs : List D} (h : ∀ a, O a → ∃ o, H a = some o) (hp : H p = none) (f : FzL K O H vs xs) : Fz K O (upd H p (.tup vs)) (.ref p) (.tuple xs) :=
  .tup (.inl ⟨new_free h hp, .inl upd_same⟩) (f.keep (Ext.upd hp).keep)
theorem fz_newL {p : Addr} {vs : List V} {xs : List D} (h : ∀ a, O a → ∃ o, H a = some o) (hp : H p = none) (f : FzL K O H vs xs) : Fz K O (upd H p (.lst vs)) (.ref p) (.list xs) :=
  .lst ⟨new_free h hp, upd_same⟩ (f.keep (Ext.upd hp).keep)
end
section
variable {X : Cx}
/-- what may be read as a list stands there as one -/
theorem rd_list {pins : List (Addr × Obj)} {s : Shared} {σ : L2.St} {H : Hp} {a : Addr} {vs : List V} (I : Inv X pins σ H s) (h : H a = some (.lst vs)) : vs.length ≤ sizeLine ∧ ∃ (its : List Value) (n : Nat), Vals vs its ∧ s.heap.get? a = some { cls := .type "list", data := .seq its.toArray n } := I.hok a _ h

/-! ### + -/
def catL : D → D → Option (List D)
  | .list xs, .list ys => if xs.length + ys.length ≤ LIM then some (xs ++ ys) else none
  | _, _ => none
def addD : D → D → Option D
  | .int i, .int j => some (.int (i + j))
  | .str x, .str y => if x.length + y.length ≤ LIM then some (.str (x ++ y)) else none
  | .tuple xs, .tuple ys => if xs.length + ys.length ≤ LIM then some (.tuple (xs ++ ys)) else none
  | .list xs, .list ys => if xs.length + ys.length ≤ LIM then some (.list (xs ++ ys)) else none
  | _, _ => none
theorem if_some {α : Type} {c : Prop} [Decidable c] {x z : α} (h : (if c then some x else none) = some z) : c ∧ z = x := by
  by_cases hc : c
  · rw [if_pos hc] at h; cases h; exact ⟨hc, rfl⟩
  · rw [if_neg hc] at h; cases h
theorem n_cat : New2 X (binaryOp .Add) catL := by
  intro pins s σ H x y v u Q I rx ry ⟨O, dx, dy, z, hO, px, py, e, q⟩
  match dx, dy, e with
  | .list xs, .list ys, e =>
    obtain ⟨hc, rfl⟩ := if_some (show (if xs.length + ys.length ≤ LIM then some (xs ++ ys) else none) = some z from e)
    obtain ⟨a, vs, rfl, r1, f1⟩ := px.lst_inv
    obtain ⟨b, ws, rfl, r2, f2⟩ := py.lst_inv
    cases rx
    cases ry
    obtain ⟨h1, its, n, v1, e1⟩ := rd_list I r1
    obtain ⟨h2, its2, n2, v2, e2⟩ := rd_list I r2
    have hz : vs.length + ws.length ≤ sizeLine := by rw [f1.length, f2.length]; exact lim_line hc
    refine PySem.P.add_list e1 e2 ?_ (by rw [List.size_toArray, List.size_toArray, ← v1.length, ← v2.length]; exact hz)
    have ea : its.toArray ++ its2.toArray = (its ++ its2).toArray := by simp
    rw [ea]
    exact ⟨.ref _, _, I.lnew (t' := s.toks) (v1.append v2) (by rw [List.length_append]; exact hz), rfl, q _ _ I.fresh (f1.append f2)⟩
theorem p_add : Pure2 X (binaryOp .Add) addD := by
  intro pins s σ H x y v u Q I rx ry ⟨O, dx, dy, z, hO, px, py, e, q⟩
  match dx, dy, e with
  | .int i, .int j, e =>
    cases e
    exact op_add pins s σ H x y v u Q I rx ry ⟨i, j, px.int_inv, py.int_inv, q _ H (fun _ _ e => e) (.int _)⟩
  | .str i, .str j, e =>
    obtain ⟨hc, rfl⟩ := if_some (show (if i.length + j.length ≤ LIM then some (PyData.str (i ++ j)) else none) = some z from e)
    exact op_add_str pins s σ H x y v u Q I rx ry ⟨i, j, px.str_inv, py.str_inv, lim_line hc, q _ H (fun _ _ e => e) (.str _)⟩
  | .tuple xs, .tuple ys, e =>
    obtain ⟨hc, rfl⟩ := if_some (show (if xs.length + ys.length ≤ LIM then some (PyData.tuple (xs ++ ys)) else none) = some z from e)
    obtain ⟨a, vs, rfl, r1, f1⟩ := px.tup_inv
    obtain ⟨b, ws, rfl, r2, f2⟩ := py.tup_inv
    refine op_catA pins s σ H _ _ v u Q I rx ry ⟨a, b, vs, ws, rfl, rfl, r1.sq, r2.sq, by rw [f1.length, f2.length]; exact lim_line hc, fun h => ?_, fun _ h => ?_, fun _ _ p hp => q _ _ (Ext.upd hp) (fz_newT hO hp (f1.append f2))⟩
    · subst h
      cases f1
      exact q _ H (fun _ _ e => e) (.tup r2 f2)
    · subst h
      cases f2
      rw [List.append_nil] at q
      exact q _ H (fun _ _ e => e) (.tup r1 f1)
  | .list xs, .list ys, e =>
    obtain ⟨hc, rfl⟩ := if_some (show (if xs.length + ys.length ≤ LIM then some (PyData.list (xs ++ ys)) else none) = some z from e)
    exact n_cat pins s σ H x y v u Q I rx ry ⟨O, .list xs, .list ys, xs ++ ys, hO, px, py, if_pos hc, fun p vs hp f => q _ _ (Ext.upd hp) (fz_newL hO hp f)⟩

/-! ### equality -/
mutual
/-- data of n levels, no dicts within -/
def shal : Nat → D → Bool
  | _, .none => true
  | _, .bool _ => true
  | _, .int _ => true
  | _, .str _ => true
  | 0, .list _ => false
  | 0, .tuple _ => false
  | n + 1, .list xs => shalL n xs
  | n + 1, .tuple xs => shalL n xs
  | _, .dict _ => false
def shalL : Nat → List D → Bool
  | _, [] => true
  | n, x :: xs => shal n x && shalL n xs
end
mutual
theorem shal_plain : ∀ (n : Nat) (x : D), shal n x = true → x.plain = true ∧ x.depth ≤ n
  | _, .none, _ => ⟨rfl, Nat.zero_le _⟩
  | _, .bool _, _ => ⟨rfl, Nat.zero_le _⟩
  | _, .int _, _ => ⟨rfl, Nat.zero_le _⟩
  | _, .str _, _ => ⟨rfl, Nat.zero_le _⟩
  | 0, .list _, h => by simp [shal] at h
  | 0, .tuple _, h => by simp [shal] at h
  | n + 1, .list xs, h => by
    obtain ⟨a, b⟩ := shalL_plain n xs (by simpa [shal] using h)
    exact ⟨by simpa [PyData.plain] using a, by simp only [PyData.depth]; omega⟩
  | n + 1, .tuple xs, h => by
    obtain ⟨a, b⟩ := shalL_plain n xs (by simpa [shal] using h)
    exact ⟨by simpa [PyData.plain] using a, by simp only [PyData.depth]; omega⟩
  | _, .dict _, h => by simp [shal] at h
theorem shalL_plain : ∀ (n : Nat) (xs : List D), shalL n xs = true → PyData.plainAll xs = true ∧ PyData.depthAll xs ≤ n
  | _, [], _ => ⟨by simp [PyData.plainAll], by simp [PyData.depthAll]⟩
  | n, x :: xs, h => by
    simp only [shalL, Bool.and_eq_true] at h
    obtain ⟨a, b⟩ := shal_plain n x h.1
    obtain ⟨c, d⟩ := shalL_plain n xs h.2
    exact ⟨by simp only [PyData.plainAll, a, c, Bool.and_self], by simp only [PyData.depthAll]; omega⟩
end
def eqD (x y : D) : Option D := if shal 20 x = true ∧ shal 20 y = true then some (.bool (PyData.eqv x y)) else none
def neD (x y : D) : Option D := if shal 20 x = true ∧ shal 20 y = true then some (.bool (!PyData.eqv x y)) else none
theorem p_eq (hu : X.A.units + 64 < cLine) : Pure2 X (compareOp .Eq) eqD := by
  intro pins s σ H x y v u Q I rx ry ⟨O, dx, dy, z, hO, px, py, e, q⟩
  obtain ⟨hc, rfl⟩ := if_some e
  obtain ⟨as, h1⟩ := px.reads I rx
  obtain ⟨bs, h2⟩ := py.reads I ry
  obtain ⟨p1, d1⟩ := shal_plain 20 _ hc.1
  obtain ⟨p2, d2⟩ := shal_plain 20 _ hc.2
  exact PySem.SeqAt.eq_plain h1 h2 p1 p2 (by omega) ⟨.bl _, H, I, rfl, q _ H (fun _ _ e => e) (.bl _)⟩
theorem p_ne (hu : X.A.units + 64 < cLine) : Pure2 X (compareOp .NotEq) neD := by
  intro pins s σ H x y v u Q I rx ry ⟨O, dx, dy, z, hO, px, py, e, q⟩
  obtain ⟨hc, rfl⟩ := if_some e
  obtain ⟨as, h1⟩ := px.reads I rx
  obtain ⟨bs, h2⟩ := py.reads I ry
  obtain ⟨p1, d1⟩ := shal_plain 20 _ hc.1
  obtain ⟨p2, d2⟩ := shal_plain 20 _ hc.2
  exact PySem.SeqAt.ne_plain h1 h2 p1 p2 (by omega) ⟨.bl _, H, I, rfl, q _ H (fun _ _ e => e) (.bl _)⟩
/-! ### is -/
def isD : D → D → Option D
  | .none, .none => some (.bool true)
  | .bool a, .bool b => some (.bool (decide (a = b)))
  | x, .none => some (.bool false)
  | _, _ => none
def isnD (x y : D) : Option D := (isD x y).bind fun z => match z with
  | .bool b => some (.bool !b)
  | _ => none
theorem p_is : Pure2 X (compareOp .Is) isD := by
  intro pins s σ H x y v u Q I rx ry ⟨O, dx, dy, z, hO, px, py, e, q⟩
  have nn : dy = .none → (∃ b, z = .bool b ∧ b = decide (x = .non)) → wpAny (model X.prog X.w) X.A (compareOp .Is v u) (EP X pins σ Q) X.xe s := fun h ⟨b, h1, h2⟩ => by
    subst h h1 h2
    exact op_isN pins s σ H x y v u Q I rx ry ⟨py.non_inv, q _ H (fun _ _ e => e) (.bl _)⟩
  cases dy with
  | none =>
    cases dx with
    | none => cases e; exact nn rfl ⟨true, rfl, by rw [px.non_inv]; rfl⟩
    | bool b => cases e; exact nn rfl ⟨false, rfl, by rw [px.bl_inv]; rfl⟩
    | int b => cases e; exact nn rfl ⟨false, rfl, by rw [px.int_inv]; rfl⟩
    | str b => cases e; exact nn rfl ⟨false, rfl, by rw [px.str_inv]; rfl⟩
    | list b => cases e; obtain ⟨a, vs, rfl, _⟩ := px.lst_inv; exact nn rfl ⟨false, rfl, rfl⟩
    | tuple b => cases e; obtain ⟨a, vs, rfl, _⟩ := px.tup_inv; exact nn rfl ⟨false, rfl, rfl⟩
    | dict b =>
      cases e
      have : ∃ a, x = .ref a := by
        cases px with
        | of h => cases h with
          | dic => exact ⟨_, rfl⟩
        | dic => exact ⟨_, rfl⟩
      obtain ⟨a, rfl⟩ := this
      exact nn rfl ⟨false, rfl, rfl⟩
  | bool b =>
    cases dx with
    | bool a =>
      cases e
      exact op_is_bl pins s σ H x y v u Q I rx ry ⟨a, b, px.bl_inv, py.bl_inv, q _ H (fun _ _ e => e) (.bl _)⟩
    | _ => cases e
  | _ => cases dx <;> cases e
theorem p_isn : Pure2 X (compareOp .IsNot) isnD := by
  intro pins s σ H x y v u Q I rx ry ⟨O, dx, dy, z, hO, px, py, e, q⟩
  have nn : dy = .none → (∃ b, z = .bool b ∧ b = !decide (x = .non)) → wpAny (model X.prog X.w) X.A (compareOp .IsNot v u) (EP X pins σ Q) X.xe s := fun h ⟨b, h1, h2⟩ => by
    subst h h1 h2
    exact op_notN pins s σ H x y v u Q I rx ry ⟨py.non_inv, q _ H (fun _ _ e => e) (.bl _)⟩
  cases dy with
  | none =>
    cases dx with
    | none => cases e; exact nn rfl ⟨false, rfl, by rw [px.non_inv]; rfl⟩
    | bool b => cases e; exact nn rfl ⟨true, rfl, by rw [px.bl_inv]; rfl⟩
    | int b => cases e; exact nn rfl ⟨true, rfl, by rw [px.int_inv]; rfl⟩
    | str b => cases e; exact nn rfl ⟨true, rfl, by rw [px.str_inv]; rfl⟩
    | list b => cases e; obtain ⟨a, vs, rfl, _⟩ := px.lst_inv; exact nn rfl ⟨true, rfl, rfl⟩
    | tuple b => cases e; obtain ⟨a, vs, rfl, _⟩ := px.tup_inv; exact nn rfl ⟨true, rfl, rfl⟩
    | dict b =>
      cases e
      have : ∃ a, x = .ref a := by
        cases px with
        | of h => cases h with
          | dic => exact ⟨_, rfl⟩
        | dic => exact ⟨_, rfl⟩
      obtain ⟨a, rfl⟩ := this
      exact nn rfl ⟨true, rfl, rfl⟩
  | bool b =>
    cases dx with
    | bool a =>
      cases e
      exact op_isnot_bl pins s σ H x y v u Q I rx ry ⟨a, b, px.bl_inv, py.bl_inv, q _ H (fun _ _ e => e) (.bl _)⟩
    | _ => cases e
  | _ => cases dx <;> cases e
end
end DL

/-! DL9: subscripts, slices, calls of built-ins -/
namespace DL
open PySem PySem.Spec PyProof.Rows L2
section
variable {X : Cx} {C : Ct} {a b e : Expr} {pos : Pos} {ga gb : G Opd}
/-! ### x[i] -/
def ixD : D → D → Option D
  | .list xs, .int i => atI xs i
  | .tuple xs, .int i => atI xs i
  | .str x, .int i => if x.length ≤ LIM then (atI x.cps.toList i).map fun c => .str ⟨#[c]⟩ else none
  | _, _ => none
theorem atI_fz {K : PySem.W.Frag} {O : Addr → Prop} {H : Hp} {vs : List V} {xs : List D} {i : Int} {z : D} (f : FzL K O H vs xs) (h : atI xs i = some z) : ∃ v, atI vs i = some v ∧ Fz K O H v z := by
  unfold atI at h ⊢
  rw [f.length]
  cases hj : ixN xs.length i with
  | none => rw [hj] at h; cases h
  | some j => rw [hj] at h; exact f.get h
theorem p_ix : IxR X (rP2 X.K ixD) := by
  intro value slice pins s σ H x y v u Q I rx ry ⟨O, dx, dy, z, hO, px, py, e, q⟩ hs
  match dx, dy, e with
  | .list xs, .int i, e =>
    obtain ⟨a, vs, rfl, r1, f1⟩ := px.lst_inv
    obtain ⟨w, hw, fw⟩ := atI_fz f1 e
    exact ix_list value slice pins s σ H _ y v u Q I rx ry ⟨a, vs, i, w, rfl, py.int_inv, .inl (.inl r1), hw, q _ H (fun _ _ e => e) fw⟩ hs
  | .tuple xs, .int i, e =>
    obtain ⟨a, vs, rfl, r1, f1⟩ := px.tup_inv
    obtain ⟨w, hw, fw⟩ := atI_fz f1 e
    exact ix_tup value slice pins s σ H _ y v u Q I rx ry ⟨a, vs, i, w, rfl, py.int_inv, r1.sq, hw, q _ H (fun _ _ e => e) fw⟩ hs
  | .str x', .int i, e =>
    obtain ⟨hc, e⟩ : x'.length ≤ LIM ∧ (atI x'.cps.toList i).map (fun c => PyData.str ⟨#[c]⟩) = some z := by
      have e' : (if x'.length ≤ LIM then (atI x'.cps.toList i).map fun c => PyData.str ⟨#[c]⟩ else none) = some z := e
      by_cases hc : x'.length ≤ LIM
      · rw [if_pos hc] at e'; exact ⟨hc, e'⟩
      · rw [if_neg hc] at e'; cases e'
    cases hj : atI x'.cps.toList i with
    | none => rw [hj] at e; cases e
    | some c =>
      rw [hj] at e
      cases e
      exact ix_str value slice pins s σ H x y v u Q I rx ry ⟨x', i, c, px.str_inv, py.int_inv, lim_line hc, hj, q _ H (fun _ _ e => e) (.str _)⟩ hs
theorem de_ix (ha : DO X C a ga) (hb : DO X C b gb) (hs : PlainIx b := by exact fun _ _ => rfl) : DE X C (.Subscript a b pos) (g2 ixD ga gb) :=
  PE.imp (pe_ix p_ix ha hb hs) fun _ _ _ h => two (fun _ _ _ _ z => z) h
/-! ### x[lo:hi] -/
def cutD {α : Type} (xs : List α) (lo hi : Option Int) : List α := (xs.drop (HT.sIx xs.length 0 lo)).take (HT.sIx xs.length xs.length hi - HT.sIx xs.length 0 lo)
def slD : D → Option Int → Option Int → Option D
  | .list xs, lo, hi => some (.list (cutD xs lo hi))
  | .tuple xs, lo, hi => some (.tuple (cutD xs lo hi))
  | _, _, _ => none
def slL : D → Option Int → Option Int → Option (List D)
  | .list xs, lo, hi => some (cutD xs lo hi)
  | _, _, _ => none
theorem cut_fz {K : PySem.W.Frag} {O : Addr → Prop} {H : Hp} {vs : List V} {xs : List D} (f : FzL K O H vs xs) (lo hi : Option Int) : FzL K O H (cutV vs lo hi) (cutD xs lo hi) := by
  unfold cutV cutD
  rw [f.length]
  exact (f.drop _).take _
def rPS (K : PySem.W.Frag) (g : D → Option Int → Option Int → Option D) : V → Option Int → Option Int → Hp → VK → Prop := fun x lo hi H Q => ∃ (O : Addr → Prop) (dx z : D), (∀ a, O a → ∃ o, H a = some o) ∧ Pk K O H x dx ∧ g dx lo hi = some z ∧ ∀ v H', Ext H H' → Fz K O H' v z → Q v H'
def rNS (K : PySem.W.Frag) (g : D → Option Int → Option Int → Option (List D)) : V → Option Int → Option Int → Hp → VK → Prop := fun x lo hi H Q => ∃ (O : Addr → Prop) (dx : D) (zs : List D), (∀ a, O a → ∃ o, H a = some o) ∧ Pk K O H x dx ∧ g dx lo hi = some zs ∧ ∀ p vs, H p = none → FzL K O H vs zs → Q (.ref p) (upd H p (.lst vs))
theorem n_sl : SlR X (rNS X.K slL) := by
  intro pins s σ H x v vl vu lo hi sl Q I rx hs pl pu ⟨O, dx, z, hO, px, e, q⟩
  match dx, e with
  | .list xs, e =>
    cases e
    obtain ⟨a, vs, rfl, r1, f1⟩ := px.lst_inv
    exact sl_list pins s σ H _ v vl vu lo hi sl Q I rx hs pl pu ⟨a, vs, rfl, .inl (.inl r1), fun p hp => q p _ hp (cut_fz f1 lo hi)⟩
theorem p_sl : SlR X (rPS X.K slD) := by
  intro pins s σ H x v vl vu lo hi sl Q I rx hs pl pu ⟨O, dx, z, hO, px, e, q⟩
  match dx, e with
  | .list xs, e =>
    cases e
    obtain ⟨a, vs, rfl, r1, f1⟩ := px.lst_inv
    exact sl_list pins s σ H _ v vl vu lo hi sl Q I rx hs pl pu ⟨a, vs, rfl, .inl (.inl r1), fun p hp => q _ _ (Ext.upd hp) (fz_newL hO hp (cut_fz f1 lo hi))⟩
  | .tuple xs, e =>
    cases e
    obtain ⟨a, vs, rfl, r1, f1⟩ := px.tup_inv
    refine sl_tupA pins s σ H _ v vl vu lo hi sl Q I rx hs pl pu ⟨a, vs, rfl, r1.sq, fun hw => ?_, fun _ p hp => q _ _ (Ext.upd hp) (fz_newT hO hp (cut_fz f1 lo hi))⟩
    have : cutD xs lo hi = xs := by
      unfold cutD
      rw [← f1.length, hw.1, hw.2, List.drop_zero, Nat.sub_zero, f1.length]
      exact List.take_length
    rw [this] at q
    exact q _ H (fun _ _ e => e) (.tup r1 f1)
/-- a slice's part -/
def gPn : G (Option Int) := fun ρ => .ret (none, ρ)
def gPs (a : G Opd) : G (Option Int) := fun ρ => (a ρ).bind fun r => (rd r.2 r.1).bind fun x => match x with
  | .int i => .ret (some i, r.2)
  | _ => .stuck
def TOm (K : PySem.W.Frag) (C : Ct) (g : G (Option Int)) : TO := fun σ H Q => ∃ (w : Wd) (ρ : Rho), w.H = H ∧ Le C.base w ∧ SR K w σ ρ ∧
  (g ρ).wp (fun r => ∀ (w' : Wd), Le w w' → SR K w' σ r.2 → Q r.1 w'.H) C.Ex
abbrev DP (X : Cx) (C : Ct) (e : Option Expr) (g : G (Option Int)) : Prop := PO X e (TOm X.K C g)
theorem PO.imp {e : Option Expr} {t t' : TO} (h : PO X e t) (i : ∀ σ H Q, t' σ H Q → t σ H Q) : PO X e t' := ⟨fun pins s σ H Q I q => h.run pins s σ H Q I (i _ _ _ q)⟩
theorem dp_none : DP X C none gPn := PO.imp po_none fun σ H Q ⟨w, ρ, hw, l, sr, q⟩ => by subst hw; exact q w .refl sr
theorem dp_some (h : DO X C a ga) : DP X C (some a) (gPs ga) := PO.imp (po_some h) fun σ H Q ⟨w, ρ, hw, l, sr, q⟩ => by
  refine ⟨w, ρ, hw, l, sr, M.wp_mono (M.wp_bind.mp q) (fun r q v w1 l1 s1 r1 => ?_) fun _ z => z⟩
  obtain ⟨x, px, ex, q⟩ := rd_pk s1 r1 (M.wp_bind.mp q)
  cases x with
  | int i => exact ⟨i, px.int_inv, q w1 l1 s1⟩
  | _ => exact q.elim
def gSl {α : Type} (f : D → Option Int → Option Int → Option α) (mk : α → D) (a : G Opd) (lo hi : G (Option Int)) : G D := fun ρ => (a ρ).bind fun r => (lo r.2).bind fun l => (hi l.2).bind fun h => (rd h.2 r.1).bind fun x => (M.ofOpt (f x l.1 h.1)).bind fun z => .ret (mk z, h.2)
theorem de_sl {lo hi : Option Expr} {gl gh : G (Option Int)} {p2 : Pos} (ha : DO X C a ga) (hl : DP X C lo gl) (hh : DP X C hi gh) : DE X C (.Subscript a (.Slice lo hi none p2) pos) (gSl slD id ga gl gh) :=
  PE.imp (pe_slice p_sl ha hl hh) fun σ H Q ⟨w, ρ, hw, l, sr, q⟩ => by
    refine ⟨w, ρ, hw, l, sr, M.wp_mono (M.wp_bind.mp q) (fun r q v w1 l1 s1 r1 => ?_) fun _ z => z⟩
    refine ⟨w1, r.2, rfl, l.trans l1, s1, M.wp_mono (M.wp_bind.mp q) (fun lo q w2 l2 s2 => ?_) fun _ z => z⟩
    refine ⟨w2, lo.2, rfl, l.trans (l1.trans l2), s2, M.wp_mono (M.wp_bind.mp q) (fun hi q w3 l3 s3 => ?_) fun _ z => z⟩
    obtain ⟨x, px, ex, q⟩ := rd_pk s3 (ROo.le (l2.trans l3) r1) (M.wp_bind.mp q)
    obtain ⟨z, hz, q⟩ := wp_ofOpt (M.wp_bind.mp q)
    exact ⟨w3.O, x, z, s3.ok.there, px, hz, fun v' H' e fz => q v' { w3 with H := H' } (l1.trans (l2.trans (l3.trans (.ext e)))) (s3.ext e) fz⟩
theorem dn_sl {lo hi : Option Expr} {gl gh : G (Option Int)} {p2 : Pos} (ha : DO X C a ga) (hl : DP X C lo gl) (hh : DP X C hi gh) : DN X C (.Subscript a (.Slice lo hi none p2) pos) (gSl slL .list ga gl gh) :=
  PE.imp (pe_slice n_sl ha hl hh) fun σ H Q ⟨w, ρ, hw, l, sr, q⟩ => by
    refine ⟨w, ρ, hw, l, sr, M.wp_mono (M.wp_bind.mp q) (fun r q v w1 l1 s1 r1 => ?_) fun _ z => z⟩
    refine ⟨w1, r.2, rfl, l.trans l1, s1, M.wp_mono (M.wp_bind.mp q) (fun lo q w2 l2 s2 => ?_) fun _ z => z⟩
    refine ⟨w2, lo.2, rfl, l.trans (l1.trans l2), s2, M.wp_mono (M.wp_bind.mp q) (fun hi q w3 l3 s3 => ?_) fun _ z => z⟩
    obtain ⟨x, px, ex, q⟩ := rd_pk s3 (ROo.le (l2.trans l3) r1) (M.wp_bind.mp q)
    obtain ⟨z, hz, q⟩ := wp_ofOpt (M.wp_bind.mp q)
    exact ⟨w3.O, x, z, s3.ok.there, px, hz, fun p vs hp f => q (.ref p) (w3.alloc p (.lst vs)) (l1.trans (l2.trans (l3.trans (alloc_le hp s3.ok)))) (s3.alloc hp) (rw_list hp s3 f)⟩
end

/-! ### built-in functions -/
section
variable {X : Cx}
theorem pkL1 {K : PySem.W.Frag} {O : Addr → Prop} {H : Hp} {vs : List V} {x : D} (h : PkL K O H vs [x]) : ∃ v, vs = [v] ∧ Pk K O H v x := by
  cases h with
  | cons h t => cases t; exact ⟨_, rfl, h⟩
theorem pkL2 {K : PySem.W.Frag} {O : Addr → Prop} {H : Hp} {vs : List V} {x y : D} (h : PkL K O H vs [x, y]) : ∃ v u, vs = [v, u] ∧ Pk K O H v x ∧ Pk K O H u y := by
  cases h with
  | cons h t => cases t with
    | cons h2 t => cases t; exact ⟨_, _, rfl, h, h2⟩
def lenD : List D → Option D
  | [.list xs] => some (.int xs.length)
  | [.tuple xs] => some (.int xs.length)
  | [.dict kvs] => some (.int kvs.length)
  | [.str x] => if x.length ≤ LIM then some (.int x.length) else none
  | _ => none
theorem p_len : PureN X (.builtin "len") lenD := by
  intro pins s σ H xs us Q I rs ⟨O, ds, z, hO, pk, e, q⟩
  match ds, e with
  | [.list ys], e =>
    cases e
    obtain ⟨v, rfl, p⟩ := pkL1 pk
    obtain ⟨a, vs, rfl, r1, f1⟩ := p.lst_inv
    exact call_len_seq pins s σ H _ us Q I rs ⟨a, vs, rfl, .inl (.inl (.inl r1)), by rw [f1.length]; exact q _ H (fun _ _ e => e) (.int _)⟩
  | [.tuple ys], e =>
    cases e
    obtain ⟨v, rfl, p⟩ := pkL1 pk
    obtain ⟨a, vs, rfl, r1, f1⟩ := p.tup_inv
    exact call_len_seq pins s σ H _ us Q I rs ⟨a, vs, rfl, .inr r1.sq, by rw [f1.length]; exact q _ H (fun _ _ e => e) (.int _)⟩
  | [.dict kvs], e =>
    cases e
    obtain ⟨v, rfl, p⟩ := pkL1 pk
    have : ∃ a ks vs xs, v = .ref a ∧ DcR H a ks vs ∧ FzL X.K O H vs xs ∧ kvs = ks.zip xs := by
      cases p with
      | of h => cases h with
        | dic n d f => exact ⟨_, _, _, _, rfl, d, f, rfl⟩
      | dic d f => exact ⟨_, _, _, _, rfl, d, f, rfl⟩
    obtain ⟨a, ks, vs, xs, rfl, d, f, rfl⟩ := this
    rcases d with ⟨kvs, h, rfl, rfl⟩ | ⟨kvs, h, rfl, rfl⟩
    · refine call_lenD pins s σ H _ us Q I rs ⟨a, kvs, rfl, h, ?_⟩
      have := f.length
      have e2 : ((kvs.map (fun p => keyD p.1)).zip xs).length = kvs.length := by rw [List.length_zip]; simp only [List.length_map] at this ⊢; omega
      rw [e2] at q
      exact q _ H (fun _ _ e => e) (.int _)
    · refine call_len_dT pins s σ H _ us Q I rs ⟨a, kvs, rfl, h, ?_⟩
      have := f.length
      have e2 : ((kvs.map (fun p => PyData.tuple (p.1.map keyD))).zip xs).length = kvs.length := by rw [List.length_zip]; simp only [List.length_map] at this ⊢; omega
      rw [e2] at q
      exact q _ H (fun _ _ e => e) (.int _)
  | [.str x], e =>
    obtain ⟨hc, rfl⟩ := if_some (show (if x.length ≤ LIM then some (PyData.int x.length) else none) = some z from e)
    obtain ⟨v, rfl, p⟩ := pkL1 pk
    exact call_len_str pins s σ H _ us Q I rs ⟨x, by rw [p.str_inv], lim_line hc, q _ H (fun _ _ e => e) (.int _)⟩
/-- list(x), tuple(x) -/
def listL : List D → Option (List D)
  | [.list xs] => some xs
  | [.tuple xs] => some xs
  | _ => none
def tupD : List D → Option D
  | [.list xs] => some (.tuple xs)
  | [.tuple xs] => some (.tuple xs)
  | _ => none
theorem n_list : NewN X (.type "list") listL := by
  intro pins s σ H xs us Q I rs ⟨O, ds, z, hO, pk, e, q⟩
  match ds, e with
  | [.list ys], e =>
    cases e
    obtain ⟨v, rfl, p⟩ := pkL1 pk
    obtain ⟨a, vs, rfl, r1, f1⟩ := p.lst_inv
    exact call_list_of pins s σ H _ us Q I rs ⟨a, vs, rfl, .inl (.inl (.inl r1)), fun l hl => q l vs hl f1⟩
  | [.tuple ys], e =>
    cases e
    obtain ⟨v, rfl, p⟩ := pkL1 pk
    obtain ⟨a, vs, rfl, r1, f1⟩ := p.tup_inv
    exact call_list_of pins s σ H _ us Q I rs ⟨a, vs, rfl, .inr r1.sq, fun l hl => q l vs hl f1⟩
theorem p_tuple : PureN X (.type "tuple") tupD := by
  intro pins s σ H xs us Q I rs ⟨O, ds, z, hO, pk, e, q⟩
  match ds, e with
  | [.list ys], e =>
    cases e
    obtain ⟨v, rfl, p⟩ := pkL1 pk
    obtain ⟨a, vs, rfl, r1, f1⟩ := p.lst_inv
    exact call_tuple_of pins s σ H _ us Q I rs ⟨a, vs, rfl, .inl ⟨.inl (.inl r1), fun l hl => q _ _ (Ext.upd hl) (fz_newT hO hl f1)⟩⟩
  | [.tuple ys], e =>
    cases e
    obtain ⟨v, rfl, p⟩ := pkL1 pk
    obtain ⟨a, vs, rfl, r1, f1⟩ := p.tup_inv
    exact call_tuple_of pins s σ H _ us Q I rs ⟨a, vs, rfl, .inr ⟨r1.sq, q _ H (fun _ _ e => e) (.tup r1 f1)⟩⟩
/-- what all items are -/
def intsOf : List D → Option (List Int)
  | [] => some []
  | .int i :: xs => (intsOf xs).map (i :: ·)
  | _ => none
def boolsOf : List D → Option (List Bool)
  | [] => some []
  | .bool i :: xs => (boolsOf xs).map (i :: ·)
  | _ => none
theorem intsOf_some : ∀ {xs : List D} {ns : List Int}, intsOf xs = some ns → xs = ns.map .int
  | [], _, h => by cases h; rfl
  | .int i :: xs, ns, h => by
    have h' : (intsOf xs).map (i :: ·) = some ns := h
    cases e : intsOf xs with
    | none => rw [e] at h'; cases h'
    | some ms => rw [e] at h'; cases h'; rw [intsOf_some e]; rfl
theorem boolsOf_some : ∀ {xs : List D} {ns : List Bool}, boolsOf xs = some ns → xs = ns.map .bool
  | [], _, h => by cases h; rfl
  | .bool i :: xs, ns, h => by
    have h' : (boolsOf xs).map (i :: ·) = some ns := h
    cases e : boolsOf xs with
    | none => rw [e] at h'; cases h'
    | some ms => rw [e] at h'; cases h'; rw [boolsOf_some e]; rfl
theorem intsOf_map : ∀ ns : List Int, intsOf (ns.map .int) = some ns
  | [] => rfl
  | n :: ns => by show (intsOf (ns.map .int)).map (n :: ·) = _; rw [intsOf_map ns]; rfl
theorem boolsOf_map : ∀ ns : List Bool, boolsOf (ns.map .bool) = some ns
  | [] => rfl
  | n :: ns => by show (boolsOf (ns.map .bool)).map (n :: ·) = _; rw [boolsOf_map ns]; rfl
theorem FzL.bools {K : PySem.W.Frag} {O : Addr → Prop} {H : Hp} : ∀ {vs : List V} {ns : List Bool}, FzL K O H vs (ns.map .bool) → vs = ns.map V.bl
  | _, [], .nil => rfl
  | _, n :: ns, .cons (.bl _) t => by rw [FzL.bools t]; rfl
def sumD : List D → Option D
  | [.list xs] => (intsOf xs).map fun ns => .int ns.sum
  | _ => none
theorem map_some {α β : Type} {o : Option α} {f : α → β} {z : β} (h : o.map f = some z) : ∃ a, o = some a ∧ z = f a := by
  cases o with
  | none => cases h
  | some a => cases h; exact ⟨a, rfl, rfl⟩
theorem p_sum (hc : X.calm = true) : PureN X (.builtin "sum") sumD := by
  intro pins s σ H xs us Q I rs ⟨O, ds, z, hO, pk, e, q⟩
  match ds, e with
  | [.list ys], e =>
    obtain ⟨ns, e1, rfl⟩ := map_some (show (intsOf ys).map (fun ns => PyData.int ns.sum) = some z from e)
    obtain rfl := intsOf_some e1
    obtain ⟨v, rfl, p⟩ := pkL1 pk
    obtain ⟨a, vs, rfl, r1, f1⟩ := p.lst_inv
    obtain rfl := f1.map_int_inv
    exact cr_sum hc pins s σ H _ us Q I rs ⟨a, ns, rfl, .inl (.inl r1), q _ H (fun _ _ e => e) (.int _)⟩
def allD : List D → Option D
  | [.list xs] => (boolsOf xs).map fun ns => .bool (ns.all id)
  | _ => none
def anyD : List D → Option D
  | [.list xs] => (boolsOf xs).map fun ns => .bool (ns.any id)
  | _ => none
theorem p_all (hc : X.calm = true) : PureN X (.builtin "all") allD := by
  intro pins s σ H xs us Q I rs ⟨O, ds, z, hO, pk, e, q⟩
  match ds, e with
  | [.list ys], e =>
    obtain ⟨ns, e1, rfl⟩ := map_some (show (boolsOf ys).map (fun ns => PyData.bool (ns.all id)) = some z from e)
    obtain rfl := boolsOf_some e1
    obtain ⟨v, rfl, p⟩ := pkL1 pk
    obtain ⟨a, vs, rfl, r1, f1⟩ := p.lst_inv
    obtain rfl := f1.bools
    exact cr_all hc pins s σ H _ us Q I rs ⟨a, ns, rfl, .inl (.inl r1), q _ H (fun _ _ e => e) (.bl _)⟩
theorem p_any (hc : X.calm = true) : PureN X (.builtin "any") anyD := by
  intro pins s σ H xs us Q I rs ⟨O, ds, z, hO, pk, e, q⟩
  match ds, e with
  | [.list ys], e =>
    obtain ⟨ns, e1, rfl⟩ := map_some (show (boolsOf ys).map (fun ns => PyData.bool (ns.any id)) = some z from e)
    obtain rfl := boolsOf_some e1
    obtain ⟨v, rfl, p⟩ := pkL1 pk
    obtain ⟨a, vs, rfl, r1, f1⟩ := p.lst_inv
    obtain rfl := f1.bools
    exact cr_any hc pins s σ H _ us Q I rs ⟨a, ns, rfl, .inl (.inl r1), q _ H (fun _ _ e => e) (.bl _)⟩
def minD2 : List D → Option D
  | [.int i, .int j] => some (.int (if j < i then j else i))
  | _ => none
def maxD2 : List D → Option D
  | [.int i, .int j] => some (.int (if j > i then j else i))
  | _ => none
theorem p_min2 (hc : X.calm = true) : PureN X (.builtin "min") minD2 := by
  intro pins s σ H xs us Q I rs ⟨O, ds, z, hO, pk, e, q⟩
  match ds, e with
  | [.int i, .int j], e =>
    cases e
    obtain ⟨v, u, rfl, p1, p2⟩ := pkL2 pk
    exact call_min2 hc pins s σ H _ us Q I rs ⟨i, j, by rw [p1.int_inv, p2.int_inv], q _ H (fun _ _ e => e) (.int _)⟩
theorem p_max2 (hc : X.calm = true) : PureN X (.builtin "max") maxD2 := by
  intro pins s σ H xs us Q I rs ⟨O, ds, z, hO, pk, e, q⟩
  match ds, e with
  | [.int i, .int j], e =>
    cases e
    obtain ⟨v, u, rfl, p1, p2⟩ := pkL2 pk
    exact call_max2 hc pins s σ H _ us Q I rs ⟨i, j, by rw [p1.int_inv, p2.int_inv], q _ H (fun _ _ e => e) (.int _)⟩
def absD : List D → Option D
  | [.int i] => some (.int (if i < 0 then -i else i))
  | _ => none
def intD : List D → Option D
  | [.int i] => some (.int i)
  | [.bool k] => some (.int (if k then 1 else 0))
  | _ => none
theorem p_abs : PureN X (.builtin "abs") absD := by
  intro pins s σ H xs us Q I rs ⟨O, ds, z, hO, pk, e, q⟩
  match ds, e with
  | [.int i], e =>
    cases e
    obtain ⟨v, rfl, p1⟩ := pkL1 pk
    exact call_abs pins s σ H _ us Q I rs ⟨i, by rw [p1.int_inv], q _ H (fun _ _ e => e) (.int _)⟩
theorem p_int : PureN X (.type "int") intD := by
  intro pins s σ H xs us Q I rs ⟨O, ds, z, hO, pk, e, q⟩
  match ds, e with
  | [.int i], e =>
    cases e
    obtain ⟨v, rfl, p1⟩ := pkL1 pk
    exact call_int1 pins s σ H _ us Q I rs (.inl ⟨i, by rw [p1.int_inv], q _ H (fun _ _ e => e) (.int _)⟩)
  | [.bool i], e =>
    cases e
    obtain ⟨v, rfl, p1⟩ := pkL1 pk
    exact call_int1 pins s σ H _ us Q I rs (.inr ⟨i, by rw [p1.bl_inv], q _ H (fun _ _ e => e) (.int _)⟩)
end
end DL

/-! DL10: isinstance, repr, methods that change a list -/
namespace DL
open PySem PySem.Spec PyProof.Rows L2
/-! ### isinstance -/
section
variable {X : Cx} {C : Ct} {e : Expr} {pos p p2 : Pos} {ga : G Opd}
def gIs (f : D → Bool) (a : G Opd) : G D := fun ρ => (a ρ).bind fun r => (rd r.2 r.1).bind fun x => .ret (.bool (f x), r.2)
def IsiT (T : String) (f : D → Bool) : Prop := ∀ {prog : Program} {w : World} {A : Around} {E : Value → Shared → Prop} {s : Shared} {v : Value} {d : PyData} {as : List Addr} {Q : Value → Shared → Prop}, Reads s.heap v d as → (∀ tk, s.toks ≤ tk → Q (.bool (f d)) { s with toks := tk }) →
  wpAny (model prog w) A (call (.builtin "isinstance") [v, .type T]) Q E s
theorem isi_int : IsiT "int" PyData.isInt := fun r h => PySem.W.isinstance_int_data r h
theorem isi_bool : IsiT "bool" PyData.isBool := fun r h => PySem.W.isinstance_bool_data r h
theorem isi_str : IsiT "str" PyData.isStr := fun r h => PySem.W.isinstance_str_data r h
theorem isi_tuple : IsiT "tuple" PyData.isTuple := fun r h => PySem.W.isinstance_tuple_data r h
theorem isi_list : IsiT "list" PyData.isList := fun r h => PySem.W.isinstance_list_data r h
theorem isi_dict : IsiT "dict" PyData.isDict := fun r h => PySem.W.isinstance_dict_data r h
theorem call_isiD {T : String} {f : D → Bool} (h : IsiT T f) : CallR X (.builtin "isinstance") (fun xs H Q => ∃ (O : Addr → Prop) (x : V) (dx : D), xs = [x, .ty T] ∧ Pk X.K O H x dx ∧ Q (.bl (f dx)) H) := by
  intro pins s σ H xs us Q I rs ⟨O, x, dx, e, px, q⟩
  subst e
  cases rs with
  | cons r1 rs => cases rs with
    | cons r2 rs =>
      cases rs
      cases r2
      obtain ⟨as, rd⟩ := px.reads I r1
      exact h rd fun tk _ => ⟨.bl _, H, I.tok tk, rfl, q⟩
theorem de_isi {T : String} {f : D → Bool} {t : Str} (h : IsiT T f) (ha : DO X C e ga) (hm : X.mg "isinstance" = none) (hmt : X.mg t = none) (hvt : bootBuiltins t = some (.type T) := by decide +kernel) (hg : Gl X "isinstance" := by rfl) (hgt : Gl X t := by rfl) (hv : bootBuiltins "isinstance" = some (.builtin "isinstance") := by decide +kernel)
    (hn : t ≠ "__name__" := by decide) (hd : (t == ("__debug__" : Str)) = false := by decide) (he : starEach [e, .Name t p2] X.env = (false, eval e X.env) :: starEach [.Name t p2] X.env := by rfl) (hpl : (backTo pos (starEach [.Name t p2] X.env)).any (·.1) = false := by rfl) (hs : starEach [.Name t p2] X.env = (false, eval (.Name t p2) X.env) :: starEach [] X.env := by rfl) :
    DE X C (.Call (.Name "isinstance" p) [e, .Name t p2] [] pos) (gIs f ga) :=
  PE.imp (pe_callB (call_isiD h) hg hm hv (pa_cons ha (pa_cons (pe_bltn (v := .ty T) hgt hmt hvt rfl hn hd) pa_nil hs) he) (by decide) (by decide) he hpl) fun σ H Q ⟨w, ρ, hw, l, sr, q⟩ => by
    refine ⟨w, ρ, hw, l, sr, M.wp_mono (M.wp_bind.mp q) (fun r q v w1 l1 s1 r1 => ?_) fun _ z => z⟩
    obtain ⟨x, px, ex, q⟩ := rd_pk s1 r1 (M.wp_bind.mp q)
    exact ⟨w1.O, v, x, rfl, px, q _ w1 l1 s1 (.bl _)⟩
end
/-! ### repr -/
def reprD : List D → Option D
  | [x] => if shal 20 x = true ∧ x.showable = true ∧ x.shown.length ≤ LIM then some (.str x.shown) else none
  | _ => none
mutual
theorem shal_nodict : ∀ (n : Nat) (x : D), shal n x = true → x.hasDict = false
  | _, .none, _ => by simp [PyData.hasDict]
  | _, .bool _, _ => by simp [PyData.hasDict]
  | _, .int _, _ => by simp [PyData.hasDict]
  | _, .str _, _ => by simp [PyData.hasDict]
  | 0, .list _, h => by simp [shal] at h
  | 0, .tuple _, h => by simp [shal] at h
  | n + 1, .list xs, h => by simpa [PyData.hasDict] using shalL_nodict n xs (by simpa [shal] using h)
  | n + 1, .tuple xs, h => by simpa [PyData.hasDict] using shalL_nodict n xs (by simpa [shal] using h)
  | _, .dict _, h => by simp [shal] at h
theorem shalL_nodict : ∀ (n : Nat) (xs : List D), shalL n xs = true → PyData.hasDictAll xs = false
  | _, [], _ => by simp [PyData.hasDictAll]
  | n, x :: xs, h => by
    simp only [shalL, Bool.and_eq_true] at h
    simp [PyData.hasDictAll, shal_nodict n x h.1, shalL_nodict n xs h.2]
end
theorem p_repr {X : Cx} (hu : X.A.units + 64 < cLine) (hg : X.A.guards = some []) : PureN X (.builtin "repr") reprD := by
  intro pins s σ H xs us Q I rs ⟨O, ds, z, hO, pk, e, q⟩
  match ds, e with
  | [x], e =>
    obtain ⟨hc, rfl⟩ := if_some e
    obtain ⟨h1, h2, h3⟩ := hc
    obtain ⟨v, rfl, px⟩ := pkL1 pk
    cases rs with
    | cons r1 rs =>
      cases rs
      rename_i u
      obtain ⟨as, hr⟩ := px.reads I r1
      have fin : ∀ (h' : Heap) (u : Tok) (tk : Nat), (∀ b o, s.heap.get? b = some o → h'.get? b = some o) → EP X pins σ Q (.str x.shown u) { s with heap := h', toks := tk } := fun h' u tk k =>
        ⟨.str _, H, I.kept (t' := tk) k, ⟨_, rfl⟩, q _ H (fun _ _ e => e) (.str _)⟩
      have fin0 : EP X pins σ Q (.str x.shown s.toks) { s with toks := s.toks + 1 } := fin s.heap _ _ fun _ _ e => e
      cases hr with
      | none => exact PySem.P.repr_of_none (by simpa [PyData.shown] using fin0)
      | bool b => exact PySem.P.repr_of_bool (by simpa [PyData.shown] using fin0)
      | int i t => exact PySem.P.repr_of_int (by simpa [PyData.showable] using h2) (by simpa [PyData.shown] using fin0)
      | str y t => exact PySem.P.repr_of_str (by simpa [PyData.shown] using fin0) (by simpa [PyData.shown] using lim_line h3)
      | list a b c d => exact repr_of_reads' (.list a b c d) h2 (PyData.noDict_hsm (shal_nodict 20 _ h1)) hg (by have := (shal_plain 20 _ h1).2; omega) (fun _ _ e => e) fin (lim_line h3)
      | tuple a b c d => exact repr_of_reads' (.tuple a b c d) h2 (PyData.noDict_hsm (shal_nodict 20 _ h1)) hg (by have := (shal_plain 20 _ h1).2; omega) (fun _ _ e => e) fin (lim_line h3)
      | dict a b c d e => simp [shal] at h1

/-! ### methods that change a list -/
def rMut (K : PySem.W.Frag) (f : List D → List D → Option (D × List D)) : V → List V → Hp → VK → Prop := fun x ws H Q => ∃ (O : Addr → Prop) (l : Addr) (vs : List V) (xs ys : List D) (z : D) (xs' : List D), x = .ref l ∧ O l ∧ H l = some (.lst vs) ∧ FzL K O H vs xs ∧ FzL K O H ws ys ∧ f xs ys = some (z, xs') ∧
  ∀ v vs', FzL K O H vs' xs' → Fz K O H v z → Q v (upd H l (.lst vs'))
abbrev MutR (X : Cx) (id : String) (f : List D → List D → Option (D × List D)) : Prop := MtR X id (rMut X.K f)
def gMut (i : Nat) (f : List D → List D → Option (D × List D)) (a : G (List Opd)) : G D := fun ρ => match ρ[i]? with
  | some (.own _ (.list _)) => (a ρ).bind fun r => (vL r.1).bind fun ys => match r.2[i]? with
    | some (.own t (.list xs)) => (M.ofOpt (f xs ys)).bind fun z => .ret (z.1, r.2.set i (.own t (.list z.2)))
    | _ => .stuck
  | _ => .stuck
def appD : List D → List D → Option (D × List D)
  | xs, [y] => if xs.length + 1 ≤ LIM then some (.none, xs ++ [y]) else none
  | _, _ => none
def popD : List D → List D → Option (D × List D)
  | xs, [] => (xs[xs.length - 1]?).map fun y => (y, xs.dropLast)
  | xs, [.int i] => (ixN xs.length i).bind fun k => if xs.length ≤ LIM then (xs[k]?).map fun y => (y, xs.eraseIdx k) else none
  | _, _ => none
theorem FzL.dropLast {K : PySem.W.Frag} {O : Addr → Prop} {H : Hp} {vs : List V} {xs : List D} (f : FzL K O H vs xs) : FzL K O H vs.dropLast xs.dropLast := by
  rw [List.dropLast_eq_take, List.dropLast_eq_take, f.length]
  exact f.take _
section
variable {X : Cx} {C : Ct} {e : Expr} {es : List Expr} {pos p apos cpos : Pos} {g : G (List Opd)} {K : PySem.W.Frag} {w : Wd} {σ : L2.St} {ρ : Rho}
theorem m_append : MutR X "list.append" appD := by
  intro pins s σ H x ws v us Q I rx rs ⟨O, l, vs, xs, ys, z, xs', e1, ho, hl, f1, f2, e, q⟩
  match ys, e with
  | [y], e =>
    obtain ⟨hc, e2⟩ := if_some (show (if xs.length + 1 ≤ LIM then some (PyData.none, xs ++ [y]) else none) = some (z, xs') from e)
    cases e2
    cases f2 with
    | cons fy fn =>
      cases fn
      exact mt_append pins s σ H x _ v us Q I rx rs ⟨l, vs, _, e1, rfl, hl, Nat.lt_of_succ_le (by rw [f1.length]; exact lim_line hc), q _ _ (f1.append (.cons fy .nil)) .non⟩
theorem m_pop : MutR X "list.pop" popD := by
  intro pins s σ H x ws v us Q I rx rs ⟨O, l, vs, xs, ys, z, xs', e1, ho, hl, f1, f2, e, q⟩
  match ys, e with
  | [], e =>
    cases f2
    obtain ⟨y, e3, e4⟩ := map_some (show (xs[xs.length - 1]?).map (fun y => (y, xs.dropLast)) = some (z, xs') from e)
    cases e4
    obtain ⟨u, h1, h2⟩ := f1.get e3
    exact mt_pop pins s σ H x _ v us Q I rx rs ⟨l, vs, u, e1, rfl, hl, by rw [f1.length]; exact h1, q _ _ f1.dropLast h2⟩
  | [.int i], e =>
    cases f2 with
    | cons fy fn =>
      cases fn
      cases fy
      have e' : ((ixN xs.length i).bind fun k => if xs.length ≤ LIM then (xs[k]?).map fun y => (y, xs.eraseIdx k) else none) = some (z, xs') := e
      cases hk : ixN xs.length i with
      | none => rw [hk] at e'; cases e'
      | some k =>
        rw [hk] at e'
        have e' : (if xs.length ≤ LIM then (xs[k]?).map fun y => (y, xs.eraseIdx k) else none) = some (z, xs') := e'
        by_cases hz : xs.length ≤ LIM
        · rw [if_pos hz] at e'
          obtain ⟨y, e3, e4⟩ := map_some e'
          cases e4
          obtain ⟨u, h1, h2⟩ := f1.get e3
          obtain ⟨q1, q2, q3, q4⟩ := ixN_seq hk
          have hb : (xs.length : Int) ≤ 16777216 := by have : xs.length ≤ 16777216 := hz; omega
          exact mt_popAt pins s σ H x _ v us Q I rx rs ⟨l, vs, i, k, u, e1, rfl, hl, by omega, by omega, by rw [f1.length]; exact q1, h1, q _ _ (f1.eraseIdx k) h2⟩
        · rw [if_neg hz] at e'; cases e'
/-- the list that a name owns is changed -/
theorem mut_sr {i t : Nat} {l : Addr} {vs' : List V} {xs xs' : List D} (s : SR K w σ ρ) (q : ρ[i]? = some (.own t (.list xs))) (e : σ[i]? = some (some (.ref l))) (hO : w.O l) (hH : ¬ w.Hd l) (hP : ¬ w.Pr l) (hT : t = 0 ∨ l = w.ln t) (f : FzL K w.O w.H vs' xs') :
    Le w { w with H := upd w.H l (.lst vs') } ∧ SR K { w with H := upd w.H l (.lst vs') } σ (ρ.set i (.own t (.list xs'))) ∧ Keep w.O w.H w.O (upd w.H l (.lst vs')) := by
  have hi : i < ρ.length := (List.getElem?_eq_some_iff.mp q).1
  have s0 := s.unset (i := i)
  have ne : ∀ (j t : Nat) (y : D), (ρ.set i .un)[j]? = some (.own t y) → σ[j]? ≠ some (some (.ref l)) := fun j u y qj ej => by
    by_cases hj : j = i
    · subst hj
      rw [List.getElem?_set_self hi] at qj; cases qj
    · rw [List.getElem?_set_ne (Ne.symm hj)] at qj
      exact s.dis i j _ _ _ _ _ (Ne.symm hj) q qj e ej
  have s1 := grow_sr (o := .lst vs') s0 hO hH ne
  obtain ⟨_, k⟩ := grow_ok (o := .lst vs') s.ok hO hH rfl
  have l1 : Le w { w with H := upd w.H l (.lst vs') } := ⟨k, fun _ h => h, fun _ h => h, (fun a o ha he => by
    have na : a ≠ l := fun z => hP (z ▸ ha)
    rw [show ({ w with H := upd w.H l (.lst vs') } : Wd).H a = w.H a from upd_ne na]; exact he), rfl⟩
  refine ⟨l1, ?_, k⟩
  have rw' : RWt K t { w with H := upd w.H l (.lst vs') } σ (ρ.set i .un) (.ref l) (.list xs') := ⟨l, rfl, .ownL hO hH hP upd_same (f.keep k) hT, ne⟩
  have s2 := s1.setW (i := i) rw'
  rw [List.set_set, set_self e] at s2
  exact s2
theorem de_mut {i : Nat} {x name : Str} {id : String} {f : List D → List D → Option (D × List D)} (pa : PlainAttrs "list") (slot : Slot "list" name id) (hty : typeOf (.builtin id) = pure (.type "method_descriptor")) (hm : MutR X id f)
    (hx : PE X (.Name x p) (tVar i)) (ha : DA X C (e :: es) g) (hbase : attributeBase (.Name x p) name X.env (eval (.Name x p) X.env) = eval (.Name x p) X.env := by rfl)
    (hfew : ((backTo cpos (starEach (e :: es) X.env)).all (fun x => !x.1) && (backToKw cpos (keywordEach [] X.env)).all (fun x => x.1.isSome)
      && decide ((e :: es).length + ([] : List Keyword).length + (if ([] : List Keyword).isEmpty then 0 else 1) < 30)) = true := by rfl)
    (hline : (apos.endLine == cpos.line) = true := by rfl) (hs : starEach (e :: es) X.env = (false, eval e X.env) :: starEach es X.env := by rfl) (hplain : (backTo cpos (starEach es X.env)).any (·.1) = false := by rfl) :
    DE X C (.Call (.Attribute (.Name x p) name apos) (e :: es) [] cpos) (gMut i f g) :=
  PE.imp (pe_bm pa slot hty hm hx ha hbase hfew hline hs hplain) fun σ H Q ⟨w, ρ, hw, l, sr, q⟩ => by
    subst hw
    unfold gMut at q
    split at q
    · rename_i t0 xs0 hx0
      obtain ⟨a, e1, h1, h2, h3, pk⟩ := (sr.slot i _ hx0).own_at
      have e1 := join_some e1
      obtain ⟨a', vs0, ea, r0, _⟩ := pk.lst_inv
      cases ea
      refine ⟨.ref a, e1, .inl ⟨rfl, vs0, .inl (.inl r0)⟩, w, ρ, rfl, l, sr, M.wp_mono (M.wp_bind.mp q) (fun r q vs w1 l1 s1 r1 => ?_) fun _ z => z⟩
      obtain ⟨ys, f2, q⟩ := vL_fz r1 (M.wp_bind.mp q)
      split at q
      · rename_i t1 xs1 hx1
        have hs := s1.slot i _ hx1
        rw [show σ[i]?.join = some (V.ref a) by rw [e1]; rfl] at hs
        cases hs with
        | ownL g1 g2 g3 g4 g5 g6 =>
          obtain ⟨z, hz, q⟩ := wp_ofOpt (M.wp_bind.mp q)
          refine ⟨w1.O, a, _, xs1, ys, z.1, z.2, rfl, g1, g4, g5, f2, hz, fun v vs' fv fz => ?_⟩
          obtain ⟨l2, s2, k⟩ := mut_sr s1 hx1 e1 g1 g2 g3 g6 fv
          exact q v _ (l1.trans l2) s2 (fz.keep k)
      · exact q.elim
    · exact q.elim
/-- x[k] = e -/
def setD (xs : List D) (k : D) (y : D) : Option (List D) := match k with
  | .int k => (ixN xs.length k).map fun j => xs.set j y
  | _ => none
def gStI (i : Nat) (k : G Opd) (a : G D) : G Fl := fun ρ => (a ρ).bind fun r => match r.2[i]? with
  | some (.own _ (.list _)) => (k r.2).bind fun s => (rd s.2 s.1).bind fun kd => match s.2[i]? with
    | some (.own t (.list xs)) => (M.ofOpt (setD xs kd r.1)).bind fun z => .ret (.nx, s.2.set i (.own t (.list z)))
    | _ => .stuck
  | _ => .stuck
theorem ds_stI {i : Nat} {x : Str} {k : Expr} {gk : G Opd} {ge : G D} {tp : Pos} (hx : PE X (.Name x p) (tVar i)) (hk : DO X C k gk) (he : DE X C e ge)
    (ha : ∀ v, assign (.Subscript (.Name x p) k tp) X.env v = (do
      let ov ← holding [v] (eval (.Name x p) X.env)
      let iv ← holding [v, ov] (eval k X.env)
      standAt tp
      holding [v, ov, iv] (setItem ov iv v)
      release [v, ov, iv] []) := by intro _; rfl)
    (hs : swapsWithSole [.Subscript (.Name x p) k tp] e pos.line X.env = pure false := by rfl) (hw : swappedStores [.Subscript (.Name x p) k tp] e X.env = pure none := by rfl)
    (h1 : (assignEach [.Subscript (.Name x p) k tp] X.env).map (·.2) = [assign (.Subscript (.Name x p) k tp) X.env] := by rfl) :
    DS X C (.Assign [.Subscript (.Name x p) k tp] e pos) (gStI i gk ge) :=
  PS.imp (ps_asg he (pg_sub hx hk set_list ha) hs hw h1) fun E σ H ⟨w, ρ, hw, l, sr, q⟩ => by
    refine ⟨w, ρ, hw, l, sr, M.wp_mono (M.wp_bind.mp q) (fun r q v w1 l1 s1 f1 => ?_) fun _ z => z⟩
    split at q
    · rename_i t0 xs0 hx0
      obtain ⟨a, e1, _⟩ := (s1.slot i _ hx0).own_at
      have e1 := join_some e1
      refine ⟨.ref a, e1, w1, r.2, rfl, l.trans l1, s1, M.wp_mono (M.wp_bind.mp q) (fun s q u w2 l2 s2 r2 => ?_) fun _ z => z⟩
      obtain ⟨kd, pk, ek, q⟩ := rd_pk s2 r2 (M.wp_bind.mp q)
      split at q
      · rename_i t xs hx
        have hs := s2.slot i _ hx
        rw [show σ[i]?.join = some (V.ref a) by rw [e1]; rfl] at hs
        cases hs with
        | ownL g1 g2 g3 g4 g5 g6 =>
          obtain ⟨z, hz, q⟩ := wp_ofOpt (M.wp_bind.mp q)
          cases kd with
          | int k =>
            obtain ⟨j, hj, rfl⟩ := map_some (show (ixN xs.length k).map (fun j => xs.set j r.1) = some z from hz)
            refine ⟨a, _, k, j, rfl, pk.int_inv, g4, by rw [g5.length]; exact hj, ?_⟩
            obtain ⟨l3, s3, _⟩ := mut_sr s2 hx e1 g1 g2 g3 g6 (g5.set (f1.keep l2.keep) j)
            exact q σ _ (l1.trans (l2.trans l3)) s3
          | _ => cases hz
      · exact q.elim
    · exact q.elim
end
end DL

/-! DL11: the law's end -/
namespace DL
open PySem PySem.Spec PyProof.Rows L2
section
variable {P : Program} {w : World} {K : PySem.W.Frag} {mg mb : Str → Option Value} {k : Nat} {fa a : Addr} {fd : FuncData} {x : Str} {sp : Sp} {s₁ : Shared} {vs : List Value} {ns : List Int}
abbrev LawEnd (P : Program) (w : World) (fa a : Addr) (s₁ : Shared) : Prop :=
  codeAny (model P w) callerA (.call (.ref fa) ⟨[.ref a], []⟩) (fun r s' => r = .ok (.ret (.bool true)) ∧ OldK s₁.heap s'.heap ∧ s'.os = s₁.os ∧ AllBare s'.gens) s₁
/-- from an abstract heap that tracks the script at most -/
theorem law_core {H : Hp} (KX : K.In s₁.heap) (hns : s₁.heap.Ns mainGlobals mg) (hb : s₁.heap.Ns builtinsNs mb) (hbb : ∀ x : Str, x ≠ "__name__" → mb x = bootBuiltins x) (hlim : s₁.heap.NoLimit) (hg : s₁.gens = #[])
    {ob : Obj} (ha : s₁.heap.get? a = some ob) (hnd : ∀ es ep, ob.data ≠ .dict es ep) (hr : Room k callerA)
    (F : ∀ base : Heap, K.In base → base.Ns mainGlobals mg → FnG P w K mg base k fa fd [x] sp) (hbind : ∀ (s : Shared) (u : Value), BindsTo s fd ⟨[u], []⟩ [(x, u)])
    (hO : Only H) (hsp : sp [.ref a] H (fun v _ => v = .bl true) fun _ _ _ => False) (hok : HOk P w H s₁.heap) (hA : ∀ b, H b ≠ none → b = a) (hK : H a ≠ none → K.lookup a = none) : LawEnd P w fa a s₁ := by
  have off : ∀ {b : Addr} {o : Obj}, s₁.heap.get? b = some o → (b = a → False) → H b = none := fun {b o} _ n => by
    cases q : H b with
    | none => rfl
    | some u => exact (n (hA b (by rw [q]; exact nofun))).elim
  have keepNs : ∀ {b : Addr} {m : Str → Option Value}, s₁.heap.Ns b m → (hidT s₁.heap H).Ns b m := by
    rintro b m ⟨o, es, ep, e, d, r⟩
    exact ⟨o, es, ep, hidT_get e (off e fun z => by subst z; rw [ha] at e; cases e; exact hnd _ _ d), d, r⟩
  have baseK : K.In (hidT s₁.heap H) := fun b o e => hidT_get (KX b o e) (by
    cases q : H b with
    | none => rfl
    | some u =>
      have z := hA b (by rw [q]; exact nofun)
      subst z
      rw [hK (by rw [q]; exact nofun)] at e
      cases e)
  obtain ⟨mc, lim1, lim2⟩ := hlim
  have md : Mod K mg (hidT s₁.heap H) := { kin := baseK, glob := keepNs hns, blt := ⟨mb, keepNs hb, hbb⟩, nolimit := ⟨mc, keepNs lim1, lim2⟩ }
  have e0 : Env0 P w K mg (hidT s₁.heap H) callerA [] s₁ H :=
    { frames := rfl, mod := md, bs := fun b o e => of_hidT e, bsz := Nat.le_of_eq (hidT_size _ _), funs := trivial, frf := fun b z => (List.not_mem_nil z).elim, hok := hok, bare := .of_eq hg }
  refine codeAny_mono ((F _ baseK (keepNs hns)).run (us := [Value.ref a]) (vs := [V.ref a]) hr rfl e0 (hbind s₁ (.ref a)) (.cons rfl .nil) hsp) ?_
  rintro (er | fl) s' z
  · have bad : L2.CX P w [] H s₁ (fun _ _ _ => False) er s' := z
    obtain ⟨_, _, _, _, _, _, _, _, _, _, _, _, f⟩ := bad
    exact f.elim
  · cases fl with
    | next => exact (z : False).elim
    | brk => exact (z : False).elim
    | cont => exact (z : False).elim
    | ret u =>
      obtain ⟨v, H', os, bare, un, ok', rv, qv⟩ := (z : CE [] P w H s₁ (fun v _ => v = .bl true) u s')
      cases (qv : v = .bl true)
      cases (rv : u = Value.bool true)
      refine ⟨rfl, OldK.of_keep fun b o e => ?_, os, bare⟩
      rcases hO b with n | ⟨ob, zs, n⟩
      · exact un.keep b o e n (List.not_mem_nil) (List.not_mem_nil)
      · obtain ⟨e1, _⟩ := hok b _ n
        obtain ⟨e2, _⟩ := ok' b _ (un.frzs b ob _ n)
        rw [e] at e1
        cases e1
        exact e2
theorem law_callG (KX : K.In s₁.heap) (hns : s₁.heap.Ns mainGlobals mg) (hb : s₁.heap.Ns builtinsNs mb) (hbb : ∀ x : Str, x ≠ "__name__" → mb x = bootBuiltins x) (hlim : s₁.heap.NoLimit) (hg : s₁.gens = #[])
    (ha : s₁.heap.get? a = some { cls := .type "list", data := .seq vs.toArray }) (hi : IntsAre vs ns) (hl : ns.length ≤ sizeLine) (hr : Room k callerA)
    (F : ∀ base : Heap, K.In base → base.Ns mainGlobals mg → FnG P w K mg base k fa fd [x] sp) (hbind : ∀ (s : Shared) (u : Value), BindsTo s fd ⟨[u], []⟩ [(x, u)])
    (hsp : ∀ H : Hp, Only H → SqL K H a (ns.map V.int) → sp [.ref a] H (fun v _ => v = .bl true) fun _ _ _ => False) : LawEnd P w fa a s₁ := by
  have rv := vals_ints hi
  have nd : ∀ es ep, ({ cls := .type "list", data := .seq vs.toArray } : Obj).data ≠ .dict es ep := fun _ _ z => by cases z
  by_cases hk : K.lookup a = none
  · have hH : ∀ b u, (if b = a then some (HO.frz { cls := .type "list", data := .seq vs.toArray } (.lst (ns.map V.int))) else none) = some u → b = a ∧ u = .frz { cls := .type "list", data := .seq vs.toArray } (.lst (ns.map V.int)) := fun b u z => by
      split at z
      · cases z; exact ⟨by assumption, rfl⟩
      · cases z
    have oH : Only fun b => if b = a then some (HO.frz { cls := .type "list", data := .seq vs.toArray } (.lst (ns.map V.int))) else none := fun b => by
      by_cases z : b = a
      · exact .inr ⟨_, _, if_pos z⟩
      · exact .inl (if_neg z)
    refine law_core KX hns hb hbb hlim hg ha nd hr F hbind oH (hsp _ oH (.inl (.inr ⟨_, if_pos rfl⟩))) (fun b u z => ?_) (fun b z => ?_) fun _ => hk
    · obtain ⟨rfl, rfl⟩ := hH b u z
      exact ⟨ha, by rw [List.length_map]; exact hl, vs, _, rv, ha⟩
    · by_cases y : b = a
      · exact y
      · exact (z (if_neg y)).elim
  · obtain ⟨o, e⟩ := Option.ne_none_iff_exists'.mp hk
    have e1 := KX a o e
    rw [ha] at e1
    cases e1
    have oH : Only fun _ => none := fun _ => .inl rfl
    exact law_core KX hns hb hbb hlim hg ha nd hr F hbind oH (hsp _ oH (.inr ⟨_, vs.toArray, _, e, rfl, rfl, rfl, by rw [List.size_toArray, hi.length]; exact hl, by simpa using rv⟩)) (fun b u z => by cases z) (fun b z => (z rfl).elim) fun z => (z rfl).elim
end
theorem walk_ofG {l : PySem.W.OpenLaw} {n k : Nat} {q : Program} {loose : List Str} {XP : (Str → Option Value) → Heap → Prop} {YP : World → Heap → Prop} {d : DefRec} {K : Params → PySem.W.Frag} {sp : PySem.W.Frag → Sp} {x : Str}
    (hn : l.most = some n) (hn2 : n ≤ sizeLine) (hdf : d.params.defaults = []) (hr : Room k callerA) (hY : ∀ (w : World) (h : Heap), YP w h → (K w.params).In h)
    (F : ∀ (w : World) (mg : Str → Option Value) (fa : Addr) (h : Heap), (K w.params).In h → h.Ns mainGlobals mg → mg d.name = some (.ref fa) →
      ∃ fd : FuncData, (∀ (s : Shared) (u : Value), BindsTo s fd ⟨[u], []⟩ [(x, u)]) ∧ ∀ base : Heap, (K w.params).In base → base.Ns mainGlobals mg → FnG l.prog w (K w.params) mg base k fa fd [x] (sp (K w.params)))
    (hsp : ∀ (K : PySem.W.Frag) (H : Hp) (a : Addr) (ns : List Int), ns.length ≤ n → Only H → SqL K H a (ns.map V.int) → sp K [.ref a] H (fun v _ => v = .bl true) fun _ _ _ => False) :
    PySem.W.WalkO q loose XP YP l.row.toRowW d [] (fun f vs => PySem.call f vs) := by
  refine Att.attach_call hn hdf ?_
  intro w s₀ s₁ mg mb fa o pm cd doc a vs ns Gt Y ho hd hcd hmg hobj hints hlen hg
  obtain ⟨fd, bd, hF⟩ := F w mg fa _ (hY w _ Y) Gt.T.g hmg
  exact law_callG (hY w _ Y) Gt.T.g Gt.T.b Gt.T.builtins Gt.T.nolimit hg hobj hints (Nat.le_trans hlen hn2) hr hF bd fun H hO hS => hsp (K w.params) H a ns hlen hO hS
end DL

/-! DL12: defs that hand back what is new; hands -/
namespace DL
open PySem PySem.Spec PyProof.Rows L2
def OwnAt (K : PySem.W.Frag) (w : Wd) (v : V) (x : D) : Prop := ∃ a, v = .ref a ∧ SlotR K w (some (.ref a)) (.own 0 x)
/-- a def's promise that hands back what is new -/
def spW (K : PySem.W.Frag) (cl : Str → Option Addr) (np : Nat) (m : List W → M D) : Sp := fun vs H Q E => ∃ (w : Wd) (ws : List W), w.H = H ∧ w.Ok K ∧ ArgsR K w vs ws ∧ ws.length = np ∧
  (m ws).wp (fun x => ∀ v (w' : Wd), Le w w' → w'.Ok K → OwnAt K w' v x → Q v w'.H) (fun e => ∀ cls d (w' : Wd), Le w w' → w'.Ok K → ExcR cl w'.H e cls d → E cls d w'.H)
def fnW (n : Nat) (g : G Fl) : List W → M D := fun ws => (g (ws ++ List.replicate (n - ws.length) .un)).bind fun r => match r.1 with
    | .rw x => .ret x
    | _ => .stuck
def drawM : List W → M D
  | [.hand, .d (.int n)] => if 0 < n ∧ n < 2 ^ 100 then .draw n fun i => .ret (.int i) else .stuck
  | _ => .stuck
open Classical in
noncomputable def gSetHand (i : Nat) (a : G D) : G Fl := fun ρ => (a ρ).bind fun r => match r.1 with
  | .list xs => if HandD xs then .ret (.nx, r.2.set i .hand) else .stuck
  | _ => .stuck
def gScr (i : Nat) : G W := fun ρ => match ρ[i]? with
  | some (.scr ns) => .ret (.scr ns, ρ)
  | _ => .stuck
/-- a cut of the script -/
def gScrSl (i : Nat) (lo hi : G (Option Int)) : G D := fun ρ => match ρ[i]? with
  | some (.scr ns) => (lo ρ).bind fun l => (hi l.2).bind fun h => .ret (.list (cutD (ns.map .int) l.1 h.1), h.2)
  | _ => .stuck
section
variable {X : Cx} {C : Ct} {e : Expr} {es : List Expr} {p pos : Pos}
theorem dn_call {k np : Nat} {f : Addr} {fd : FuncData} {ps : List Str} {x : Str} {m : List W → M D} {g : G (List W)} (F : FnG X.prog X.w X.K X.mg X.base k f fd ps (spW X.K C.cl np m)) (hr : Room k X.A) (hgd : X.A.guards = some []) (hm : X.mg x = some (.ref f)) (hk : PySem.W.keepIn X.K (.ref f) = true) (hb : Binds X.K fd ps [])
    (tk : Takes X (WDx X.K C)) (ha : DC X C (e :: es) g) (hg : Gl X x := by rfl) (hdb : (x == ("__debug__" : Str)) = false := by decide) (he : starEach (e :: es) X.env = (false, eval e X.env) :: starEach es X.env := by rfl) (hpl : (backTo pos (starEach es X.env)).any (·.1) = false := by rfl) :
    DN X C (.Call (.Name x p) (e :: es) [] pos) (gCall np m g) := by
  refine PE.imp (pe_callG F hr hgd hg hm hk hb (E := fun cls d H => WDx X.K C cls d [] H) (passes_call tk fun _ _ _ _ h => h) ha hdb he hpl) fun σ H Q ⟨w, ρ, hw, l, sr, q⟩ => ?_
  refine ⟨w, ρ, hw, l, sr, M.wp_mono (M.wp_bind.mp q) (fun r q vs w1 l1 s1 r1 => ?_) fun _ z => z⟩
  have hl : r.1.length = np := by
    by_cases h : r.1.length = np
    · exact h
    · rw [if_neg h] at q; exact q.elim
  rw [if_pos hl] at q
  have q := M.wp_bind.mp q
  refine ⟨w1.callee, r.1, rfl, callee_ok s1.ok, r1.fz, hl, M.wp_mono q (fun y q v w' l' ok' f' => ?_) (fun ex z cls d w' l' ok' hx => ?_)⟩
  · have l0 : Le w1 w' := callee_le.trans l'
    obtain ⟨a, rfl, f⟩ := f'
    obtain ⟨a', ea, o1, o2, o3, _⟩ := f.own_at
    cases ea
    refine q (.ref a) (w'.unprot w1.Pr) (l1.trans (unprot_le l0)) (callee_back s1.ok ok' l' s1) ⟨a, rfl, ?_, fun i t y hq he => ?_⟩
    · cases f with
      | ownL g1 g2 g3 g4 g5 g6 => exact .ownL g1 g2 (fun z => g3 (l0.pr _ z)) g4 g5 (.inl rfl)
      | ownD g1 g2 g3 g4 g5 g6 => exact .ownD g1 g2 (fun z => g3 (l0.pr _ z)) g4 g5 (.inl rfl)
    · obtain ⟨b, e1, h1, h2, _⟩ := (s1.slot i _ hq).own_at
      rw [he] at e1
      cases e1
      exact o3 (l'.pr _ (.inr ⟨h1, h2⟩))
  · have l0 : Le w1 w' := callee_le.trans l'
    exact ⟨w'.unprot w1.Pr, ex, rfl, l.trans (l1.trans (unprot_le l0)), (callee_back s1.ok ok' l' s1).ok, hx, z⟩
theorem ds_setHand {i : Nat} {x : Str} {g : G D} {pos' : Pos} (hN : X.N.Nodup) (he : DN X C e g) (hi : X.N[i]? = some x := by rfl) (hx : Loc X.env.scope x := by first | exact Or.inl rfl | exact Or.inr rfl) (hs : swapsWith e (some (.Name x pos')) pos.line X.env = pure false := by rfl)
    (hf : X.fn x = true ∨ X.env.scope.names.lookup x = some .local := by first | exact .inl rfl | exact .inr rfl | assumption) : DS X C (.Assign [.Name x pos'] e pos) (gSetHand i g) := PS.imp (ps_set hN hi hx he hs hf) fun E σ H ⟨w, ρ, hw, l, sr, q⟩ => by
  refine ⟨w, ρ, hw, l, sr, M.wp_mono (M.wp_bind.mp q) (fun r q v w' l' s' f => ?_) fun _ z => z⟩
  obtain ⟨y, ρ1⟩ := r
  cases y with
  | list xs =>
    have q' : (open Classical in if HandD xs then M.ret (Fl.nx, ρ1.set i .hand) else .stuck).wp (PostS X.K E w) C.Ex := q
    by_cases hh : HandD xs
    · rw [if_pos hh] at q'
      obtain ⟨a, rfl, f, ne⟩ := f
      cases f with
      | ownL g1 g2 g3 g4 g5 g6 =>
        have le : Le w' { w' with Hd := fun b => w'.Hd b ∨ b = a } := ⟨.refl, fun _ h => .inl h, fun _ h => h, fun _ _ _ e => e, rfl⟩
        refine q' _ { w' with Hd := fun b => w'.Hd b ∨ b = a } (l'.trans le) ?_
        refine ⟨⟨s'.ok.there, fun b z => ?_, fun b z => ⟨(s'.ok.pr b z).1, fun y => y.elim (s'.ok.pr b z).2 fun y => g3 (y ▸ z)⟩⟩, by rw [List.length_set, List.length_set]; exact s'.len, fun j z hz => ?_, fun j k t u x' y b hjk q1 q2 e1 => ?_⟩
        · rcases z with z | z
          · exact s'.ok.hd b z
          · subst z; exact ⟨g1, _, _, g4, g5, hh⟩
        · by_cases hj : j = i
          · subst hj
            have hlt : j < ρ1.length := by
              have := (List.getElem?_eq_some_iff.mp hz).1
              rwa [List.length_set] at this
            rw [List.getElem?_set_self hlt] at hz
            cases hz
            rw [List.getElem?_set_self (by rw [s'.len]; exact hlt)]
            exact .hand (.inr rfl)
          · rw [List.getElem?_set_ne (Ne.symm hj)] at hz ⊢
            have hs := s'.slot j _ hz
            revert hs
            generalize hv : σ[j]?.join = o
            intro hs
            have na : ∀ {b : Addr} {t : Nat} {d : D}, o = some (.ref b) → z = .own t d → b ≠ a := fun h1 h2 h3 => ne j _ _ (by rw [hz, h2]) (by rw [join_some (hv.trans h1), h3])
            cases hs with
            | un => exact .un
            | d f => exact .d f
            | ownL k1 k2 k3 k4 k5 k6 => exact .ownL k1 (fun y => y.elim k2 (na rfl rfl)) k3 k4 k5 k6
            | ownD k1 k2 k3 k4 k5 k6 => exact .ownD k1 (fun y => y.elim k2 (na rfl rfl)) k3 k4 k5 k6
            | hand f => exact .hand (.inl f)
            | scr f => exact .scr f
        · have nj : ∀ {j t : Nat} {x : D}, (ρ1.set i .hand)[j]? = some (.own t x) → j ≠ i := fun q z => by
            subst z
            have hlt := (List.getElem?_eq_some_iff.mp q).1
            rw [List.length_set] at hlt
            rw [List.getElem?_set_self hlt] at q; cases q
          have n1 := nj q1
          have n2 := nj q2
          rw [List.getElem?_set_ne (Ne.symm n1)] at q1 e1
          rw [List.getElem?_set_ne (Ne.symm n2)] at q2 ⊢
          exact s'.dis j k t u x' y b hjk q1 q2 e1
    · rw [if_neg hh] at q'; exact q'.elim
  | _ => exact q.elim
theorem scr_at {K : PySem.W.Frag} {w : Wd} {σ : L2.St} {ρ : Rho} {i : Nat} {ns : List Int} (s : SR K w σ ρ) (h : ρ[i]? = some (.scr ns)) : ∃ a, σ[i]? = some (some (.ref a)) ∧ QS K w.O w.H a (ns.map V.int) := by
  have hs := s.slot i _ h
  revert hs
  generalize hv : σ[i]?.join = o
  intro hs
  cases hs with
  | scr f => exact ⟨_, join_some hv, f⟩
theorem dx_scr (i : Nat) {x : Str} (h : PE X (.Name x pos) (tVar i)) : DX X C (.Name x pos) (gScr i) := PE.imp h fun σ H Q ⟨w, ρ, hw, l, sr, q⟩ => by
  subst hw
  unfold gScr at q
  split at q
  · rename_i ns hx
    obtain ⟨a, e1, f⟩ := scr_at sr hx
    exact ⟨_, e1, q _ w .refl sr (.scr f)⟩
  · exact q.elim
theorem dn_scrSl {i : Nat} {x : Str} {lo hi : Option Expr} {gl gh : G (Option Int)} {p2 : Pos} (hx : PE X (.Name x p) (tVar i)) (hl : DP X C lo gl) (hh : DP X C hi gh) : DN X C (.Subscript (.Name x p) (.Slice lo hi none p2) pos) (gScrSl i gl gh) :=
  PE.imp (pe_slice sl_list hx hl hh) fun σ H Q ⟨w, ρ, hw, l, sr, q⟩ => by
    subst hw
    unfold gScrSl at q
    split at q
    · rename_i ns hxx
      obtain ⟨a, e1, f⟩ := scr_at sr hxx
      refine ⟨.ref a, e1, w, ρ, rfl, l, sr, M.wp_mono (M.wp_bind.mp q) (fun lo q w2 l2 s2 => ?_) fun _ z => z⟩
      refine ⟨w2, lo.2, rfl, l.trans l2, s2, M.wp_mono (M.wp_bind.mp q) (fun hi q w3 l3 s3 => ?_) fun _ z => z⟩
      have f3 := f.keep (l2.trans l3).keep
      refine ⟨a, _, rfl, f3.sq, fun p hp => ?_⟩
      exact q (.ref p) (w3.alloc p (.lst _)) ((l2.trans l3).trans (alloc_le hp s3.ok)) (s3.alloc hp) (rw_list hp s3 (cut_fz (FzL.ints ns) _ _))
    · exact q.elim
end
section
variable {P : Program} {w : World} {K : PySem.W.Frag} {mg : Str → Option Value} {base : Heap}
/-- a body's walk, in any context -/
abbrev Body (P : Program) (w : World) (K : PySem.W.Frag) (mg : Str → Option Value) (base : Heap) (cl : Str → Option Addr) (qual : Str) (st : Stmt) (f : Addr) (N : List Str) (k : Nat) (g : G Fl) : Prop :=
  ∀ (cdv : Value) (A : Around) (outer : List Env) (s : Shared) (H : Hp) (E : XK) (C : Ct), Room k (A.deeper (envOfC qual (defScope st) s.heap.objs.size f cdv)) → A.guards = some [] → C.cl = cl →
    Takes (cxOf (L2.CX P w) P w K mg base N qual (defScope st) f cdv A outer s H E) (WDx K C) → DSs (cxOf (L2.CX P w) P w K mg base N qual (defScope st) f cdv A outer s H E) C (defBody st) g
variable {cl : Str → Option Addr} {x qual : Str} {st : Stmt} {f : Addr} {fd : FuncData} {N ps : List Str} {k : Nat} {g : G Fl}
theorem fn_okW (F : Fun K x qual st f fd) (S : FnScope N ps (defScope st)) (hbody : Body P w K mg base cl qual st f N k g) : FnG P w K mg base (k + 1) f fd ps (spW K cl ps.length (fnW N.length g)) := by
  refine fnG_of F S (fun {vs H Q E} h => ?_) (fun cdv A outer s H vs Q E hr hgd h => ?_)
  · obtain ⟨w, ws, _, _, a, hl, _⟩ := h
    rw [a.length, hl]
  · obtain ⟨wd, ws, rfl, ok, a, hl, q⟩ := h
    let C : Ct := { base := wd, cl := cl, Ex := fun e => ∀ cls d (w' : Wd), Le wd w' → w'.Ok K → ExcR cl w'.H e cls d → E cls d w'.H }
    have tk : Takes (cxOf (L2.CX P w) P w K mg base N qual (defScope st) f cdv A outer s wd.H E) (WDx K C) :=
      Takes.imp (W := fun cls d _ H => E cls d H) (takes_of rfl rfl rfl rfl) fun c d σ H ⟨w', e, e1, e2, e3, e4, e5⟩ => e1 ▸ e5 c d w' e2 e3 (e1 ▸ e4)
    refine ⟨_, hbody cdv A outer s wd.H E C hr hgd rfl tk, wd, ws ++ List.replicate (N.length - ws.length) .un, rfl, .refl, ?_, ?_⟩
    · unfold L2.start
      rw [a.length]
      exact args_start ok a _
    · refine M.wp_mono (M.wp_bind.mp q) (fun r q => ?_) fun _ z => z
      obtain ⟨fl, ρ⟩ := r
      cases fl with
      | rw x => exact fun v σ' w' l' s' f => q v w' l' s'.ok (let ⟨a, e, f, _⟩ := f; ⟨a, e, f⟩)
      | _ => exact q.elim
/-- a def that draws a number from a hand -/
theorem fn_hand (F : Fun K x qual st f fd) (S : FnScope N ps (defScope st)) (hps : ps.length = 2) (hbody : Body P w K mg base cl qual st f N k g)
    (hg : ∀ (xs : List D) (n : Int), HandD xs → 0 < n → n < 2 ^ 100 → ∃ (r : Int) (xs' : List D) (ρ' : Rho), g ([.own 1 (.list xs), .d (.int n)] ++ List.replicate (N.length - 2) .un) = .ret (.rt (.int r), ρ') ∧ ρ'[0]? = some (.own 1 (.list xs')) ∧ HandD xs' ∧ 0 ≤ r ∧ r < n) :
    FnG P w K mg base (k + 1) f fd ps (spD K cl ps.length drawM) := by
  refine fnG_of F S (fun {vs H Q E} h => ?_) (fun cdv A outer s H vs Q E hr hgd h => ?_)
  · obtain ⟨w, ws, _, _, a, hl, _⟩ := h
    rw [a.length, hl]
  · obtain ⟨wd, ws, rfl, ok, a, hl, q⟩ := h
    obtain ⟨n, rfl, h0, h1, q⟩ : ∃ n, ws = [.hand, .d (.int n)] ∧ 0 < n ∧ n < 2 ^ 100 ∧ ∀ i, 0 ≤ i → i < n → ∀ v (w' : Wd), Le wd w' → w'.Ok K → Fz K w'.O w'.H v (.int i) → Q v w'.H := by
      unfold drawM at q
      split at q
      · rename_i n
        by_cases hc : 0 < n ∧ n < 2 ^ 100
        · rw [if_pos hc] at q; exact ⟨n, rfl, hc.1, hc.2, q⟩
        · rw [if_neg hc] at q; exact q.elim
      · exact q.elim
    cases a with
    | cons a1 a => cases a with
      | cons a2 a =>
        cases a
        cases a1 with
        | hand hd =>
          rename_i ad
          cases a2 with
          | d fn =>
            cases fn
            obtain ⟨hO, vs, xs, eH, fL, hD⟩ := ok.hd ad hd
            have hP : ¬ wd.Pr ad := fun z => (ok.pr ad z).2 hd
            obtain ⟨r, xs', ρ', eg, e0, hD', r0, r1⟩ := hg xs n hD h0 h1
            let wb : Wd := { wd with Hd := fun b => wd.Hd b ∧ b ≠ ad, ln := fun _ => ad }
            let C : Ct := { base := wb, cl := cl, Ex := fun _ => False }
            have tk : Takes (cxOf (L2.CX P w) P w K mg base N qual (defScope st) f cdv A outer s wd.H E) (WDx K C) :=
              Takes.imp (W := fun cls d _ H => E cls d H) (takes_of rfl rfl rfl rfl) fun c d σ H ⟨w', e, e1, e2, e3, e4, e5⟩ => (e5 : False).elim
            have okb : wb.Ok K := ⟨ok.there, fun b z => ok.hd b z.1, fun b z => ⟨(ok.pr b z).1, fun y => (ok.pr b z).2 y.1⟩⟩
            have hNl : 2 ≤ N.length := by
              have := congrArg List.length S.pre
              rw [List.length_take] at this
              omega
            refine ⟨_, hbody cdv A outer s wd.H E C hr hgd rfl tk, wb, [.own 1 (.list xs), .d (.int n)] ++ List.replicate (N.length - 2) .un, rfl, .refl, ?_, ?_⟩
            · have s0 : SR K wb ([.ref ad, .int n].map some ++ List.replicate (N.length - 2) none) ([.scr [], .d (.int n)].map (fun (x : W) => match x with | .scr _ => .un | x => x) ++ List.replicate (N.length - 2) .un) := by
                have := args_start (w := wb) (vs := [.non, .int n]) (ws := [.d .none, .d (.int n)]) okb (.cons (.d .non) (.cons (.d (.int n)) .nil)) (N.length - 2)
                have t := this.unset (i := 0)
                refine t.swap (vs := [0]) (fun i x hi hx => ?_) (fun i hi => ?_) rfl
                · have : i = 0 := by simpa using hi
                  subst this
                  cases hx; rfl
                · match i, hi with
                  | 0, hi => exact absurd (List.mem_singleton.mpr rfl) hi
                  | i + 1, _ => rfl
              have r0 : RWt K 1 wb ([.ref ad, .int n].map some ++ List.replicate (N.length - 2) none) ([.scr [], .d (.int n)].map (fun (x : W) => match x with | .scr _ => .un | x => x) ++ List.replicate (N.length - 2) .un) (.ref ad) (.list xs) := by
                refine ⟨ad, rfl, .ownL hO (fun z => z.2 rfl) hP eH fL (.inr rfl), fun i t y hq => ?_⟩
                have hq' : ([W.un, .d (.int n)] ++ List.replicate (N.length - 2) .un)[i]? = some (.own t y) := hq
                match i with
                | 0 => cases hq'
                | 1 => cases hq'
                | i + 2 =>
                  have hq2 : (List.replicate (N.length - 2) W.un)[i]? = some (.own t y) := hq'
                  rw [List.getElem?_replicate] at hq2
                  split at hq2
                  · cases hq2
                  · cases hq2
              exact s0.setW (i := 0) r0
            · rw [eg]
              intro v σ' w' l' s' f'
              have hs := s'.slot 0 _ e0
              revert hs
              generalize hv : σ'[0]?.join = o
              intro hs
              cases hs with
              | ownL g1 g2 g3 g4 g5 g6 =>
                rename_i b vs'
                have eb : b = ad := by
                  rcases g6 with z | z
                  · cases z
                  · rw [z, l'.ln]
                subst eb
                have hk : Le wd { w' with Hd := fun c => w'.Hd c ∨ c = b, ln := wd.ln } := ⟨l'.keep, fun c z => by
                  by_cases hc : c = b
                  · exact .inr hc
                  · exact .inl (l'.hd c ⟨z, hc⟩), l'.pr, l'.prk, rfl⟩
                refine q r r0 r1 v { w' with Hd := fun c => w'.Hd c ∨ c = b, ln := wd.ln } hk ⟨s'.ok.there, fun c z => ?_, fun c z => ⟨(s'.ok.pr c z).1, fun y => y.elim (s'.ok.pr c z).2 fun y => g3 (y ▸ z)⟩⟩ f'
                rcases z with z | z
                · exact s'.ok.hd c z
                · subst z; exact ⟨g1, vs', xs', g4, g5, hD'⟩
end
end DL

/-! DL13: dicts by keys, dict comprehensions; products -/
namespace DL
open PySem PySem.Spec PyProof.Rows L2
/-! ### keys -/
def keyOf : D → Option Key
  | .int i => some (.inl i)
  | .str x => some (.inr x)
  | _ => none
theorem keyOf_some {x : D} {k : Key} (h : keyOf x = some k) : x = keyD k := by
  cases x with
  | int i => cases h; rfl
  | str y => cases h; rfl
  | _ => cases h
theorem keyOf_keyD (k : Key) : keyOf (keyD k) = some k := by cases k <;> rfl
theorem fz_key {K : PySem.W.Frag} {O : Addr → Prop} {H : Hp} {v : V} {k : Key} (h : Fz K O H v (keyD k)) : v = kV k := by
  cases k with
  | inl i => cases h; rfl
  | inr x => cases h; rfl
def kIs (k : Key) (x : D) : Bool := match keyOf x with
  | some j => decide (j = k)
  | none => false
def putD (kvs : List (D × D)) (k : Key) (v : D) : List (D × D) := if (kvs.any fun p => kIs k p.1) = true then kvs.map (fun p => if kIs k p.1 = true then (p.1, v) else p) else kvs ++ [(keyD k, v)]
theorem kIs_keyD (k j : Key) : kIs k (keyD j) = decide (j = k) := by unfold kIs; rw [keyOf_keyD]
inductive DkR (K : PySem.W.Frag) (O : Addr → Prop) (H : Hp) : List (Key × V) → List (D × D) → Prop where
  | nil : DkR K O H [] []
  | cons {k : Key} {v : V} {z : D} {kvs : List (Key × V)} {ax : List (D × D)} : Fz K O H v z → DkR K O H kvs ax → DkR K O H ((k, v) :: kvs) ((keyD k, z) :: ax)
section
variable {K : PySem.W.Frag} {O O' : Addr → Prop} {H H' : Hp}
theorem DkR.keep (k : Keep O H O' H') : ∀ {kvs : List (Key × V)} {ax : List (D × D)}, DkR K O H kvs ax → DkR K O' H' kvs ax
  | _, _, .nil => .nil
  | _, _, .cons h t => .cons (h.keep k) (DkR.keep k t)
theorem DkR.length : ∀ {kvs : List (Key × V)} {ax : List (D × D)}, DkR K O H kvs ax → kvs.length = ax.length
  | _, _, .nil => rfl
  | _, _, .cons _ t => by simp [DkR.length t]
theorem DkR.any (k : Key) : ∀ {kvs : List (Key × V)} {ax : List (D × D)}, DkR K O H kvs ax → (kvs.any fun kv => decide (kv.1 = k)) = ax.any fun p => kIs k p.1
  | _, _, .nil => rfl
  | _, _, .cons (k := j) h t => by rw [List.any_cons, List.any_cons, DkR.any k t, kIs_keyD]
theorem DkR.app (k : Key) {v : V} {z : D} (f : Fz K O H v z) : ∀ {kvs : List (Key × V)} {ax : List (D × D)}, DkR K O H kvs ax → DkR K O H (kvs ++ [(k, v)]) (ax ++ [(keyD k, z)])
  | _, _, .nil => .cons f .nil
  | _, _, .cons h t => .cons h (DkR.app k f t)
theorem DkR.map (k : Key) {v : V} {z : D} (f : Fz K O H v z) : ∀ {kvs : List (Key × V)} {ax : List (D × D)}, DkR K O H kvs ax → DkR K O H (kvs.map fun kv => if kv.1 = k then (kv.1, v) else kv) (ax.map fun p => if kIs k p.1 = true then (p.1, z) else p)
  | _, _, .nil => .nil
  | _, _, .cons (k := j) (z := y) (ax := ax) h t => by
    rw [List.map_cons, List.map_cons]
    dsimp only
    rw [kIs_keyD]
    by_cases e : j = k
    · rw [if_pos e, if_pos (decide_eq_true e)]
      exact .cons f (DkR.map k f t)
    · rw [if_neg e, if_neg (by rw [decide_eq_false e]; exact Bool.false_ne_true)]
      exact .cons h (DkR.map k f t)
theorem DkR.put (k : Key) {v : V} {z : D} (f : Fz K O H v z) {kvs : List (Key × V)} {ax : List (D × D)} (h : DkR K O H kvs ax) : DkR K O H (putK kvs k v) (putD ax k z) := by
  unfold putK putD
  rw [h.any k]
  by_cases e : (ax.any fun p => kIs k p.1) = true
  · rw [if_pos e, if_pos e]; exact h.map k f
  · rw [if_neg e, if_neg e]; exact h.app k f
theorem putD_len (kvs : List (D × D)) (k : Key) (v : D) : (putD kvs k v).length ≤ kvs.length + 1 := by
  unfold putD
  split
  · rw [List.length_map]; omega
  · simp
theorem DkR.dc {kvs : List (Key × V)} {ax : List (D × D)} (h : DkR K O H kvs ax) : kvs.map (fun p => keyD p.1) = ax.map (·.1) ∧ FzL K O H (kvs.map (·.2)) (ax.map (·.2)) := by
  induction h with
  | nil => exact ⟨rfl, .nil⟩
  | cons f _ ih => exact ⟨by simp [ih.1], .cons f ih.2⟩
theorem zip_self (ax : List (D × D)) : (ax.map (·.1)).zip (ax.map (·.2)) = ax := by
  induction ax with
  | nil => rfl
  | cons p ax ih => simp [ih]
end
def dcD (vs : List Nat) (tg : D → Rho → M Rho) (tt : G Bool) (kg vg : G D) : List D → Rho → List (D × D) → M (List (D × D) × Rho)
  | [], ρ, acc => .ret (acc, ρ)
  | x :: xs, ρ, acc => (tg x ρ).bind fun ρ1 => (tt ρ1).bind fun b => if b.1 = true then (kg b.2).bind fun y => (vg y.2).bind fun z => match keyOf y.1 with
      | some k => dcD vs tg tt kg vg xs (clr vs z.2) (putD acc k z.1)
      | none => .stuck
    else dcD vs tg tt kg vg xs (clr vs b.2) acc
def gDc (vs : List Nat) (src : G (List D)) (tg : D → Rho → M Rho) (tt : G Bool) (kg vg : G D) : G D := fun ρ => (src ρ).bind fun r => if r.1.length ≤ 16777216 then
    ((dcD vs tg tt kg vg r.1 (clr vs r.2) []).nox).bind fun s => .ret (.dict s.1, rst vs r.2 s.2) else .stuck
section
variable {X : Cx} {C : Ct} {kx vx it tg : Expr} {pos : Pos} {gk gv : G D} {src : G (List D)} {ts : List Nat} {t : D → Rho → M Rho} {tt : G Bool}
theorem dc_go {vs : List Nat} {σ : L2.St} {H : Hp} {Q : VK} (hts : ∀ i ∈ ts, i ∈ vs) (h : TX X.K C (RW X.K) (gDc vs src t tt gk gv) σ H Q) :
    tDc (TIm X.K C src) (TGm X.K C.nox ts t) (TB X.K C.nox tt) (TX X.K C.nox (RD X.K) gk) (TX X.K C.nox (RD X.K) gv) vs σ H Q := by
  obtain ⟨w, ρ, hw, l, sr, q⟩ := h
  refine ⟨w, ρ, hw, l, sr, M.wp_mono (M.wp_bind.mp q) (fun r q w0 J l0 s0 hJ => ?_) fun _ z => z⟩
  have hz : r.1.length ≤ 16777216 := by
    by_cases hz : r.1.length ≤ 16777216
    · exact hz
    · rw [if_neg hz] at q; exact q.elim
  rw [if_pos hz] at q
  have q := M.wp_nox (M.wp_bind.mp q)
  intro D hD
  refine ⟨fun i m H => ∃ (w1 : Wd) (ρ1 : Rho) (acc : List (Key × V)) (ax : List (DL.D × DL.D)), w1.H = H ∧ Le w0 w1 ∧ w1.Pr D ∧ H D = some (.dK acc) ∧ DkR X.K w1.O w1.H acc ax ∧ SR X.K w1 (wipe σ vs) (clr vs ρ1) ∧ SR X.K w1 σ (clr vs ρ1) ∧ i ≤ r.1.length ∧ m = r.1.length - i ∧ ax.length ≤ i ∧
      (dcD vs t tt gk gv (r.1.drop i) (clr vs ρ1) ax).wp (fun s => ∀ v (w' : Wd), Le w w' → SR X.K w' σ (rst vs r.2 s.2) → RW X.K w' σ (rst vs r.2 s.2) v (.dict s.1) → Q v w'.H) fun _ => False, ?_, ?_⟩
  · have hne := s0.ok.ne hD
    have sa := s0.alloc (o := .dK []) hD
    have o1 : (w0.alloc D (.dK [])).O D := .inr rfl
    have o2 : ¬ (w0.alloc D (.dK [])).Hd D := fun z => hne (s0.ok.hd D z).1
    have ne : ∀ (i t : Nat) (y : DL.D), r.2[i]? = some (.own t y) → σ[i]? ≠ some (some (.ref D)) := fun i t y hq he => by
      obtain ⟨a, e1, h1, _⟩ := (s0.slot i _ hq).own_at
      rw [he] at e1; cases e1
      exact hne h1
    have sp := (sa.prot o1 o2 ne).clr vs
    exact ⟨_, (w0.alloc D (.dK [])).prot D, r.2, [], [], rfl, (alloc_le hD s0.ok).trans prot_le, .inr rfl, upd_same, .nil, sp.swap (fun i x hi hx => clr_in vs _ i x hi hx) (fun i hi => wipe_get vs σ i hi) (wipe_len vs σ), sp, Nat.zero_le _, rfl, Nat.zero_le _, q⟩
  rintro i m H1 ⟨w1, ρ1, acc, ax, rfl, l1, pD, hA, fA, s1, s1', hi, rfl, hax, q⟩
  obtain ⟨h1, h2, h3⟩ := hJ w1 l1
  have nD : ¬ w1.Hd D := (s1.ok.pr D pD).2
  have oD : w1.O D := (s1.ok.pr D pD).1
  by_cases hlt : i < r.1.length
  · right
    refine ⟨h1 i hlt, fun H' => ∃ (w1 : Wd) (ρ1 : Rho) (acc : List (Key × V)) (ax : List (DL.D × DL.D)), w1.H = H' ∧ Le w0 w1 ∧ w1.Pr D ∧ H' D = some (.dK acc) ∧ DkR X.K w1.O w1.H acc ax ∧ SR X.K w1 (wipe σ vs) (clr vs ρ1) ∧ SR X.K w1 σ (clr vs ρ1) ∧ ax.length ≤ i + 1 ∧
      (dcD vs t tt gk gv (r.1.drop (i + 1)) (clr vs ρ1) ax).wp (fun s => ∀ v (w' : Wd), Le w w' → SR X.K w' σ (rst vs r.2 s.2) → RW X.K w' σ (rst vs r.2 s.2) v (.dict s.1) → Q v w'.H) fun _ => False, fun H' hN => ?_, fun v H' hy => ?_⟩
    · obtain ⟨w2, ρ2, acc2, ax2, e1, e2, e3, e4, e5, e6, e7, e8, e9⟩ := hN
      exact ⟨r.1.length - (i + 1), by omega, w2, ρ2, acc2, ax2, e1, e2, e3, e4, e5, e6, e7, hlt, rfl, e8, e9⟩
    · rw [List.drop_eq_getElem_cons hlt] at q
      obtain ⟨ex, fz⟩ := h3 i _ (List.getElem?_eq_getElem hlt) v H' hy
      have q' := M.wp_bind.mp q
      have lB : ∀ {w2 : Wd}, Le w0 w2 → Le C.base w2 := fun l2 => l.trans (l0.trans l2)
      have le1 : Le w1 { w1 with H := H' } := .ext ex
      refine ⟨{ w1 with H := H' }, clr vs ρ1, _, rfl, lB (l1.trans le1), s1.ext ex, fz, M.wp_mono q' (fun ρ2 q σ2 w2 l2 s2 o2 => ?_) fun _ z => z⟩
      have l12 : Le w1 w2 := le1.trans l2
      have e2 : ∀ i, i ∉ vs → σ2[i]? = (wipe σ vs)[i]? := fun i hi => o2.1 i fun z => hi (hts i z)
      have hlen : σ2.length = (wipe σ vs).length := o2.2
      have ew : wipe σ2 vs = wipe σ vs := by
        rw [wipe_eq e2 hlen]
        exact wipe_eq (fun i hi => wipe_get vs σ i hi) (wipe_len vs σ)
      refine ⟨ew, w2, ρ2, rfl, lB (l1.trans l12), s2, M.wp_mono (M.wp_bind.mp q) (fun b q w3 l3 s3 => ?_) fun _ z => z⟩
      have l13 : Le w1 w3 := l12.trans l3
      have back : ∀ {w4 : Wd} {ρ4 : Rho}, SR X.K w4 σ2 ρ4 → SR X.K w4 (wipe σ vs) (clr vs ρ4) ∧ SR X.K w4 σ (clr vs ρ4) := fun s4 => by
        have s5 := s4.clr vs
        exact ⟨s5.swap (fun i x hi hx => clr_in vs _ i x hi hx) (fun i hi => (e2 i hi).symm) hlen.symm, s5.swap (fun i x hi hx => clr_in vs _ i x hi hx) (fun i hi => ((e2 i hi).trans (wipe_get vs σ i hi)).symm) (by rw [hlen, wipe_len])⟩
      dsimp only
      by_cases eb : b.1 = true
      · rw [if_pos eb] at q ⊢
        refine ⟨w3, b.2, rfl, lB (l1.trans l13), s3, M.wp_mono (M.wp_bind.mp q) (fun y q vy wy ly sy fy => ?_) fun _ z => z⟩
        refine ⟨wy, y.2, rfl, lB (l1.trans (l13.trans ly)), sy, M.wp_mono (M.wp_bind.mp q) (fun z q v4 w4 l4 s4 f4 => ?_) fun _ z => z⟩
        have l14 : Le w1 w4 := (l13.trans ly).trans l4
        have hD4 : w4.H D = some (.dK acc) := l14.prk D _ pD hA
        have p4 : w4.Pr D := l14.pr D pD
        have nD4 : ¬ w4.Hd D := (s4.ok.pr D p4).2
        have oD4 : w4.O D := (s4.ok.pr D p4).1
        cases hk : keyOf y.1 with
        | none => rw [hk] at q; exact q.elim
        | some k =>
          rw [hk] at q
          have fy' : Fz X.K wy.O wy.H vy y.1 := fy
          rw [keyOf_some hk] at fy'
          refine ⟨acc, k, fz_key fy', hD4, ?_, ?_⟩
          · have := fA.length
            rw [sizeLine_eq]
            omega
          · obtain ⟨b1, b2⟩ := back s4
            have gk := grow_ok (o := .dK (putK acc k v4)) s4.ok oD4 nD4 rfl
            have l05 : Le w0 { w4 with H := upd w4.H D (.dK (putK acc k v4)) } :=
              ⟨(l1.trans l14).keep.trans gk.2, (l1.trans l14).hd, (l1.trans l14).pr, (fun a o ha he => by
                have na : a ≠ D := fun z => by rw [z, hD] at he; cases he
                rw [show ({ w4 with H := upd w4.H D (.dK (putK acc k v4)) } : Wd).H a = w4.H a from upd_ne na]
                exact (l1.trans l14).prk a o ha he), (l1.trans l14).ln⟩
            have nown : ∀ {σ0 : L2.St} {ρ0 : Rho}, SR X.K w4 σ0 ρ0 → ∀ (i t : Nat) (y : DL.D), ρ0[i]? = some (.own t y) → σ0[i]? ≠ some (some (.ref D)) := fun s0' i t y hq he => by
              obtain ⟨a, e1, _, _, h3, _⟩ := (s0'.slot i _ hq).own_at
              rw [he] at e1; cases e1
              exact h3 p4
            have f5 : DkR X.K w4.O (upd w4.H D (.dK (putK acc k v4))) (putK acc k v4) (putD ax k z.1) := ((fA.keep l14.keep).put k f4).keep gk.2
            exact ⟨{ w4 with H := upd w4.H D (.dK (putK acc k v4)) }, z.2, putK acc k v4, putD ax k z.1, rfl, l05, p4, upd_same, f5, grow_sr b1 oD4 nD4 (nown b1), grow_sr b2 oD4 nD4 (nown b2), Nat.le_trans (putD_len _ _ _) (by omega), q⟩
      · rw [if_neg eb] at q ⊢
        obtain ⟨b1, b2⟩ := back s3
        exact ⟨w3, b.2, acc, ax, rfl, l1.trans l13, l13.pr D pD, l13.prk D _ pD hA, fA.keep l13.keep, b1, b2, Nat.le_succ_of_le hax, q⟩
  · left
    have e : i = r.1.length := by omega
    subst e
    rw [List.drop_length] at q
    refine ⟨h2, ?_⟩
    have q2 := q (.ref D) (w1.unprot w0.Pr) (l0.trans (unprot_le l1)) (unprot_sr l1 (SR.rst vs s0 l1 s1'))
    obtain ⟨d1, d2⟩ := fA.dc
    refine q2 ⟨D, rfl, ?_, fun i t y hq he => ?_⟩
    · rw [← zip_self ax]
      exact .ownD oD nD (fun z => s0.ok.ne hD (s0.ok.pr D z).1) (.inl ⟨acc, hA, d1.symm, rfl⟩) d2 (.inl rfl)
    · have hq' := rst_own vs r.2 _ i t y hq
      obtain ⟨a, e1, _, _, h3, _⟩ := (s1'.slot i _ hq').own_at
      rw [he] at e1; cases e1
      exact h3 pD
theorem dn_dc {ifs : List Expr} {scope : Scope} {own : List (Str × Nat)} {vs : List Nat} (hc : X.calm = true) (hN : X.N.Nodup) (hi : DI X C tg it src) (ok : BlkOk X.N X.env.scope scope own)
    (hg : ∀ (s : Shared) (H : Hp) (Cc : Addr) (cl : List (Str × Addr)) (fp : List Addr), DG (X.blk s H scope (compEnvC scope cl Cc X.env) fp) C.nox tg ts t) (ht : ∀ (s : Shared) (H : Hp) (Cc : Addr) (cl : List (Str × Addr)) (fp : List Addr), DTs (X.blk s H scope (compEnvC scope cl Cc X.env) fp) C.nox ifs tt)
    (hk : ∀ (s : Shared) (H : Hp) (Cc : Addr) (cl : List (Str × Addr)) (fp : List Addr), DE (X.blk s H scope (compEnvC scope cl Cc X.env) fp) C.nox kx gk)
    (he : ∀ (s : Shared) (H : Hp) (Cc : Addr) (cl : List (Str × Addr)) (fp : List Addr), DE (X.blk s H scope (compEnvC scope cl Cc X.env) fp) C.nox vx gv) (hvs : own.map (·.2) = vs := by rfl) (hts : ∀ i ∈ ts, i ∈ vs := by decide) (hs : ∀ x, foldedSetIterable it X.env x = pure x := by intro _; rfl) :
    DN X C (.DictComp kx vx [⟨tg, it, ifs, 0⟩] scope pos) (gDc vs src t tt gk gv) := by
  subst hvs
  exact PE.imp (pe_dc hc hN hi ok hg ht hk he hs) fun _ _ _ h => dc_go hts h
end
end DL

/-! DL14: products -/
namespace DL
open PySem PySem.Spec PyProof.Rows L2
/-- t * k where t itself comes back -/
theorem tup_mul_self (l : Addr) (items : Array Value) (n : Nat) (dd : Option Addr) (sl : Array (Option Value)) (x : Int) (u : Tok) (c0 : (decide (x < -(2 ^ 63)) || decide (x ≥ 2 ^ 63)) = false) (c1 : (items.isEmpty || x == 1) = true) :
    Meets (Builtin.«tuple.__mul__» ⟨[.ref l, .int x u], []⟩) (fun _ R s => s.heap.get? l = some { cls := .type "tuple", dict := dd, data := .seq items n, slots := sl } ∧ R (.ok (.ret (Value.ref l))) s) :=
  .of_wp fun prog w A R s h => by
    obtain ⟨hp, g, d, tk, os⟩ := s
    obtain ⟨hl, h⟩ := h
    have f1 := AutoSeq1.idx_int
    wp_walk using wpAny_loadPart' hl
    repeat (first
      | (refine wpAny_ite_false (decide_eq_false (by rw [c0]; exact Bool.false_ne_true)) ?_; wp_walk using wpAny_loadPart' hl)
      | (refine wpAny_ite_true (decide_eq_true (by rw [c1])) ?_; wp_walk using wpAny_loadPart' hl))
    exact ⟨_, rfl, h⟩
theorem tup_mul_none (l : Addr) (items : Array Value) (n : Nat) (dd : Option Addr) (sl : Array (Option Value)) (x : Int) (u : Tok) (c0 : (decide (x < -(2 ^ 63)) || decide (x ≥ 2 ^ 63)) = false) (c1 : (items.isEmpty || x == 1) = false) (c2 : (decide (x ≤ 0) || items.isEmpty) = true) :
    Meets (Builtin.«tuple.__mul__» ⟨[.ref l, .int x u], []⟩) (fun _ R s => s.heap.get? l = some { cls := .type "tuple", dict := dd, data := .seq items n, slots := sl } ∧
      R (.ok (.ret (Value.ref s.heap.objs.size))) { s with heap := s.heap.push { cls := Value.type "tuple", data := Data.seq #[] }, toks := s.toks }) :=
  .of_wp fun prog w A R s h => by
    obtain ⟨hp, g, d, tk, os⟩ := s
    obtain ⟨hl, h⟩ := h
    have f1 := AutoSeq1.idx_int
    wp_walk using wpAny_loadPart' hl
    repeat (first
      | (refine wpAny_ite_false (decide_eq_false (by rw [c0]; exact Bool.false_ne_true)) ?_; wp_walk using wpAny_loadPart' hl)
      | (refine wpAny_ite_false (decide_eq_false (by rw [c1]; exact Bool.false_ne_true)) ?_; wp_walk using wpAny_loadPart' hl)
      | (refine wpAny_ite_true (decide_eq_true (by rw [c2])) ?_; wp_walk using wpAny_loadPart' hl))
    exact ⟨_, rfl, h⟩
def repD {α : Type} (xs : List α) (k : Int) : List α := (List.replicate k.toNat xs).flatten
def mulD : D → D → Option D
  | .int i, .int j => if mulC i j = true then some (.int (i * j)) else none
  | .tuple xs, .int k => if (-1000 ≤ k ∧ k ≤ 1000) ∧ xs.length ≤ 1000 then some (.tuple (repD xs k)) else none
  | .list xs, .int k => if (-1000 ≤ k ∧ k ≤ 1000) ∧ xs.length ≤ 1000 then some (.list (repD xs k)) else none
  | _, _ => none
def repL : D → D → Option (List D)
  | .list xs, .int k => if (-1000 ≤ k ∧ k ≤ 1000) ∧ xs.length ≤ 1000 then some (repD xs k) else none
  | _, _ => none
theorem rep_fz {K : PySem.W.Frag} {O : Addr → Prop} {H : Hp} {vs : List V} {xs : List D} (f : FzL K O H vs xs) (k : Int) : FzL K O H (repD vs k) (repD xs k) := by
  unfold repD
  generalize k.toNat = n
  induction n with
  | zero => exact .nil
  | succ n ih => rw [List.replicate_succ, List.replicate_succ, List.flatten_cons, List.flatten_cons]; exact f.append ih
theorem rep_nil {α : Type} (k : Int) : repD ([] : List α) k = [] := by
  unfold repD
  generalize k.toNat = n
  induction n with
  | zero => rfl
  | succ n ih => rw [List.replicate_succ, List.flatten_cons, ih]; rfl
theorem rep_one {α : Type} (xs : List α) : repD xs 1 = xs := by unfold repD; simp
theorem rep_neg {α : Type} (xs : List α) {k : Int} (h : k ≤ 0) : repD xs k = [] := by
  unfold repD
  rw [Int.toNat_of_nonpos h]; rfl
section
variable {X : Cx}
theorem n_rep : New2 X (binaryOp .Mult) repL := by
  intro pins s σ H x y v u Q I rx ry ⟨O, dx, dy, z, hO, px, py, e, q⟩
  match dx, dy, e with
  | .list xs, .int k, e =>
    obtain ⟨hc, rfl⟩ := if_some (show (if (-1000 ≤ k ∧ k ≤ 1000) ∧ xs.length ≤ 1000 then some (repD xs k) else none) = some z from e)
    obtain ⟨a, vs, rfl, r1, f1⟩ := px.lst_inv
    refine op_rep pins s σ H _ y v u Q I rx ry ⟨a, k, vs, rfl, py.int_inv, r1, by omega, by omega, ?_, fun p hp => q p _ hp (rep_fz f1 k)⟩
    rw [sizeLine_eq, f1.length]
    have : xs.length * k.toNat ≤ 1000 * 1000 := Nat.mul_le_mul hc.2 (by omega)
    omega
theorem p_mul : Pure2 X (binaryOp .Mult) mulD := by
  intro pins s σ H x y v u Q I rx ry ⟨O, dx, dy, z, hO, px, py, e, q⟩
  match dx, dy, e with
  | .int i, .int j, e =>
    obtain ⟨hc, rfl⟩ := if_some (show (if mulC i j = true then some (PyData.int (i * j)) else none) = some z from e)
    exact op_mul pins s σ H x y v u Q I rx ry ⟨i, j, px.int_inv, py.int_inv, CMul.of hc, q _ H (fun _ _ e => e) (.int _)⟩
  | .list xs, .int k, e =>
    obtain ⟨hc, rfl⟩ := if_some (show (if (-1000 ≤ k ∧ k ≤ 1000) ∧ xs.length ≤ 1000 then some (PyData.list (repD xs k)) else none) = some z from e)
    exact n_rep pins s σ H x y v u Q I rx ry ⟨O, .list xs, .int k, repD xs k, hO, px, py, if_pos hc, fun p vs hp f => q _ _ (Ext.upd hp) (fz_newL hO hp f)⟩
  | .tuple xs, .int k, e =>
    obtain ⟨hc, rfl⟩ := if_some (show (if (-1000 ≤ k ∧ k ≤ 1000) ∧ xs.length ≤ 1000 then some (PyData.tuple (repD xs k)) else none) = some z from e)
    obtain ⟨a, vs, rfl, r1, f1⟩ := px.tup_inv
    by_cases h2 : 2 ≤ k ∧ vs ≠ []
    · exact op_repT pins s σ H _ y v u Q I rx ry ⟨a, k, vs, rfl, py.int_inv, r1.sq, h2.2, h2.1, hc.1.2, by rw [f1.length]; exact hc.2, fun p hp => q _ _ (Ext.upd hp) (fz_newT hO hp (rep_fz f1 k))⟩
    · cases rx
      obtain ⟨t, rfl⟩ : ∃ t, u = .int k t := by rw [py.int_inv] at ry; exact ry
      obtain ⟨its, r, ⟨⟨cls, dd, data, sl⟩, ho, hcl, n, hd⟩, hs⟩ := I.tuple r1.sq
      simp only at hcl hd
      subst hcl hd
      have c0 : (decide (k < -(2 ^ 63)) || decide (k ≥ 2 ^ 63)) = false := by
        rw [decide_eq_false (by omega), decide_eq_false (by omega)] <;> rfl
      have hlen : its.length = vs.length := r.length.symm
      have emp : its.toArray.isEmpty = true ↔ vs = [] := by
        cases its with
        | nil => exact ⟨fun _ => List.eq_nil_of_length_eq_zero hlen.symm, fun _ => rfl⟩
        | cons b c => exact ⟨fun z => by simp at z, fun z => by subst z; cases hlen⟩
      by_cases h1 : vs = [] ∨ k = 1
      · have c1 : (its.toArray.isEmpty || k == 1) = true := by
          rcases h1 with h1 | h1
          · rw [emp.mpr h1]; rfl
          · rw [h1]; simp
        refine wpAny_binaryOp_repeat_ref (T := "tuple") (U := "int") (by decide) ⟨_, ho, rfl⟩ (fun s' => typeIs_int s' k t) noFill_tuple_mul F.fills_int_mul F.slot_int_rmul repeat_tuple F.slot_int_index.lookup
          (call_meets F.slot_int_rmul (typeIs_int s k t) F.entry_int_rmul (F.args_int_rmul_2 _ _) (int_rmul_tuple k t a its.toArray n dd sl) ⟨ho, rfl, ⟨_, ho, rfl⟩, call_meets F.slot_tuple_mul ⟨_, ho, rfl⟩ F.entry_tuple_mul (F.args_tuple_mul_2 _ _) (tup_mul_self a its.toArray n dd sl k t c0 c1) ⟨ho, ?_⟩⟩)
        refine ⟨.ref a, H, I, rfl, q _ H (fun _ _ e => e) ?_⟩
        have e0 : repD xs k = xs := by
          rcases h1 with h1 | h1
          · subst h1; cases f1; exact rep_nil k
          · rw [h1]; exact rep_one xs
        rw [e0]
        exact .tup r1 f1
      · have hk : k ≤ 0 := by
          have : vs ≠ [] := fun z => h1 (.inl z)
          have h3 : ¬ 2 ≤ k := fun z => h2 ⟨z, this⟩
          have h4 : k ≠ 1 := fun z => h1 (.inr z)
          omega
        have c1 : (its.toArray.isEmpty || k == 1) = false := by
          rw [Bool.or_eq_false_iff]
          refine ⟨?_, beq_eq_false_iff_ne.mpr fun z => h1 (.inr z)⟩
          cases hq : its.toArray.isEmpty with
          | false => rfl
          | true => exact (h1 (.inl (emp.mp hq))).elim
        have c2 : (decide (k ≤ 0) || its.toArray.isEmpty) = true := by rw [decide_eq_true hk]; rfl
        refine wpAny_binaryOp_repeat_ref (T := "tuple") (U := "int") (by decide) ⟨_, ho, rfl⟩ (fun s' => typeIs_int s' k t) noFill_tuple_mul F.fills_int_mul F.slot_int_rmul repeat_tuple F.slot_int_index.lookup
          (call_meets F.slot_int_rmul (typeIs_int s k t) F.entry_int_rmul (F.args_int_rmul_2 _ _) (int_rmul_tuple k t a its.toArray n dd sl) ⟨ho, rfl, ⟨_, ho, rfl⟩, call_meets F.slot_tuple_mul ⟨_, ho, rfl⟩ F.entry_tuple_mul (F.args_tuple_mul_2 _ _) (tup_mul_none a its.toArray n dd sl k t c0 c1 c2) ⟨ho, ?_⟩⟩)
        have hp : H s.heap.objs.size = none := I.hok.fresh (Nat.le_refl _)
        refine ⟨.ref s.heap.objs.size, _, I.laid (t' := s.toks) (o := .tup []) (fun b ob q => Heap.get?_push_of_some _ q) (Nat.le_refl _) ?_, rfl, q _ _ (Ext.upd hp) ?_⟩
        · exact ⟨Nat.zero_le _, [], .nil, IsTup.new _ _⟩
        · rw [rep_neg xs hk]
          exact fz_newT hO hp .nil
end
end DL

/-! DL15: chains, parallel stores, ranges as lists -/
namespace DL
open PySem PySem.Spec PyProof.Rows L2
section
variable {X : Cx} {C : Ct} {a b c e : Expr} {pos p : Pos} {ga gb gc : G Opd}
theorem chain_go {r r' : R2} {f f' : D → D → Option D} {σ : L2.St} {H : Hp} {Q : VK} (hr : ∀ x y H Q, rP2 X.K f x y H Q → r x y H Q) (hr' : ∀ x y H Q, rP2 X.K f' x y H Q → r' x y H Q)
    (h : TX X.K C (RD X.K) (gChain f f' ga gb gc) σ H Q) : tChain r r' (TX X.K C (RO X.K) ga) (TX X.K C (RO X.K) gb) (TX X.K C (RO X.K) gc) σ H Q := by
  obtain ⟨w, ρ, hw, l, sr, q⟩ := h
  refine ⟨w, ρ, hw, l, sr, M.wp_mono (M.wp_bind.mp q) (fun r q v w1 l1 s1 r1 => ?_) fun _ z => z⟩
  refine ⟨w1, r.2, rfl, l.trans l1, s1, M.wp_mono (M.wp_bind.mp q) (fun s q u w2 l2 s2 r2 => ?_) fun _ z => z⟩
  obtain ⟨x, px, ex, q⟩ := rd_pk s2 (ROo.le l2 r1) (M.wp_bind.mp q)
  obtain ⟨y, py, ey, q⟩ := rd_pk s2 r2 (M.wp_bind.mp q)
  obtain ⟨z, hz, q⟩ := wp_ofOpt (M.wp_bind.mp q)
  refine hr _ _ _ _ ⟨w2.O, x, y, z, s2.ok.there, px, py, hz, fun v' H' e fz => ?_⟩
  cases z with
  | bool k =>
    cases fz
    refine ⟨k, rfl, ?_⟩
    cases k with
    | false => exact q _ { w2 with H := H' } (l1.trans (l2.trans (.ext e))) (s2.ext e) (.bl false)
    | true =>
      have le3 : Le w2 { w2 with H := H' } := .ext e
      refine ⟨{ w2 with H := H' }, s.2, rfl, l.trans (l1.trans (l2.trans le3)), s2.ext e, M.wp_mono (M.wp_bind.mp q) (fun t q v4 w4 l4 s4 r4 => ?_) fun _ z => z⟩
      obtain ⟨y2, py2, ey2, q⟩ := rd_pk s4 (ROo.le (le3.trans l4) r2) (M.wp_bind.mp q)
      obtain ⟨u2, pu2, eu2, q⟩ := rd_pk s4 r4 (M.wp_bind.mp q)
      obtain ⟨z2, hz2, q⟩ := wp_ofOpt (M.wp_bind.mp q)
      refine hr' _ _ _ _ ⟨w4.O, y2, u2, z2, s4.ok.there, py2, pu2, hz2, fun v5 H5 e5 fz5 => ?_⟩
      exact q v5 { w4 with H := H5 } (l1.trans (l2.trans (le3.trans (l4.trans (.ext e5))))) (s4.ext e5) fz5
  | _ => exact q.elim
theorem de_chain {op op' : CmpOp} {f f' : D → D → Option D} (ho : Pure2 X (compareOp op) f) (ho' : Pure2 X (compareOp op') f') (ha : DO X C a ga) (hb : DO X C b gb) (hc : DO X C c gc)
    (hm : lastMarks [op, op'] [b, c] = false := by with_unfolding_all rfl) : DE X C (.Compare a [op, op'] [b, c] pos) (gChain f f' ga gb gc) :=
  PE.imp (pe_chain ho ho' ha hb hc hm) fun _ _ _ h => chain_go (fun _ _ _ _ z => z) (fun _ _ _ _ z => z) h
theorem dt_chain {op op' : CmpOp} {f f' : D → D → Option D} (ho : Pure2 X (compareOp op) f) (ho' : Pure2 X (compareOp op') f') (ha : DO X C a ga) (hb : DO X C b gb) (hc : DO X C c gc)
    (hm : lastMarks [op, op'] [b, c] = false := by with_unfolding_all rfl) : DT X C (.Compare a [op, op'] [b, c] pos) (gB (gChain f f' ga gb gc)) :=
  PT.imp (pt_chain ho ho' ha hb hc hm) fun σ H Q ⟨w, ρ, hw, l, sr, q⟩ => by
    refine chain_go (C := C) (f := f) (f' := f') (fun _ _ _ _ z => z) (fun _ _ _ _ z => z) ⟨w, ρ, hw, l, sr, M.wp_mono (M.wp_bind.mp q) (fun r q v w' l' s' f => ?_) fun _ z => z⟩
    obtain ⟨b, e, q⟩ := bool_of q
    exact ⟨b, bl_of f e, q w' l' s'⟩
/-! ### {} -/
def gD0 : G D := fun ρ => .ret (.dict [], ρ)
theorem dn_dict0 : DN X C (.Dict [] [] pos) gD0 := PE.imp pe_dnewK fun σ H Q ⟨w, ρ, hw, l, sr, q⟩ => by
  subst hw
  intro p hp
  refine q (.ref p) (w.alloc p (.dK [])) (alloc_le hp sr.ok) (sr.alloc hp) ⟨p, rfl, ?_, fun i t y hq he => ?_⟩
  · exact .ownD (ks := []) (vs := []) (xs := []) (.inr rfl) (fun z => sr.ok.ne hp (sr.ok.hd p z).1) (fun z => sr.ok.ne hp (sr.ok.pr p z).1) (.inl ⟨[], upd_same, rfl, rfl⟩) .nil (.inl rfl)
  · obtain ⟨a, e1, h1, _⟩ := (sr.slot i _ hq).own_at
    rw [he] at e1
    cases e1
    exact sr.ok.ne hp h1
/-! ### list(range(..)) -/
theorem fz_ints {K : PySem.W.Frag} {O : Addr → Prop} {H : Hp} : ∀ (n : Nat) (lo : Int), FzL K O H ((List.range n).map fun (k : Nat) => V.int (lo + (k : Int))) (intsFrom lo n)
  | 0, lo => .nil
  | n + 1, lo => by
    rw [List.range_succ_eq_map, List.map_cons, List.map_map]
    refine .cons (by simpa using Fz.int (K := K) (O := O) (H := H) lo) ?_
    have e : ((fun (k : Nat) => V.int (lo + (k : Int))) ∘ Nat.succ) = fun (k : Nat) => V.int (lo + 1 + (k : Int)) := by
      funext k
      show V.int (lo + ((k + 1 : Nat) : Int)) = V.int (lo + 1 + (k : Int))
      congr 1
      omega
    rw [e]
    exact fz_ints n (lo + 1)
def lr1 : D → Option (List D)
  | .int n => if -(2 ^ 62) ≤ n ∧ n ≤ 16777216 then some (intsFrom 0 n.toNat) else none
  | _ => none
def lr2 : D → D → Option (List D)
  | .int i, .int j => if (-(2 ^ 62) ≤ i ∧ i < 2 ^ 62 ∧ -(2 ^ 62) ≤ j ∧ j < 2 ^ 62) ∧ (j - i).toNat ≤ 16777216 then some (intsFrom i (j - i).toNat) else none
  | _, _ => none
def gN1 (f : D → Option (List D)) (a : G Opd) : G D := fun ρ => (a ρ).bind fun r => (rd r.2 r.1).bind fun x => (M.ofOpt (f x)).bind fun z => .ret (.list z, r.2)
theorem dn_lr1 {p2 pos2 : Pos} (hc : X.calm = true) (hml : X.mg "list" = none) (hm : X.mg "range" = none) (ha : DO X C a ga) (hgl : Gl X "list" := by rfl) (hg : Gl X "range" := by rfl) (na : starEach [a] X.env = (false, eval a X.env) :: starEach [] X.env := by rfl)
    (nb : starEach [.Call (.Name "range" p2) [a] [] pos2] X.env = (false, eval (.Call (.Name "range" p2) [a] [] pos2) X.env) :: starEach [] X.env := by rfl) :
    DN X C (.Call (.Name "list" p) [.Call (.Name "range" p2) [a] [] pos2] [] pos) (gN1 lr1 ga) := PE.imp (pe_listRg hc hgl hml (prg_1 hg hm ha na) nb) fun σ H Q ⟨w, ρ, hw, l, sr, q⟩ => by
  refine ⟨w, ρ, hw, l, sr, M.wp_mono (M.wp_bind.mp q) (fun r q v w1 l1 s1 r1 => ?_) fun _ z => z⟩
  obtain ⟨x, px, ex, q⟩ := rd_pk s1 r1 (M.wp_bind.mp q)
  obtain ⟨z, hz, q⟩ := wp_ofOpt (M.wp_bind.mp q)
  cases x with
  | int n =>
    obtain ⟨hc, rfl⟩ := if_some (show (if -(2 ^ 62) ≤ n ∧ n ≤ 16777216 then some (intsFrom 0 n.toNat) else none) = some z from hz)
    refine ⟨n, px.int_inv, ⟨by omega, by omega, hc.1, by omega, by omega⟩, fun p hp => ?_⟩
    have f := fz_ints (K := X.K) (O := w1.O) (H := w1.H) n.toNat 0
    have e : rgV 0 n = (List.range n.toNat).map fun (k : Nat) => V.int (0 + (k : Int)) := by unfold rgV; rw [Int.sub_zero]
    rw [e]
    exact q (.ref p) (w1.alloc p (.lst _)) (l1.trans (alloc_le hp s1.ok)) (s1.alloc hp) (rw_list hp s1 f)
  | _ => cases hz
theorem dn_lr2 {p2 pos2 : Pos} (hc : X.calm = true) (hml : X.mg "list" = none) (hm : X.mg "range" = none) (ha : DO X C a ga) (hb : DO X C b gb) (hgl : Gl X "list" := by rfl) (hg : Gl X "range" := by rfl) (na : starEach [a, b] X.env = (false, eval a X.env) :: starEach [b] X.env := by rfl)
    (nb : starEach [b] X.env = (false, eval b X.env) :: starEach [] X.env := by rfl) (hp : (backTo pos2 (starEach [b] X.env)).any (·.1) = false := by rfl)
    (nc : starEach [.Call (.Name "range" p2) [a, b] [] pos2] X.env = (false, eval (.Call (.Name "range" p2) [a, b] [] pos2) X.env) :: starEach [] X.env := by rfl) :
    DN X C (.Call (.Name "list" p) [.Call (.Name "range" p2) [a, b] [] pos2] [] pos) (gN2 lr2 ga gb) := PE.imp (pe_listRg hc hgl hml (prg_2 hg hm ha hb na nb hp) nc) fun σ H Q ⟨w, ρ, hw, l, sr, q⟩ => by
  refine ⟨w, ρ, hw, l, sr, M.wp_mono (M.wp_bind.mp q) (fun r q v w1 l1 s1 r1 => ?_) fun _ z => z⟩
  refine ⟨w1, r.2, rfl, l.trans l1, s1, M.wp_mono (M.wp_bind.mp q) (fun s q u w2 l2 s2 r2 => ?_) fun _ z => z⟩
  obtain ⟨x, px, ex, q⟩ := rd_pk s2 (ROo.le l2 r1) (M.wp_bind.mp q)
  obtain ⟨y, py, ey, q⟩ := rd_pk s2 r2 (M.wp_bind.mp q)
  obtain ⟨z, hz, q⟩ := wp_ofOpt (M.wp_bind.mp q)
  match x, y, hz with
  | .int i, .int j, hz =>
    obtain ⟨hc, rfl⟩ := if_some (show (if (-(2 ^ 62) ≤ i ∧ i < 2 ^ 62 ∧ -(2 ^ 62) ≤ j ∧ j < 2 ^ 62) ∧ (j - i).toNat ≤ 16777216 then some (intsFrom i (j - i).toNat) else none) = some z from hz)
    refine ⟨i, j, px.int_inv, py.int_inv, ⟨hc.1.1, hc.1.2.1, hc.1.2.2.1, hc.1.2.2.2, by omega⟩, fun p hp => ?_⟩
    have f := fz_ints (K := X.K) (O := w2.O) (H := w2.H) (j - i).toNat i
    exact q (.ref p) (w2.alloc p (.lst _)) (l1.trans (l2.trans (alloc_le hp s2.ok))) (s2.alloc hp) (rw_list hp s2 f)
end

/-! ### a, b = x, y -/
inductive RVs (K : PySem.W.Frag) (w : Wd) (σ : L2.St) (ρ : Rho) : List V → List W → Prop where
  | nil : RVs K w σ ρ [] []
  | d {v : V} {x : D} {vs : List V} {ws : List W} : Fz K w.O w.H v x → RVs K w σ ρ vs ws → RVs K w σ ρ (v :: vs) (.d x :: ws)
  | w {a : Addr} {x : D} {vs : List V} {ws : List W} : SlotR K w (some (.ref a)) (.own 0 x) → (∀ (i t : Nat) (y : D), ρ[i]? = some (.own t y) → σ[i]? ≠ some (some (.ref a))) → (∀ (k t : Nat) (y : D), ws[k]? = some (.own t y) → vs[k]? ≠ some (.ref a)) → RVs K w σ ρ vs ws → RVs K w σ ρ (.ref a :: vs) (.own 0 x :: ws)
def TVs (K : PySem.W.Frag) (C : Ct) (g : G (List W)) : TA := fun σ H Q => ∃ (w : Wd) (ρ : Rho), w.H = H ∧ Le C.base w ∧ SR K w σ ρ ∧
  (g ρ).wp (fun r => ∀ vs (w' : Wd), Le w w' → SR K w' σ r.2 → RVs K w' σ r.2 vs r.1 → Q vs w'.H) C.Ex
abbrev DVs (X : Cx) (C : Ct) (es : List Expr) (g : G (List W)) : Prop := PA X es (TVs X.K C g)
def gV0 : G (List W) := fun ρ => .ret ([], ρ)
def gVd (a : G D) (b : G (List W)) : G (List W) := fun ρ => (a ρ).bind fun r => (b r.2).bind fun s => .ret (.d r.1 :: s.1, s.2)
def gVw (a : G D) (b : G (List W)) : G (List W) := fun ρ => (a ρ).bind fun r => (b r.2).bind fun s => .ret (.own 0 r.1 :: s.1, s.2)
def gPar (is : List Nat) (a : G (List W)) : G Fl := fun ρ => (a ρ).bind fun r => if r.1.length = is.length then .ret (.nx, (is.zip r.1).foldl (fun ρ p => ρ.set p.1 p.2) r.2) else .stuck
section
variable {K : PySem.W.Frag} {w w' : Wd} {σ : L2.St} {ρ : Rho}
theorem SlotR.move {w1 w2 : Wd} {a : Addr} {x : D} (f : SlotR K w1 (some (.ref a)) (.own 0 x)) (k : Keep w1.O w1.H w2.O w2.H) (e : ∀ o, w1.H a = some o → w2.H a = some o) (hO : w2.O a) (hH : ¬ w2.Hd a) (hP : ¬ w2.Pr a) : SlotR K w2 (some (.ref a)) (.own 0 x) := by
  cases f with
  | ownL g1 g2 g3 g4 g5 g6 => exact .ownL hO hH hP (e _ g4) (g5.keep k) (.inl rfl)
  | ownD g1 g2 g3 g4 g5 g6 =>
    refine .ownD hO hH hP ?_ (g5.keep k) (.inl rfl)
    rcases g4 with ⟨kvs, h, r⟩ | ⟨kvs, h, r⟩
    · exact .inl ⟨kvs, e _ h, r⟩
    · exact .inr ⟨kvs, e _ h, r⟩
theorem RVs.length : ∀ {vs : List V} {ws : List W}, RVs K w σ ρ vs ws → vs.length = ws.length
  | _, _, .nil => rfl
  | _, _, .d _ t => by simp [RVs.length t]
  | _, _, .w _ _ _ t => by simp [RVs.length t]
theorem RVs.own : ∀ {vs : List V} {ws : List W} {k t : Nat} {y : D}, RVs K w σ ρ vs ws → ws[k]? = some (.own t y) → ∃ b, vs[k]? = some (.ref b) ∧ w.O b ∧ ¬ w.Pr b
  | _, _, _, _, _, .nil, h => by simp at h
  | _, _, 0, _, _, .d _ _, h => by simp at h
  | _, _, k + 1, t, y, .d _ r, h => RVs.own (k := k) (t := t) (y := y) r h
  | _, _, 0, t, y, .w f _ _ _, h => by
    obtain ⟨b, e, h1, _, h3, _⟩ := f.own_at
    cases e
    exact ⟨_, rfl, h1, h3⟩
  | _, _, k + 1, t, y, .w _ _ _ r, h => RVs.own (k := k) (t := t) (y := y) r h
/-- the first is stored -/
theorem RVs.set1 {i : Nat} {v : V} {z : W} {vs : List V} {ws : List W} (s : SR K w σ ρ) (r : RVs K w σ ρ (v :: vs) (z :: ws)) : SR K w (σ.set i (some v)) (ρ.set i z) ∧ RVs K w (σ.set i (some v)) (ρ.set i z) vs ws := by
  have tail : ∀ {vs : List V} {ws : List W}, RVs K w σ ρ vs ws → (∀ (k t t' : Nat) (y y' : D), z = .own t' y' → ws[k]? = some (.own t y) → vs[k]? ≠ some v) → RVs K w (σ.set i (some v)) (ρ.set i z) vs ws := by
    intro vs ws r
    induction r with
    | nil => intro _; exact .nil
    | d f _ ih => intro hn; exact .d f (ih fun k t t' y y' e h => hn (k + 1) t t' y y' e h)
    | w f n1 n2 _ ih =>
      intro hn
      refine .w f (fun j t y q e => ?_) n2 (ih fun k t t' y y' e h => hn (k + 1) t t' y y' e h)
      by_cases hj : j = i
      · subst hj
        have hl := (List.getElem?_eq_some_iff.mp q).1
        rw [List.length_set] at hl
        rw [List.getElem?_set_self hl] at q
        rw [List.getElem?_set_self (by rw [s.len]; exact hl)] at e
        exact hn 0 0 t _ y (Option.some.inj q) rfl (Option.some.inj e ▸ rfl)
      · rw [List.getElem?_set_ne (Ne.symm hj)] at q e
        exact n1 j t y q e
  cases r with
  | d f r => exact ⟨s.setD f, tail r fun _ _ _ _ _ e => by cases e⟩
  | w f n1 n2 r => exact ⟨s.setW ⟨_, rfl, f, n1⟩, tail r fun k t t' y y' e h => n2 k t y h⟩
theorem RVs.setAll : ∀ (is : List Nat) {vs : List V} {ws : List W} {σ : L2.St} {ρ : Rho}, SR K w σ ρ → RVs K w σ ρ vs ws → SR K w ((is.zip vs).foldl (fun σ p => σ.set p.1 (some p.2)) σ) ((is.zip ws).foldl (fun ρ p => ρ.set p.1 p.2) ρ)
  | [], _, _, _, _, s, _ => s
  | i :: is, [], _, _, _, s, r => by cases r; exact s
  | i :: is, v :: vs, [], _, _, s, r => by cases r
  | i :: is, v :: vs, z :: ws, σ, ρ, s, r => by
    obtain ⟨s1, r1⟩ := RVs.set1 (i := i) s r
    exact RVs.setAll is s1 r1
theorem RVs.move {w0 : Wd} (l : Le w0 w) : ∀ {vs : List V} {ws : List W}, RVs K w σ ρ vs ws → RVs K (w.unprot w0.Pr) σ ρ vs ws
  | _, _, .nil => .nil
  | _, _, .d f t => .d f (RVs.move l t)
  | _, _, .w f n1 n2 t => .w (by
      cases f with
      | ownL g1 g2 g3 g4 g5 g6 => exact .ownL g1 g2 (fun z => g3 (l.pr _ z)) g4 g5 (.inl rfl)
      | ownD g1 g2 g3 g4 g5 g6 => exact .ownD g1 g2 (fun z => g3 (l.pr _ z)) g4 g5 (.inl rfl)) n1 n2 (RVs.move l t)
end
section
variable {X : Cx} {C : Ct} {e : Expr} {es : List Expr} {pos : Pos} {ga : G D} {g : G (List W)}
theorem dv_nil : DVs X C [] gV0 := PA.imp pa_nil fun σ H Q ⟨w, ρ, hw, l, sr, q⟩ => by subst hw; exact q [] w .refl sr .nil
theorem dv_d (ha : DE X C e ga) (hr : DVs X C es g) (hs : starEach (e :: es) X.env = (false, eval e X.env) :: starEach es X.env := by rfl) : DVs X C (e :: es) (gVd ga g) :=
  PA.imp (pa_cons ha hr hs) fun σ H Q ⟨w, ρ, hw, l, sr, q⟩ => by
    refine ⟨w, ρ, hw, l, sr, M.wp_mono (M.wp_bind.mp q) (fun r q v w1 l1 s1 r1 => ?_) fun _ z => z⟩
    refine ⟨w1, r.2, rfl, l.trans l1, s1, M.wp_mono (M.wp_bind.mp q) (fun s q u w2 l2 s2 r2 => ?_) fun _ z => z⟩
    exact q (v :: u) w2 (l1.trans l2) s2 (.d (Fz.keep l2.keep r1) r2)
theorem dv_w (ha : DN X C e ga) (hr : DVs X C es g) (hs : starEach (e :: es) X.env = (false, eval e X.env) :: starEach es X.env := by rfl) : DVs X C (e :: es) (gVw ga g) :=
  PA.imp (pa_cons ha hr hs) fun σ H Q ⟨w, ρ, hw, l, sr, q⟩ => by
    refine ⟨w, ρ, hw, l, sr, M.wp_mono (M.wp_bind.mp q) (fun r q v w1 l1 s1 r1 => ?_) fun _ z => z⟩
    obtain ⟨a, rfl, f, ne⟩ := r1
    obtain ⟨a', ea, o1, o2, o3, _⟩ := f.own_at
    cases ea
    have sp := s1.prot o1 o2 ne
    refine ⟨w1.prot a, r.2, rfl, l.trans (l1.trans prot_le), sp, M.wp_mono (M.wp_bind.mp q) (fun s q u w2 l2 s2 r2 => ?_) fun _ z => z⟩
    have l12 : Le w1 w2 := prot_le.trans l2
    have p2 : w2.Pr a := l2.pr a (.inr rfl)
    have hO := (s2.ok.pr a p2).1
    have hH := (s2.ok.pr a p2).2
    refine q (.ref a :: u) (w2.unprot w1.Pr) (l1.trans (unprot_le l12)) (unprot_sr l12 s2) (.w ?_ (fun i t y hq he => ?_) (fun k t y hq he => ?_) (r2.move l12))
    · exact f.move l12.keep (fun o h => l2.prk a o (.inr rfl) h) hO hH o3
    · obtain ⟨b, e1, _, _, h3, _⟩ := (s2.slot i _ hq).own_at
      rw [he] at e1
      cases e1
      exact h3 p2
    · obtain ⟨b, e1, _, h3⟩ := r2.own hq
      rw [he] at e1
      cases e1
      exact h3 p2
theorem ds_par2 {i j : Nat} {x y : Str} {a b : Expr} {px py pt : Pos} {kt k2 pt2} (hc : X.calm = true) (hN : X.N.Nodup) (ha : DVs X C [a, b] g) (hij : i ≠ j := by decide) (hi : X.N[i]? = some x := by rfl) (hj : X.N[j]? = some y := by rfl)
    (hx : X.env.scope.names.lookup x = some .local := by rfl) (hy : X.env.scope.names.lookup y = some .local := by rfl) (hw : swappedStores [.Tuple [.Name x px, .Name y py] kt pt] (.Tuple [a, b] k2 pt2) X.env = pure (some [x, y]) := by rfl)
    (hs : swapsWithSole [.Tuple [.Name x px, .Name y py] kt pt] (.Tuple [a, b] k2 pt2) pos.line X.env = pure false := by rfl) :
    DS X C (.Assign [.Tuple [.Name x px, .Name y py] kt pt] (.Tuple [a, b] k2 pt2) pos) (gPar [i, j] g) := PS.imp (ps_par hc hN hi hj hij hx hy ha hw hs) fun E σ H ⟨w, ρ, hw, l, sr, q⟩ => by
  refine ⟨w, ρ, hw, l, sr, M.wp_mono (M.wp_bind.mp q) (fun r q vs w1 l1 s1 r1 => ?_) fun _ z => z⟩
  have hl : r.1.length = [i, j].length := by
    by_cases h : r.1.length = [i, j].length
    · exact h
    · rw [if_neg h] at q; exact q.elim
  rw [if_pos hl] at q
  have hv := r1.length.trans hl
  match vs, hv with
  | [v1, v2], _ => exact ⟨v1, v2, rfl, q _ w1 l1 (RVs.setAll [i, j] s1 r1)⟩
theorem ds_par3 {i j k : Nat} {x y z : Str} {a b c : Expr} {px py pz pt : Pos} {kt k2 pt2} (hc : X.calm = true) (hN : X.N.Nodup) (ha : DVs X C [a, b, c] g) (hij : i ≠ j := by decide) (hik : i ≠ k := by decide) (hjk : j ≠ k := by decide) (hi : X.N[i]? = some x := by rfl) (hj : X.N[j]? = some y := by rfl) (hk : X.N[k]? = some z := by rfl)
    (hx : X.env.scope.names.lookup x = some .local := by rfl) (hy : X.env.scope.names.lookup y = some .local := by rfl) (hz : X.env.scope.names.lookup z = some .local := by rfl) (hw : swappedStores [.Tuple [.Name x px, .Name y py, .Name z pz] kt pt] (.Tuple [a, b, c] k2 pt2) X.env = pure (some [x, y, z]) := by rfl)
    (hs : swapsWithSole [.Tuple [.Name x px, .Name y py, .Name z pz] kt pt] (.Tuple [a, b, c] k2 pt2) pos.line X.env = pure false := by rfl) :
    DS X C (.Assign [.Tuple [.Name x px, .Name y py, .Name z pz] kt pt] (.Tuple [a, b, c] k2 pt2) pos) (gPar [i, j, k] g) := PS.imp (ps_par3 hc hN hi hj hk hij hik hjk hx hy hz ha hw hs) fun E σ H ⟨w, ρ, hw, l, sr, q⟩ => by
  refine ⟨w, ρ, hw, l, sr, M.wp_mono (M.wp_bind.mp q) (fun r q vs w1 l1 s1 r1 => ?_) fun _ z => z⟩
  have hl : r.1.length = [i, j, k].length := by
    by_cases h : r.1.length = [i, j, k].length
    · exact h
    · rw [if_neg h] at q; exact q.elim
  rw [if_pos hl] at q
  have hv := r1.length.trans hl
  match vs, hv with
  | [v1, v2, v3], _ => exact ⟨v1, v2, v3, rfl, q _ w1 l1 (RVs.setAll [i, j, k] s1 r1)⟩
/-- x, y = e -/
def gUnp (t : D → Rho → M Rho) (a : G D) : G Fl := fun ρ => (a ρ).bind fun r => (t r.1 r.2).bind fun ρ1 => .ret (.nx, ρ1)
theorem ds_unp {tg : Expr} {ts : List Nat} {t : D → Rho → M Rho} (he : DE X C e ga) (hg : DG X C tg ts t) (hs : swapsWithSole [tg] e pos.line X.env = pure false := by rfl) (hw : swappedStores [tg] e X.env = pure none := by rfl)
    (h1 : (assignEach [tg] X.env).map (·.2) = [assign tg X.env] := by rfl) : DS X C (.Assign [tg] e pos) (gUnp t ga) := PS.imp (ps_asg he hg hs hw h1) fun E σ H ⟨w, ρ, hw, l, sr, q⟩ => by
  refine ⟨w, ρ, hw, l, sr, M.wp_mono (M.wp_bind.mp q) (fun r q v w1 l1 s1 f => ?_) fun _ z => z⟩
  exact ⟨w1, r.2, r.1, rfl, l.trans l1, s1, f, M.wp_mono (M.wp_bind.mp q) (fun ρ2 q σ2 w2 l2 s2 _ => q σ2 w2 (l1.trans l2) s2) fun _ z => z⟩
end
end DL

/-! DL16: further pieces -/
namespace DL
open PySem PySem.Spec PyProof.Rows L2
section
variable {X : Cx} {C : Ct}
theorem de_globE {x : Str} {i : Int} {pos : Pos} (hg : Gl X x) (hm : ∃ t, X.mg x = some (.int i t)) (hd : (x == ("__debug__" : Str)) = false := by decide) : DE X C (.Name x pos) (gv (.int i)) := by
  obtain ⟨t, h⟩ := hm
  exact de_glob hg h hd
def negI : D → Option D
  | .int i => some (.int (-i))
  | _ => none
theorem p_neg : Pure1 X (unaryOp .USub) negI := UnR.imp un_neg fun x H Q ⟨O, dx, z, _, px, e, q⟩ => by
  cases dx with
  | int i => cases e; exact ⟨i, px.int_inv, q _ H (fun _ _ e => e) (.int _)⟩
  | _ => cases e
end
end DL

/-! DL17: how the walks' values are reckoned -/
namespace DL
open PySem PySem.Spec PyProof.Rows L2
/-- a row of names that stands written out -/
def Rdy (ρ : Rho) : Prop := ρ.length = ρ.length
@[simp] theorem Rdy_nil : Rdy [] := rfl
@[simp] theorem Rdy_cons (x : W) (ρ : Rho) : Rdy (x :: ρ) := rfl
@[simp ↓] theorem gv_ap (x : D) {ρ : Rho} (_h : Rdy ρ) : gv x ρ = .ret (x, ρ) := rfl
@[simp ↓] theorem gO_ap (g : G D) {ρ : Rho} (_h : Rdy ρ) : gO g ρ = (g ρ).bind fun r => .ret (.v r.1, r.2) := rfl
@[simp ↓] theorem g1_ap (f : D → Option D) (a : G Opd) {ρ : Rho} (_h : Rdy ρ) : g1 f a ρ = (a ρ).bind fun r => (rd r.2 r.1).bind fun x => (M.ofOpt (f x)).bind fun z => .ret (z, r.2) := rfl
@[simp ↓] theorem g2_ap (f : D → D → Option D) (a b : G Opd) {ρ : Rho} (_h : Rdy ρ) : g2 f a b ρ = (a ρ).bind fun r => (b r.2).bind fun s => (rd s.2 r.1).bind fun x => (rd s.2 s.1).bind fun y => (M.ofOpt (f x y)).bind fun z => .ret (z, s.2) := rfl
@[simp ↓] theorem gL_ap (f : List D → Option D) (a : G (List Opd)) {ρ : Rho} (_h : Rdy ρ) : gL f a ρ = (a ρ).bind fun r => (rdL r.2 r.1).bind fun xs => (M.ofOpt (f xs)).bind fun z => .ret (z, r.2) := rfl
@[simp ↓] theorem gA0_ap {ρ : Rho} (_h : Rdy ρ) : gA0  ρ = .ret ([], ρ) := rfl
@[simp ↓] theorem gA_ap (a : G Opd) (b : G (List Opd)) {ρ : Rho} (_h : Rdy ρ) : gA a b ρ = (a ρ).bind fun r => (b r.2).bind fun s => .ret (r.1 :: s.1, s.2) := rfl
@[simp ↓] theorem gTup_ap (a : G (List Opd)) {ρ : Rho} (_h : Rdy ρ) : gTup a ρ = (a ρ).bind fun r => (vL r.1).bind fun xs => if xs.length ≤ 16777216 then .ret (.tuple xs, r.2) else .stuck := rfl
@[simp ↓] theorem gLst_ap (a : G (List Opd)) {ρ : Rho} (_h : Rdy ρ) : gLst a ρ = (a ρ).bind fun r => (vL r.1).bind fun xs => if xs.length ≤ 16777216 then .ret (.list xs, r.2) else .stuck := rfl
@[simp ↓] theorem gB_ap (a : G D) {ρ : Rho} (_h : Rdy ρ) : gB a ρ = (a ρ).bind fun r => match r.1 with
  | .bool b => .ret (b, r.2)
  | _ => .stuck := rfl
@[simp ↓] theorem gAnd_ap (a b : G Bool) {ρ : Rho} (_h : Rdy ρ) : gAnd a b ρ = (a ρ).bind fun r => if r.1 = true then b r.2 else .ret (false, r.2) := rfl
@[simp ↓] theorem gOr_ap (a b : G Bool) {ρ : Rho} (_h : Rdy ρ) : gOr a b ρ = (a ρ).bind fun r => if r.1 = true then .ret (true, r.2) else b r.2 := rfl
@[simp ↓] theorem gNot_ap (a : G Bool) {ρ : Rho} (_h : Rdy ρ) : gNot a ρ = (a ρ).bind fun r => .ret (!r.1, r.2) := rfl
@[simp ↓] theorem gAndV_ap (a b : G D) {ρ : Rho} (_h : Rdy ρ) : gAndV a b ρ = (a ρ).bind fun r => match r.1 with
  | .bool true => b r.2
  | .bool false => .ret (.bool false, r.2)
  | _ => .stuck := rfl
@[simp ↓] theorem gOrV_ap (a b : G D) {ρ : Rho} (_h : Rdy ρ) : gOrV a b ρ = (a ρ).bind fun r => match r.1 with
  | .bool false => b r.2
  | .bool true => .ret (.bool true, r.2)
  | _ => .stuck := rfl
@[simp ↓] theorem gNotV_ap (a : G D) {ρ : Rho} (_h : Rdy ρ) : gNotV a ρ = (a ρ).bind fun r => match r.1 with
  | .bool b => .ret (.bool !b, r.2)
  | _ => .stuck := rfl
@[simp ↓] theorem gIf_ap {α : Type} (c : G Bool) (a b : G α) {ρ : Rho} (_h : Rdy ρ) : gIf c a b ρ = (c ρ).bind fun r => if r.1 = true then a r.2 else b r.2 := rfl
@[simp ↓] theorem gChain_ap (f f' : D → D → Option D) (a b c : G Opd) {ρ : Rho} (_h : Rdy ρ) : gChain f f' a b c ρ = (a ρ).bind fun r => (b r.2).bind fun s => (rd s.2 r.1).bind fun x => (rd s.2 s.1).bind fun y => (M.ofOpt (f x y)).bind fun z => match z with
  | .bool false => .ret (.bool false, s.2)
  | .bool true => (c s.2).bind fun t => (rd t.2 s.1).bind fun y => (rd t.2 t.1).bind fun u => (M.ofOpt (f' y u)).bind fun z => .ret (z, t.2)
  | _ => .stuck := rfl
@[simp ↓] theorem gSeq_ap (a b : G Fl) {ρ : Rho} (_h : Rdy ρ) : gSeq a b ρ = (a ρ).bind fun r => match r.1 with
  | .nx => b r.2
  | f => .ret (f, r.2) := rfl
@[simp ↓] theorem gNx_ap {ρ : Rho} (_h : Rdy ρ) : gNx  ρ = .ret (.nx, ρ) := rfl
@[simp ↓] theorem gBk_ap {ρ : Rho} (_h : Rdy ρ) : gBk  ρ = .ret (.bk, ρ) := rfl
@[simp ↓] theorem gCt_ap {ρ : Rho} (_h : Rdy ρ) : gCt  ρ = .ret (.ct, ρ) := rfl
@[simp ↓] theorem gRet_ap (a : G D) {ρ : Rho} (_h : Rdy ρ) : gRet a ρ = (a ρ).bind fun r => .ret (.rt r.1, r.2) := rfl
@[simp ↓] theorem gRetW_ap (a : G D) {ρ : Rho} (_h : Rdy ρ) : gRetW a ρ = (a ρ).bind fun r => .ret (.rw r.1, r.2) := rfl
@[simp ↓] theorem gRetN_ap {ρ : Rho} (_h : Rdy ρ) : gRetN  ρ = .ret (.rt .none, ρ) := rfl
@[simp ↓] theorem gExpr_ap (a : G D) {ρ : Rho} (_h : Rdy ρ) : gExpr a ρ = (a ρ).bind fun r => .ret (.nx, r.2) := rfl
@[simp ↓] theorem gSet_ap (i : Nat) (a : G D) {ρ : Rho} (_h : Rdy ρ) : gSet i a ρ = (a ρ).bind fun r => .ret (.nx, r.2.set i (.d r.1)) := rfl
@[simp ↓] theorem gSetW_ap (i : Nat) (a : G D) {ρ : Rho} (_h : Rdy ρ) : gSetW i a ρ = (a ρ).bind fun r => .ret (.nx, r.2.set i (.own 0 r.1)) := rfl
@[simp ↓] theorem gSeqI_ap (a : G D) {ρ : Rho} (_h : Rdy ρ) : gSeqI a ρ = (a ρ).bind fun r => match r.1 with
  | .list xs => .ret (xs, r.2)
  | .tuple xs => .ret (xs, r.2)
  | _ => .stuck := rfl
@[simp ↓] theorem gRng_ap (f : List D → Option (List D)) (a : G (List Opd)) {ρ : Rho} (_h : Rdy ρ) : gRng f a ρ = (a ρ).bind fun r => (rdL r.2 r.1).bind fun xs => (M.ofOpt (f xs)).bind fun z => .ret (z, r.2) := rfl
@[simp ↓] theorem gYes_ap {ρ : Rho} (_h : Rdy ρ) : gYes  ρ = .ret (true, ρ) := rfl
@[simp ↓] theorem gFor_ap (src : G (List D)) (tg : D → Rho → M Rho) (body : G Fl) {ρ : Rho} (_h : Rdy ρ) : gFor src tg body ρ = (src ρ).bind fun r => forD (fun x ρ => (tg x ρ).bind body) r.1 r.2 := rfl
@[simp ↓] theorem gLc_ap (vs : List Nat) (src : G (List D)) (tg : D → Rho → M Rho) (tt : G Bool) (elt : G D) {ρ : Rho} (_h : Rdy ρ) : gLc vs src tg tt elt ρ = (src ρ).bind fun r => if r.1.length ≤ 16777216 then
    ((lcD vs tg tt elt r.1 (clr vs r.2)).nox).bind fun s => .ret (.list s.1, rst vs r.2 s.2) else .stuck := rfl
@[simp ↓] theorem gX_ap (a : G D) {ρ : Rho} (_h : Rdy ρ) : gX a ρ = (a ρ).bind fun r => .ret (.d r.1, r.2) := rfl
@[simp ↓] theorem gC0_ap {ρ : Rho} (_h : Rdy ρ) : gC0  ρ = .ret ([], ρ) := rfl
@[simp ↓] theorem gCs_ap (a : G W) (b : G (List W)) {ρ : Rho} (_h : Rdy ρ) : gCs a b ρ = (a ρ).bind fun r => (b r.2).bind fun s => .ret (r.1 :: s.1, s.2) := rfl
@[simp ↓] theorem gCall_ap (np : Nat) (m : List W → M D) (a : G (List W)) {ρ : Rho} (_h : Rdy ρ) : gCall np m a ρ = (a ρ).bind fun r => if r.1.length = np then (m r.1).bind fun x => .ret (x, r.2) else .stuck := rfl
@[simp ↓] theorem gN2_ap (f : D → D → Option (List D)) (a b : G Opd) {ρ : Rho} (_h : Rdy ρ) : gN2 f a b ρ = (a ρ).bind fun r => (b r.2).bind fun s => (rd s.2 r.1).bind fun x => (rd s.2 s.1).bind fun y => (M.ofOpt (f x y)).bind fun z => .ret (.list z, s.2) := rfl
@[simp ↓] theorem gNL_ap (f : List D → Option (List D)) (a : G (List Opd)) {ρ : Rho} (_h : Rdy ρ) : gNL f a ρ = (a ρ).bind fun r => (rdL r.2 r.1).bind fun xs => (M.ofOpt (f xs)).bind fun z => .ret (.list z, r.2) := rfl
@[simp ↓] theorem gPn_ap {ρ : Rho} (_h : Rdy ρ) : gPn  ρ = .ret (none, ρ) := rfl
@[simp ↓] theorem gPs_ap (a : G Opd) {ρ : Rho} (_h : Rdy ρ) : gPs a ρ = (a ρ).bind fun r => (rd r.2 r.1).bind fun x => match x with
  | .int i => .ret (some i, r.2)
  | _ => .stuck := rfl
@[simp ↓] theorem gSl_ap {α : Type} (f : D → Option Int → Option Int → Option α) (mk : α → D) (a : G Opd) (lo hi : G (Option Int)) {ρ : Rho} (_h : Rdy ρ) : gSl f mk a lo hi ρ = (a ρ).bind fun r => (lo r.2).bind fun l => (hi l.2).bind fun h => (rd h.2 r.1).bind fun x => (M.ofOpt (f x l.1 h.1)).bind fun z => .ret (mk z, h.2) := rfl
@[simp ↓] theorem gIs_ap (f : D → Bool) (a : G Opd) {ρ : Rho} (_h : Rdy ρ) : gIs f a ρ = (a ρ).bind fun r => (rd r.2 r.1).bind fun x => .ret (.bool (f x), r.2) := rfl
@[simp ↓] theorem gStI_ap (i : Nat) (k : G Opd) (a : G D) {ρ : Rho} (_h : Rdy ρ) : gStI i k a ρ = (a ρ).bind fun r => match r.2[i]? with
  | some (.own _ (.list _)) => (k r.2).bind fun s => (rd s.2 s.1).bind fun kd => match s.2[i]? with
    | some (.own t (.list xs)) => (M.ofOpt (setD xs kd r.1)).bind fun z => .ret (.nx, s.2.set i (.own t (.list z)))
    | _ => .stuck
  | _ => .stuck := rfl
@[simp ↓] theorem gDc_ap (vs : List Nat) (src : G (List D)) (tg : D → Rho → M Rho) (tt : G Bool) (kg vg : G D) {ρ : Rho} (_h : Rdy ρ) : gDc vs src tg tt kg vg ρ = (src ρ).bind fun r => if r.1.length ≤ 16777216 then
    ((dcD vs tg tt kg vg r.1 (clr vs r.2) []).nox).bind fun s => .ret (.dict s.1, rst vs r.2 s.2) else .stuck := rfl
@[simp ↓] theorem gD0_ap {ρ : Rho} (_h : Rdy ρ) : gD0  ρ = .ret (.dict [], ρ) := rfl
@[simp ↓] theorem gN1_ap (f : D → Option (List D)) (a : G Opd) {ρ : Rho} (_h : Rdy ρ) : gN1 f a ρ = (a ρ).bind fun r => (rd r.2 r.1).bind fun x => (M.ofOpt (f x)).bind fun z => .ret (.list z, r.2) := rfl
@[simp ↓] theorem gV0_ap {ρ : Rho} (_h : Rdy ρ) : gV0  ρ = .ret ([], ρ) := rfl
@[simp ↓] theorem gVd_ap (a : G D) (b : G (List W)) {ρ : Rho} (_h : Rdy ρ) : gVd a b ρ = (a ρ).bind fun r => (b r.2).bind fun s => .ret (.d r.1 :: s.1, s.2) := rfl
@[simp ↓] theorem gVw_ap (a : G D) (b : G (List W)) {ρ : Rho} (_h : Rdy ρ) : gVw a b ρ = (a ρ).bind fun r => (b r.2).bind fun s => .ret (.own 0 r.1 :: s.1, s.2) := rfl
@[simp ↓] theorem gPar_ap (is : List Nat) (a : G (List W)) {ρ : Rho} (_h : Rdy ρ) : gPar is a ρ = (a ρ).bind fun r => if r.1.length = is.length then .ret (.nx, (is.zip r.1).foldl (fun ρ p => ρ.set p.1 p.2) r.2) else .stuck := rfl
@[simp ↓] theorem gUnp_ap (t : D → Rho → M Rho) (a : G D) {ρ : Rho} (_h : Rdy ρ) : gUnp t a ρ = (a ρ).bind fun r => (t r.1 r.2).bind fun ρ1 => .ret (.nx, ρ1) := rfl
@[simp] theorem rd_v (ρ : Rho) (x : D) : rd ρ (.v x) = .ret x := rfl
@[simp] theorem rd_pl {ρ : Rho} (_h : Rdy ρ) (i : Nat) : rd ρ (.pl i) = match ρ[i]? with
    | some (.own _ x) => .ret x
    | _ => .stuck := rfl
@[simp] theorem rdL_nil (ρ : Rho) : rdL ρ [] = .ret [] := rfl
@[simp] theorem rdL_cons (ρ : Rho) (o : Opd) (os : List Opd) : rdL ρ (o :: os) = (rd ρ o).bind fun x => (rdL ρ os).bind fun xs => .ret (x :: xs) := rfl
@[simp] theorem vL_nil : vL [] = .ret [] := rfl
@[simp] theorem vL_cons (x : D) (os : List Opd) : vL (.v x :: os) = (vL os).bind fun xs => .ret (x :: xs) := rfl
@[simp ↓] theorem gP_ap {ρ : Rho} (_h : Rdy ρ) (i : Nat) : gP i ρ = match ρ[i]? with
  | some (.d x) => .ret (.v x, ρ)
  | some (.own _ _) => .ret (.pl i, ρ)
  | _ => .stuck := rfl
@[simp ↓] theorem gK_ap {ρ : Rho} (_h : Rdy ρ) (i : Nat) : gK i ρ = match ρ[i]? with
  | some (.d x) => .ret (x, ρ)
  | some (.own 0 x) => .ret (x, ρ.set i (.d x))
  | _ => .stuck := rfl
@[simp ↓] theorem gHd_ap {ρ : Rho} (_h : Rdy ρ) (i : Nat) : gHd i ρ = match ρ[i]? with
  | some .hand => .ret (.hand, ρ)
  | _ => .stuck := rfl
@[simp ↓] theorem gScr_ap {ρ : Rho} (_h : Rdy ρ) (i : Nat) : gScr i ρ = match ρ[i]? with
  | some (.scr ns) => .ret (.scr ns, ρ)
  | _ => .stuck := rfl
@[simp ↓] theorem gScrSl_ap {ρ : Rho} (_h : Rdy ρ) (i : Nat) (lo hi : G (Option Int)) : gScrSl i lo hi ρ = match ρ[i]? with
  | some (.scr ns) => (lo ρ).bind fun l => (hi l.2).bind fun h => .ret (.list (cutD (ns.map .int) l.1 h.1), h.2)
  | _ => .stuck := rfl
@[simp ↓] theorem gMut_ap {ρ : Rho} (_h : Rdy ρ) (i : Nat) (f : List D → List D → Option (D × List D)) (a : G (List Opd)) : gMut i f a ρ = match ρ[i]? with
  | some (.own _ (.list _)) => (a ρ).bind fun r => (vL r.1).bind fun ys => match r.2[i]? with
    | some (.own t (.list xs)) => (M.ofOpt (f xs ys)).bind fun z => .ret (z.1, r.2.set i (.own t (.list z.2)))
    | _ => .stuck
  | _ => .stuck := rfl
@[simp] theorem iI_ap (f : Int → Int → Int) (c : Int → Int → Bool) (i j : Int) : iI f c (.int i) (.int j) = if c i j = true then some (.int (f i j)) else none := rfl
@[simp] theorem cI_ap (f : Int → Int → Bool) (i j : Int) : cI f (.int i) (.int j) = some (.bool (f i j)) := rfl
@[simp] theorem subI_ap (i j : Int) : subI (.int i) (.int j) = some (.int (i - j)) := rfl
@[simp] theorem divI_ap (i j : Int) : divI (.int i) (.int j) = if (decide (0 < j) && decide (j < 2 ^ 150)) = true then some (.int (i / j)) else none := rfl
@[simp] theorem modI_ap (i j : Int) : modI (.int i) (.int j) = if decide (0 < j) = true then some (.int (i % j)) else none := rfl
@[simp] theorem powI_ap (i j : Int) : powI (.int i) (.int j) = if (decide (0 ≤ j) && decide (j ≤ 1000000) && decide (i.natAbs < 2 ^ 64)) = true then some (.int (i ^ j.toNat)) else none := rfl
@[simp] theorem shlI_ap (i j : Int) : shlI (.int i) (.int j) = if (decide (0 ≤ j) && decide (j ≤ 1000000) && decide (i.natAbs < 2 ^ 64)) = true then some (.int (i * 2 ^ j.toNat)) else none := rfl
@[simp] theorem ltI_ap (i j : Int) : ltI (.int i) (.int j) = some (.bool (decide (i < j))) := rfl
@[simp] theorem leI_ap (i j : Int) : leI (.int i) (.int j) = some (.bool (decide (i ≤ j))) := rfl
@[simp] theorem gtI_ap (i j : Int) : gtI (.int i) (.int j) = some (.bool (decide (j < i))) := rfl
@[simp] theorem geI_ap (i j : Int) : geI (.int i) (.int j) = some (.bool (decide (j ≤ i))) := rfl
@[simp] theorem clr_nil (ρ : Rho) : clr [] ρ = ρ := rfl
@[simp] theorem clr_cons (i : Nat) (is : List Nat) (ρ : Rho) : clr (i :: is) ρ = clr is (ρ.set i .un) := rfl
@[simp] theorem rst_nil (ρ0 ρ : Rho) : rst [] ρ0 ρ = ρ := rfl
@[simp] theorem rst_cons (i : Nat) (is : List Nat) (ρ0 ρ : Rho) : rst (i :: is) ρ0 ρ = rst is ρ0 (rst1 ρ0[i]? i ρ) := rfl
@[simp] theorem rst1_d (x : D) (i : Nat) (ρ : Rho) : rst1 (some (.d x)) i ρ = ρ.set i (.d x) := rfl
@[simp] theorem rst1_un (i : Nat) (ρ : Rho) : rst1 (some .un) i ρ = ρ := rfl
@[simp] theorem rst1_own (t : Nat) (x : D) (i : Nat) (ρ : Rho) : rst1 (some (.own t x)) i ρ = ρ := rfl
@[simp] theorem rst1_none (i : Nat) (ρ : Rho) : rst1 none i ρ = ρ := rfl
@[simp ↓] theorem gWhile_ap (c : G Bool) (b : G Fl) {ρ : Rho} (_h : Rdy ρ) : gWhile c b ρ = whileD c b FUEL ρ := rfl
@[simp] theorem addD_int (i j : Int) : addD (.int i) (.int j) = some (.int (i + j)) := rfl
@[simp] theorem addD_str (x y : Str) : addD (.str x) (.str y) = if x.length + y.length ≤ LIM then some (.str (x ++ y)) else none := rfl
@[simp] theorem addD_tup (xs ys : List D) : addD (.tuple xs) (.tuple ys) = if xs.length + ys.length ≤ LIM then some (.tuple (xs ++ ys)) else none := rfl
@[simp] theorem addD_lst (xs ys : List D) : addD (.list xs) (.list ys) = if xs.length + ys.length ≤ LIM then some (.list (xs ++ ys)) else none := rfl
@[simp] theorem catL_ap (xs ys : List D) : catL (.list xs) (.list ys) = if xs.length + ys.length ≤ LIM then some (xs ++ ys) else none := rfl
@[simp] theorem mulD_int (i j : Int) : mulD (.int i) (.int j) = if mulC i j = true then some (.int (i * j)) else none := rfl
@[simp] theorem mulD_tup (xs : List D) (k : Int) : mulD (.tuple xs) (.int k) = if (-1000 ≤ k ∧ k ≤ 1000) ∧ xs.length ≤ 1000 then some (.tuple (repD xs k)) else none := rfl
@[simp] theorem mulD_lst (xs : List D) (k : Int) : mulD (.list xs) (.int k) = if (-1000 ≤ k ∧ k ≤ 1000) ∧ xs.length ≤ 1000 then some (.list (repD xs k)) else none := rfl
@[simp] theorem repL_ap (xs : List D) (k : Int) : repL (.list xs) (.int k) = if (-1000 ≤ k ∧ k ≤ 1000) ∧ xs.length ≤ 1000 then some (repD xs k) else none := rfl
@[simp] theorem negI_ap (i : Int) : negI (.int i) = some (.int (-i)) := rfl
@[simp] theorem isD_nn : isD .none .none = some (.bool true) := rfl
@[simp] theorem isD_bb (a b : Bool) : isD (.bool a) (.bool b) = some (.bool (decide (a = b))) := rfl
@[simp] theorem isD_bn (a : Bool) : isD (.bool a) .none = some (.bool false) := rfl
@[simp] theorem isD_in (a : Int) : isD (.int a) .none = some (.bool false) := rfl
@[simp] theorem isD_sn (a : Str) : isD (.str a) .none = some (.bool false) := rfl
@[simp] theorem isD_ln (a : List D) : isD (.list a) .none = some (.bool false) := rfl
@[simp] theorem isD_tn (a : List D) : isD (.tuple a) .none = some (.bool false) := rfl
@[simp] theorem isD_dn (a : List (D × D)) : isD (.dict a) .none = some (.bool false) := rfl
@[simp] theorem isnD_nn : isnD .none .none = some (.bool false) := rfl
@[simp] theorem isnD_bb (a b : Bool) : isnD (.bool a) (.bool b) = some (.bool (!decide (a = b))) := rfl
@[simp] theorem isnD_bn (a : Bool) : isnD (.bool a) .none = some (.bool true) := rfl
@[simp] theorem isnD_in (a : Int) : isnD (.int a) .none = some (.bool true) := rfl
@[simp] theorem isnD_sn (a : Str) : isnD (.str a) .none = some (.bool true) := rfl
@[simp] theorem isnD_ln (a : List D) : isnD (.list a) .none = some (.bool true) := rfl
@[simp] theorem isnD_tn (a : List D) : isnD (.tuple a) .none = some (.bool true) := rfl
@[simp] theorem isnD_dn (a : List (D × D)) : isnD (.dict a) .none = some (.bool true) := rfl
@[simp] theorem ixD_l (xs : List D) (i : Int) : ixD (.list xs) (.int i) = atI xs i := rfl
@[simp] theorem ixD_t (xs : List D) (i : Int) : ixD (.tuple xs) (.int i) = atI xs i := rfl
@[simp] theorem slD_l (xs : List D) (a b : Option Int) : slD (.list xs) a b = some (.list (cutD xs a b)) := rfl
@[simp] theorem slD_t (xs : List D) (a b : Option Int) : slD (.tuple xs) a b = some (.tuple (cutD xs a b)) := rfl
@[simp] theorem slL_l (xs : List D) (a b : Option Int) : slL (.list xs) a b = some (cutD xs a b) := rfl
@[simp] theorem lenD_l (xs : List D) : lenD [.list xs] = some (.int xs.length) := rfl
@[simp] theorem lenD_t (xs : List D) : lenD [.tuple xs] = some (.int xs.length) := rfl
@[simp] theorem lenD_d (xs : List (D × D)) : lenD [.dict xs] = some (.int xs.length) := rfl
@[simp] theorem lenD_s (x : Str) : lenD [.str x] = if x.length ≤ LIM then some (.int x.length) else none := rfl
@[simp] theorem listL_l (xs : List D) : listL [.list xs] = some xs := rfl
@[simp] theorem listL_t (xs : List D) : listL [.tuple xs] = some xs := rfl
@[simp] theorem tupD_l (xs : List D) : tupD [.list xs] = some (.tuple xs) := rfl
@[simp] theorem tupD_t (xs : List D) : tupD [.tuple xs] = some (.tuple xs) := rfl
@[simp] theorem sumD_l (xs : List D) : sumD [.list xs] = (intsOf xs).map fun ns => .int ns.sum := rfl
@[simp] theorem allD_l (xs : List D) : allD [.list xs] = (boolsOf xs).map fun ns => .bool (ns.all id) := rfl
@[simp] theorem anyD_l (xs : List D) : anyD [.list xs] = (boolsOf xs).map fun ns => .bool (ns.any id) := rfl
@[simp] theorem intsOf_nil : intsOf [] = some [] := rfl
@[simp] theorem intsOf_cons (i : Int) (xs : List D) : intsOf (.int i :: xs) = (intsOf xs).map (i :: ·) := rfl
@[simp] theorem boolsOf_nil : boolsOf [] = some [] := rfl
@[simp] theorem boolsOf_cons (i : Bool) (xs : List D) : boolsOf (.bool i :: xs) = (boolsOf xs).map (i :: ·) := rfl
@[simp] theorem minD2_ap (i j : Int) : minD2 [.int i, .int j] = some (.int (if j < i then j else i)) := rfl
@[simp] theorem maxD2_ap (i j : Int) : maxD2 [.int i, .int j] = some (.int (if j > i then j else i)) := rfl
@[simp] theorem absD_ap (i : Int) : absD [.int i] = some (.int (if i < 0 then -i else i)) := rfl
@[simp] theorem intD_i (i : Int) : DL.intD [.int i] = some (.int i) := rfl
@[simp] theorem intD_b (k : Bool) : DL.intD [.bool k] = some (.int (if k then 1 else 0)) := rfl
@[simp] theorem appD_ap (xs : List D) (y : D) : appD xs [y] = if xs.length + 1 ≤ LIM then some (.none, xs ++ [y]) else none := rfl
@[simp] theorem popD_0 (xs : List D) : popD xs [] = (xs[xs.length - 1]?).map fun y => (y, xs.dropLast) := rfl
@[simp] theorem popD_1 (xs : List D) (i : Int) : popD xs [.int i] = (ixN xs.length i).bind fun k => if xs.length ≤ LIM then (xs[k]?).map fun y => (y, xs.eraseIdx k) else none := rfl
@[simp] theorem setD_ap (xs : List D) (k : Int) (y : D) : setD xs (.int k) y = (ixN xs.length k).map fun j => xs.set j y := rfl
@[simp] theorem lr1_ap (n : Int) : lr1 (.int n) = if -(2 ^ 62) ≤ n ∧ n ≤ 16777216 then some (intsFrom 0 n.toNat) else none := rfl
@[simp] theorem lr2_ap (i j : Int) : lr2 (.int i) (.int j) = if (-(2 ^ 62) ≤ i ∧ i < 2 ^ 62 ∧ -(2 ^ 62) ≤ j ∧ j < 2 ^ 62) ∧ (j - i).toNat ≤ 16777216 then some (intsFrom i (j - i).toNat) else none := rfl
@[simp] theorem rng1_ap (n : Int) : rng1 [.int n] = if n < 2 ^ 62 ∧ -(2 ^ 62) ≤ n then some (intsFrom 0 n.toNat) else none := rfl
@[simp] theorem rng2_ap (i j : Int) : rng2 [.int i, .int j] = if i < 2 ^ 62 ∧ -(2 ^ 62) ≤ i ∧ j < 2 ^ 62 ∧ -(2 ^ 62) ≤ j then some (intsFrom i (j - i).toNat) else none := rfl
theorem lim_is : LIM = 16777216 := rfl
@[simp] theorem nox_ret {α : Type} (a : α) : (M.ret a).nox = .ret a := rfl
@[simp] theorem tName_ap (i : Nat) (x : D) {ρ : Rho} (_h : Rdy ρ) : tName i x ρ = .ret (ρ.set i (.d x)) := rfl
@[simp] theorem tNil_ap (ρ : Rho) : tNil [] ρ = .ret ρ := rfl
@[simp] theorem tCons_ap (a : D → Rho → M Rho) (b : List D → Rho → M Rho) (x : D) (xs : List D) {ρ : Rho} (_h : Rdy ρ) : tCons a b (x :: xs) ρ = (a x ρ).bind fun ρ1 => b xs ρ1 := rfl
@[simp] theorem tTupl_ap (n : Nat) (b : List D → Rho → M Rho) (xs : List D) {ρ : Rho} (_h : Rdy ρ) : tTupl n b (.tuple xs) ρ = if xs.length = n then b xs ρ else .stuck := rfl
@[simp] theorem atI_ofNat {α : Type} (xs : List α) (n : Nat) : atI xs (no_index (OfNat.ofNat n) : Int) = xs[(OfNat.ofNat n : Nat)]? := by
  show (ixN xs.length (n : Int)).bind (fun j => xs[j]?) = xs[n]?
  unfold ixN
  rw [if_pos (by omega)]
  by_cases h : n < xs.length
  · rw [if_pos (by omega)]; simp
  · rw [if_neg (by omega)]
    exact (List.getElem?_eq_none_iff.mpr (by omega)).symm
@[simp] theorem atI_zero {α : Type} (xs : List α) : atI xs (0 : Int) = xs[0]? := atI_ofNat xs 0
@[simp] theorem atI_one {α : Type} (xs : List α) : atI xs (1 : Int) = xs[1]? := atI_ofNat xs 1
theorem atI_in {α : Type} {xs : List α} {i : Int} (h0 : 0 ≤ i) (h1 : i < xs.length) : atI xs i = xs[i.toNat]? := by
  unfold atI ixN
  rw [if_pos h0, if_pos h1]; rfl
@[simp] theorem ixN_ofNat (n k : Nat) : ixN n (no_index (OfNat.ofNat k) : Int) = if k < n then some k else none := by
  show ixN n (k : Int) = _
  unfold ixN
  rw [if_pos (by omega)]
  by_cases h : k < n
  · rw [if_pos (by omega), if_pos h]; simp
  · rw [if_neg (by omega), if_neg h]
@[simp] theorem ixN_zero (n : Nat) : ixN n (0 : Int) = if 0 < n then some 0 else none := ixN_ofNat n 0
@[simp] theorem ixN_one (n : Nat) : ixN n (1 : Int) = if 1 < n then some 1 else none := ixN_ofNat n 1
theorem ixN_in {n : Nat} {i : Int} (h0 : 0 ≤ i) (h1 : i < n) : ixN n i = some i.toNat := by
  unfold ixN
  rw [if_pos h0, if_pos h1]
theorem mulC_left {a b : Int} (h0 : -(2 ^ 64) < a) (h1 : a < 2 ^ 64) : mulC a b = true := by
  unfold mulC w64
  simp only [Bool.or_eq_true, Bool.and_eq_true, decide_eq_true_eq]
  exact .inl ⟨h0, h1⟩
theorem mulC_right {a b : Int} (h0 : -(2 ^ 64) < b) (h1 : b < 2 ^ 64) : mulC a b = true := by
  unfold mulC w64
  simp only [Bool.or_eq_true, Bool.and_eq_true, decide_eq_true_eq]
  exact .inr ⟨h0, h1⟩
theorem mulC_mod {a m b : Int} (h0 : 0 < m) (h1 : m ≤ 2 ^ 62) : mulC (a % m) b = true :=
  mulC_left (by have := Int.emod_nonneg a (Int.ne_of_gt h0); omega) (by have := Int.emod_lt_of_pos a h0; omega)
@[simp] theorem eqD_ii (a b : Int) : eqD (.int a) (.int b) = some (.bool (decide (a = b))) := by
  have h : (a == b) = decide (a = b) := by by_cases h : a = b <;> simp [h]
  simp [eqD, shal, PyData.eqv, h]
@[simp] theorem eqD_ss (a b : Str) : eqD (.str a) (.str b) = some (.bool (decide (a = b))) := by
  have h : (a == b) = decide (a = b) := by by_cases h : a = b <;> simp [h]
  simp [eqD, shal, PyData.eqv, h]
@[simp] theorem eqD_bb (a b : Bool) : eqD (.bool a) (.bool b) = some (.bool (decide (a = b))) := by cases a <;> cases b <;> rfl
@[simp] theorem neD_ii (a b : Int) : neD (.int a) (.int b) = some (.bool (!decide (a = b))) := by
  have h : (a == b) = decide (a = b) := by by_cases h : a = b <;> simp [h]
  simp [neD, shal, PyData.eqv, h]
@[simp] theorem neD_ss (a b : Str) : neD (.str a) (.str b) = some (.bool (!decide (a = b))) := by
  have h : (a == b) = decide (a = b) := by by_cases h : a = b <;> simp [h]
  simp [neD, shal, PyData.eqv, h]
/-- a test that is not decided -/
theorem bind_ite {α β : Type} {c : Prop} [Decidable c] {m m' : M α} {f : α → M β} : (if c then m else m').bind f = if c then m.bind f else m'.bind f := by split <;> rfl
end DL

/-! DL18: plain tools: rows, loops, keys -/
namespace DL
open PySem PySem.Spec PyProof.Rows L2
abbrev NoE : Exc → Prop := fun _ => False
theorem M.nox_wp {α : Type} {Q : α → Prop} {E : Exc → Prop} : ∀ {m : M α}, m.wp Q NoE → m.nox.wp Q E
  | .ret _, h => h
  | .exc _, h => h.elim
  | .stuck, h => h
  | .draw _ k, h => fun i h0 h1 => M.nox_wp (h i h0 h1)
@[simp] theorem wp_ret {α : Type} {Q : α → Prop} {E : Exc → Prop} (a : α) : (M.ret a).wp Q E = Q a := rfl
theorem wp_draw {α : Type} {Q : α → Prop} {E : Exc → Prop} (n : Int) (k : Int → M α) : (M.draw n k).wp Q E = ∀ i, 0 ≤ i → i < n → (k i).wp Q E := rfl
theorem set_un {ρ : Rho} {j : Nat} {x : W} (h : ρ[j]? = some .un) : (ρ.set j x).set j .un = ρ := by
  rw [List.set_set]
  apply List.ext_getElem?
  intro i
  by_cases e : j = i
  · subst e
    rw [List.getElem?_set_self (List.getElem?_eq_some_iff.mp h).1, h]
  · rw [List.getElem?_set_ne e]
theorem lc_ret {ρ : Rho} {j : Nat} {elt : G D} (f : D → D) (hu : ρ[j]? = some .un) : ∀ (xs : List D), (∀ x ∈ xs, elt (ρ.set j (.d x)) = .ret (f x, ρ.set j (.d x))) → lcD [j] (tName j) gYes elt xs ρ = .ret (xs.map f, ρ)
  | [], _ => rfl
  | x :: xs, h => by
    have ih := lc_ret f hu xs fun y hy => h y (List.mem_cons_of_mem _ hy)
    show (elt (ρ.set j (.d x))).bind _ = _
    rw [h x (List.mem_cons_self ..)]
    show (lcD [j] (tName j) gYes elt xs ((ρ.set j (.d x)).set j .un)).bind _ = _
    rw [set_un hu, ih]
    rfl
theorem lc_wp {ρ : Rho} {j : Nat} {elt : G D} (P : D → Prop) (hu : ρ[j]? = some .un) {E : Exc → Prop} : ∀ (xs : List D), (∀ x ∈ xs, (elt (ρ.set j (.d x))).wp (fun r => P r.1 ∧ r.2 = ρ.set j (.d x)) E) → (lcD [j] (tName j) gYes elt xs ρ).wp (fun r => (r.1.length = xs.length ∧ ∀ y ∈ r.1, P y) ∧ r.2 = ρ) E
  | [], _ => ⟨⟨rfl, fun y h => by cases h⟩, rfl⟩
  | x :: xs, h => by
    have ih := lc_wp P hu xs fun y hy => h y (List.mem_cons_of_mem _ hy)
    show ((elt (ρ.set j (.d x))).bind _).wp _ E
    rw [M.wp_bind]
    refine M.wp_mono (h x (List.mem_cons_self ..)) (fun r q => ?_) fun _ z => z
    obtain ⟨q, e⟩ := q
    show ((lcD [j] (tName j) gYes elt xs (r.2.set j .un)).bind _).wp _ E
    rw [e, set_un hu, M.wp_bind]
    refine M.wp_mono ih (fun s t => ⟨⟨by simp [t.1.1], fun y hy => ?_⟩, t.2⟩) fun _ z => z
    rcases List.mem_cons.mp hy with rfl | hy
    · exact q
    · exact t.1.2 y hy
theorem for_wp {body : D → G Fl} {E : Exc → Prop} (I : Nat → Rho → Prop) : ∀ (xs : List D) (n : Nat) (ρ : Rho), I n ρ → (∀ (k : Nat) (x : D) (ρ : Rho), k < n + xs.length → x ∈ xs → I k ρ → (body x ρ).wp (fun r => r.1 = .nx ∧ I (k + 1) r.2) E) → (forD body xs ρ).wp (fun r => r.1 = .nx ∧ I (n + xs.length) r.2) E
  | [], n, ρ, h, _ => ⟨rfl, h⟩
  | x :: xs, n, ρ, h, hb => by
    have e0 : n + 1 + xs.length = n + (x :: xs).length := by simp; omega
    show ((body x ρ).bind _).wp _ E
    rw [M.wp_bind]
    refine M.wp_mono (hb n x ρ (by simp) (List.mem_cons_self ..) h) (fun r q => ?_) fun _ z => z
    obtain ⟨e, q⟩ := q
    obtain ⟨r1, r2⟩ := r
    cases e
    have := for_wp I xs (n + 1) r2 q fun k y ρ hk hy => hb k y ρ (by omega) (List.mem_cons_of_mem _ hy)
    rwa [e0] at this
/-- a while loop by what it wears away -/
theorem while_wp {c : G Bool} {b : G Fl} {E : Exc → Prop} (I : Nat → Rho → Prop) (R : Rho → Prop) (hs : ∀ (n : Nat) (ρ : Rho), I n ρ → (c ρ).wp (fun r => (r.1 = true ∧ ∃ m, n = m + 1 ∧ (b r.2).wp (fun s => s.1 = .nx ∧ I m s.2) E) ∨ (r.1 = false ∧ R r.2)) E) : ∀ (fuel n : Nat) (ρ : Rho), n < fuel → I n ρ → (whileD c b fuel ρ).wp (fun r => r.1 = .nx ∧ R r.2) E
  | 0, n, ρ, h, _ => by omega
  | f + 1, n, ρ, h, hi => by
    show ((c ρ).bind _).wp _ E
    rw [M.wp_bind]
    refine M.wp_mono (hs n ρ hi) (fun r q => ?_) fun _ z => z
    rcases q with ⟨e, m, rfl, q⟩ | ⟨e, q⟩
    · rw [if_pos e, M.wp_bind]
      refine M.wp_mono q (fun s t => ?_) fun _ z => z
      obtain ⟨s1, s2⟩ := s
      obtain ⟨e, t⟩ := t
      cases e
      exact while_wp I R hs f m s2 (by omega) t
    · rw [if_neg (by simp [e])]
      exact ⟨rfl, q⟩
/-! ### keys -/
def dkD (acc : List (D × D)) (v : D) (xs : List Int) : List (D × D) := xs.foldl (fun acc x => putD acc (.inl x) v) acc
def kI (acc : List Int) (x : Int) : List Int := if x ∈ acc then acc else acc ++ [x]
theorem putD_kI (v : D) (ks : List Int) (x : Int) : putD (ks.map fun k => (.int k, v)) (.inl x) v = (kI ks x).map fun k => (.int k, v) := by
  unfold putD kI
  have e : ((ks.map fun k => ((.int k : D), v)).any fun p => kIs (.inl x) p.1) = decide (x ∈ ks) := by
    induction ks with
    | nil => rfl
    | cons k ks ih =>
      have h1 : kIs (.inl x) (.int k) = decide (k = x) := by rw [show (PyData.int k : D) = keyD (.inl k) from rfl, kIs_keyD]; simp
      simp only [List.map_cons, List.any_cons, ih, h1, List.mem_cons]
      by_cases h : k = x
      · simp [h]
      · have h' : ¬ x = k := fun e => h e.symm
        simp [h, h']
  rw [e]
  by_cases h : x ∈ ks
  · simp [h]
  · simp [h, keyD]
theorem dkD_kI (v : D) : ∀ (xs ks : List Int), dkD (ks.map fun k => (.int k, v)) v xs = (xs.foldl kI ks).map fun k => (.int k, v)
  | [], ks => rfl
  | x :: xs, ks => by
    have := dkD_kI v xs (kI ks x)
    unfold dkD at this ⊢
    simp only [List.foldl_cons]
    rw [putD_kI, this]
theorem kI_len : ∀ (xs ks : List Int), (xs.foldl kI ks).length ≤ ks.length + xs.length ∧ ((xs.foldl kI ks).length = ks.length + xs.length ↔ xs.Nodup ∧ ∀ x ∈ xs, x ∉ ks)
  | [], ks => by simp
  | x :: xs, ks => by
    obtain ⟨h1, h2⟩ := kI_len xs (kI ks x)
    simp only [List.foldl_cons, List.nodup_cons, List.mem_cons, List.length_cons, forall_eq_or_imp]
    by_cases h : x ∈ ks
    · have e : kI ks x = ks := by unfold kI; rw [if_pos h]
      rw [e] at h1 h2 ⊢
      exact ⟨by omega, ⟨fun g => absurd g (by omega), fun g => absurd h g.2.1⟩⟩
    · have e : kI ks x = ks ++ [x] := by unfold kI; rw [if_neg h]
      rw [e] at h1 h2 ⊢
      simp only [List.length_append, List.length_cons, List.length_nil, List.mem_append, List.mem_singleton, not_or] at h1 h2 ⊢
      refine ⟨by omega, ⟨fun g => ?_, fun g => ?_⟩⟩
      · obtain ⟨a, b⟩ := h2.mp (by omega)
        exact ⟨⟨fun hx => (b x hx).2 rfl, a⟩, h, fun y hy => (b y hy).1⟩
      · have := h2.mpr ⟨g.1.2, fun y hy => ⟨g.2.2 y hy, fun e => g.1.1 (e ▸ hy)⟩⟩
        omega
/-- as many keys as there are things -/
theorem dk_len (v : D) (xs : List Int) : (dkD [] v xs).length = xs.length ↔ xs.Nodup := by
  have h := dkD_kI v xs []
  simp only [List.map_nil] at h
  rw [h, List.length_map]
  have := (kI_len xs []).2
  simpa using this
theorem dk_le (v : D) (xs : List Int) : (dkD [] v xs).length ≤ xs.length := by
  have h := dkD_kI v xs []
  simp only [List.map_nil] at h
  rw [h, List.length_map]
  have := (kI_len xs []).1
  simpa using this
theorem dc_ret {ρ : Rho} {j : Nat} {v : D} (hu : ρ[j]? = some .un) : ∀ (xs : List Int) (acc : List (D × D)), dcD [j] (tName j) gYes (gK j) (gv v) (xs.map .int) ρ acc = .ret (dkD acc v xs, ρ)
  | [], acc => rfl
  | x :: xs, acc => by
    have hl := (List.getElem?_eq_some_iff.mp hu).1
    have ih := dc_ret (v := v) hu xs (putD acc (.inl x) v)
    have e : gK j (ρ.set j (.d (.int x))) = .ret (.int x, ρ.set j (.d (.int x))) := by
      unfold gK
      rw [List.getElem?_set_self hl]
    show (gK j (ρ.set j (.d (.int x)))).bind _ = _
    rw [e]
    show dcD [j] (tName j) gYes (gK j) (gv v) (xs.map .int) ((ρ.set j (.d (.int x))).set j .un) (putD acc (.inl x) v) = _
    rw [set_un hu, ih]
    rfl
/-- rows of numbers -/
theorem ints_of {xs : List D} (h : ∀ x ∈ xs, ∃ i : Int, x = .int i) : ∃ is : List Int, xs = is.map .int := by
  induction xs with
  | nil => exact ⟨[], rfl⟩
  | cons x xs ih =>
    obtain ⟨i, rfl⟩ := h x (List.mem_cons_self ..)
    obtain ⟨is, rfl⟩ := ih fun y hy => h y (List.mem_cons_of_mem _ hy)
    exact ⟨i :: is, rfl⟩
theorem ints_map {α : Type} (f : α → Int) (xs : List α) : intsOf (xs.map fun x => .int (f x)) = some (xs.map f) := by
  induction xs with
  | nil => rfl
  | cons x xs ih => simp [intsOf, ih]
theorem bools_map {α : Type} (f : α → Bool) (xs : List α) : boolsOf (xs.map fun x => .bool (f x)) = some (xs.map f) := by
  induction xs with
  | nil => rfl
  | cons x xs ih => simp [boolsOf, ih]
/-! ### showing -/
theorem is_same {x : D} (h1 : shal 20 x = true) (h2 : x.showable = true) (h3 : x.shown.length ≤ LIM) : reprD [x] = some (.str x.shown) := by
  show (if _ then _ else _) = _
  rw [if_pos ⟨h1, h2, h3⟩]
/-! ### parts -/
@[simp] theorem cutD_none {α : Type} (xs : List α) : cutD xs none none = xs := by
  unfold cutD HT.sIx
  simp
theorem cutD_to {α : Type} (xs : List α) {k : Int} (h : 0 ≤ k) : cutD xs none (some k) = xs.take k.toNat := by
  have e0 : HT.sIx xs.length xs.length (some k) = min k.toNat xs.length := if_neg (by omega)
  have e1 : HT.sIx xs.length 0 none = 0 := rfl
  unfold cutD
  rw [e0, e1]
  simp only [List.drop_zero, Nat.sub_zero]
  by_cases e : k.toNat ≤ xs.length
  · rw [Nat.min_eq_left e]
  · rw [Nat.min_eq_right (by omega), List.take_of_length_le (Nat.le_refl _), List.take_of_length_le (by omega)]
theorem cutD_from {α : Type} (xs : List α) {k : Int} (h : 0 ≤ k) : cutD xs (some k) none = xs.drop k.toNat := by
  have e0 : HT.sIx xs.length 0 (some k) = min k.toNat xs.length := if_neg (by omega)
  have e1 : HT.sIx xs.length xs.length none = xs.length := rfl
  unfold cutD
  rw [e0, e1]
  by_cases e : k.toNat ≤ xs.length
  · rw [Nat.min_eq_left e, List.take_of_length_le (by simp)]
  · rw [Nat.min_eq_right (by omega), List.drop_of_length_le (Nat.le_refl _), List.drop_of_length_le (by omega)]
    simp
theorem shalL_ints (n : Nat) (xs : List Int) : shalL n (xs.map .int) = true := by
  induction xs with
  | nil => simp [shalL]
  | cons x xs ih => simp [shalL, shal, ih]
theorem neD_nil (xs : List Int) : neD (.list (xs.map .int)) (.list []) = some (.bool (decide (xs ≠ []))) := by
  unfold neD
  rw [if_pos ⟨by simp [shal, shalL_ints], by simp [shal, shalL]⟩]
  cases xs <;> simp [PyData.eqv, PyData.eqvAll]
theorem neD_unit (xs : List Int) : neD (.tuple (xs.map .int)) (.tuple []) = some (.bool (decide (xs ≠ []))) := by
  unfold neD
  rw [if_pos ⟨by simp [shal, shalL_ints], by simp [shal, shalL]⟩]
  cases xs <;> simp [PyData.eqv, PyData.eqvAll]
theorem erase_map (xs : List Int) (k : Nat) : (xs.map PyData.int).eraseIdx k = (xs.eraseIdx k).map .int := by
  induction xs generalizing k with
  | nil => rfl
  | cons x xs ih => cases k with
    | zero => rfl
    | succ k => simp [ih]
def ifr (lo : Int) : Nat → List Int
  | 0 => []
  | n + 1 => lo :: ifr (lo + 1) n
theorem intsFrom_ifr : ∀ (lo : Int) (n : Nat), intsFrom lo n = (ifr lo n).map .int
  | _, 0 => rfl
  | lo, n + 1 => by
    show PyData.int lo :: intsFrom (lo + 1) n = _
    rw [intsFrom_ifr]; rfl
@[simp] theorem ifr_len : ∀ (lo : Int) (n : Nat), (ifr lo n).length = n
  | _, 0 => rfl
  | lo, n + 1 => by simp [ifr, ifr_len]
@[simp] theorem intsFrom_len (lo : Int) (n : Nat) : (intsFrom lo n).length = n := by rw [intsFrom_ifr]; simp
theorem mem_ifr {x : Int} : ∀ {lo : Int} {n : Nat}, x ∈ ifr lo n ↔ lo ≤ x ∧ x < lo + n
  | lo, 0 => by simp [ifr]
  | lo, n + 1 => by
    simp only [ifr, List.mem_cons, mem_ifr]
    omega
theorem ifr_nodup : ∀ (lo : Int) (n : Nat), (ifr lo n).Nodup
  | _, 0 => List.nodup_nil
  | lo, n + 1 => List.nodup_cons.mpr ⟨fun h => by have := (mem_ifr.mp h).1; omega, ifr_nodup _ _⟩
theorem erase_perm {α : Type} : ∀ {l : List α} {i : Nat} (h : i < l.length), (l[i] :: l.eraseIdx i).Perm l
  | a :: l, 0, _ => .refl _
  | a :: l, i + 1, h => by
    have h' : i < l.length := by simpa using h
    show (l[i] :: a :: l.eraseIdx i).Perm (a :: l)
    exact (List.Perm.swap _ _ _).trans ((erase_perm h').cons a)
theorem lcn_wp {ρ : Rho} {j : Nat} {elt : G D} {xs : List D} {Q : List D × Rho → Prop} {E : Exc → Prop} (P : D → Prop) (hu : ρ[j]? = some .un) (h : ∀ x ∈ xs, (elt (ρ.set j (.d x))).wp (fun r => P r.1 ∧ r.2 = ρ.set j (.d x)) NoE) (k : ∀ ys : List D, ys.length = xs.length → (∀ y ∈ ys, P y) → Q (ys, ρ)) : (lcD [j] (tName j) gYes elt xs ρ).nox.wp Q E := by
  refine M.nox_wp (M.wp_mono (lc_wp P hu xs h) ?_ fun _ z => z)
  rintro ⟨ys, ρ'⟩ ⟨⟨h1, h2⟩, rfl⟩
  exact k ys h1 h2
theorem forn_wp {body : D → G Fl} {xs : List D} {ρ : Rho} {Q : Fl × Rho → Prop} {E : Exc → Prop} (I : Nat → Rho → Prop) (h0 : I 0 ρ) (hb : ∀ (k : Nat) (x : D) (ρ : Rho), k < xs.length → x ∈ xs → I k ρ → (body x ρ).wp (fun r => r.1 = .nx ∧ I (k + 1) r.2) E) (q : ∀ ρ', I xs.length ρ' → Q (.nx, ρ')) : (forD body xs ρ).wp Q E := by
  refine M.wp_mono (for_wp I xs 0 ρ h0 fun k x ρ hk => hb k x ρ (by omega)) ?_ fun _ z => z
  rintro ⟨f, ρ'⟩ ⟨e, h⟩
  cases e
  exact q ρ' (by simpa using h)
@[simp ↓] theorem gSetHand_ap (i : Nat) (a : G D) {ρ : Rho} (_h : Rdy ρ) : gSetHand i a ρ = (a ρ).bind fun r => match r.1 with
    | .list xs => @ite _ (HandD xs) (Classical.propDecidable _) (.ret (.nx, r.2.set i .hand)) .stuck
    | _ => .stuck := rfl
theorem all_true {ys : List D} (h : ∀ y ∈ ys, y = .bool true) : boolsOf ys = some (ys.map fun _ => true) := by
  induction ys with
  | nil => rfl
  | cons y ys ih =>
    have e := h y (List.mem_cons_self ..)
    subst e
    have := ih fun y hy => h y (List.mem_cons_of_mem _ hy)
    simp [this]
end DL

namespace LK00
open PySem PySem.Spec PyProof.Rows L2 DL
def topS (i : Nat) : Stmt := PySem.Challenge.pw_pledgesold_k00_whole_books_judged.main.body.getD i (.Pass ⟨0, 0, 0, 0⟩)
abbrev s_is_integer : Stmt := topS 1
abbrev N_is_integer : List Str := ["thing"]
theorem sc_is_integer : FnScope N_is_integer ["thing"] (defScope s_is_integer) := ⟨rfl, rfl, rfl, by decide +kernel, rfl, by decide +kernel, by decide +kernel⟩
abbrev s_is_within : Stmt := topS 2
abbrev N_is_within : List Str := ["thing", "low", "high"]
theorem sc_is_within : FnScope N_is_within ["thing", "low", "high"] (defScope s_is_within) := ⟨rfl, rfl, rfl, by decide +kernel, rfl, by decide +kernel, by decide +kernel⟩
abbrev s_is_tuple : Stmt := topS 3
abbrev N_is_tuple : List Str := ["thing", "low", "high"]
theorem sc_is_tuple : FnScope N_is_tuple ["thing", "low", "high"] (defScope s_is_tuple) := ⟨rfl, rfl, rfl, by decide +kernel, rfl, by decide +kernel, by decide +kernel⟩
abbrev s_are_unlike : Stmt := topS 4
abbrev N_are_unlike : List Str := ["thing", "many", "one"]
theorem sc_are_unlike : FnScope N_are_unlike ["thing", "many"] (defScope s_are_unlike) := ⟨rfl, rfl, rfl, by decide +kernel, rfl, by decide +kernel, by decide +kernel⟩
abbrev s_are_debts : Stmt := topS 9
abbrev N_are_debts : List Str := ["thing", "one"]
theorem sc_are_debts : FnScope N_are_debts ["thing"] (defScope s_are_debts) := ⟨rfl, rfl, rfl, by decide +kernel, rfl, by decide +kernel, by decide +kernel⟩
abbrev s_is_book : Stmt := topS 10
abbrev N_is_book : List Str := ["thing", "row"]
theorem sc_is_book : FnScope N_is_book ["thing"] (defScope s_is_book) := ⟨rfl, rfl, rfl, by decide +kernel, rfl, by decide +kernel, by decide +kernel⟩
abbrev s__law_hand : Stmt := topS 12
abbrev N__law_hand : List Str := ["script", "cells", "cell"]
theorem sc__law_hand : FnScope N__law_hand ["script"] (defScope s__law_hand) := ⟨rfl, rfl, rfl, by decide +kernel, rfl, by decide +kernel, by decide +kernel⟩
abbrev s__law_draw : Stmt := topS 13
abbrev N__law_draw : List Str := ["hand", "many", "number", "cell", "digit"]
theorem sc__law_draw : FnScope N__law_draw ["hand", "many"] (defScope s__law_draw) := ⟨rfl, rfl, rfl, by decide +kernel, rfl, by decide +kernel, by decide +kernel⟩
abbrev s__law_any : Stmt := topS 14
abbrev N__law_any : List Str := ["hand", "some"]
theorem sc__law_any : FnScope N__law_any ["hand", "some"] (defScope s__law_any) := ⟨rfl, rfl, rfl, by decide +kernel, rfl, by decide +kernel, by decide +kernel⟩
abbrev s__law_is : Stmt := topS 15
abbrev N__law_is : List Str := ["told", "due"]
theorem sc__law_is : FnScope N__law_is ["told", "due"] (defScope s__law_is) := ⟨rfl, rfl, rfl, by decide +kernel, rfl, by decide +kernel, by decide +kernel⟩
abbrev s__law_mixed : Stmt := topS 16
abbrev N__law_mixed : List Str := ["hand", "things", "left", "found"]
theorem sc__law_mixed : FnScope N__law_mixed ["hand", "things"] (defScope s__law_mixed) := ⟨rfl, rfl, rfl, by decide +kernel, rfl, by decide +kernel, by decide +kernel⟩
abbrev s__law_sum : Stmt := topS 17
abbrev N__law_sum : List Str := ["hand"]
theorem sc__law_sum : FnScope N__law_sum ["hand"] (defScope s__law_sum) := ⟨rfl, rfl, rfl, by decide +kernel, rfl, by decide +kernel, by decide +kernel⟩
abbrev s__law_book : Stmt := topS 18
abbrev N__law_book : List Str := ["hand", "most", "many", "debts", "ranks", "thing", "row", "debt"]
theorem sc__law_book : FnScope N__law_book ["hand", "most"] (defScope s__law_book) := ⟨rfl, rfl, rfl, by decide +kernel, rfl, by decide +kernel, by decide +kernel⟩
abbrev s__law_no_books : Stmt := topS 19
abbrev N__law_no_books : List Str := ["hand", "book", "row", "bad", "some", "one", "debts", "ranks", "many", "at", "spot"]
theorem sc__law_no_books : FnScope N__law_no_books ["hand", "book"] (defScope s__law_no_books) := ⟨rfl, rfl, rfl, by decide +kernel, rfl, by decide +kernel, by decide +kernel⟩
abbrev s__law_is_right : Stmt := topS 20
abbrev N__law_is_right : List Str := ["hand", "book", "wide", "thing"]
theorem sc__law_is_right : FnScope N__law_is_right ["hand", "book"] (defScope s__law_is_right) := ⟨rfl, rfl, rfl, by decide +kernel, rfl, by decide +kernel, by decide +kernel⟩
abbrev s_law : Stmt := topS 21
abbrev N_law : List Str := ["script", "hand", "flags", "lap"]
theorem sc_law : FnScope N_law ["script"] (defScope s_law) := ⟨rfl, rfl, rfl, by decide +kernel, rfl, by decide +kernel, by decide +kernel⟩
structure Facts (K : PySem.W.Frag) (mg : Str → Option Value) (fa : Nat → Addr) (fd : Nat → FuncData) : Prop where
  F_is_integer : Fun K "is_integer" "is_integer" s_is_integer (fa 0) (fd 0)
  B_is_integer : Binds K (fd 0) ["thing"] []
  g_is_integer : mg "is_integer" = some (.ref (fa 0))
  F_is_within : Fun K "is_within" "is_within" s_is_within (fa 1) (fd 1)
  B_is_within : Binds K (fd 1) ["thing", "low", "high"] []
  g_is_within : mg "is_within" = some (.ref (fa 1))
  F_is_tuple : Fun K "is_tuple" "is_tuple" s_is_tuple (fa 2) (fd 2)
  B_is_tuple : Binds K (fd 2) ["thing", "low", "high"] []
  g_is_tuple : mg "is_tuple" = some (.ref (fa 2))
  F_are_unlike : Fun K "are_unlike" "are_unlike" s_are_unlike (fa 3) (fd 3)
  B_are_unlike : Binds K (fd 3) ["thing", "many"] []
  g_are_unlike : mg "are_unlike" = some (.ref (fa 3))
  F_are_debts : Fun K "are_debts" "are_debts" s_are_debts (fa 4) (fd 4)
  B_are_debts : Binds K (fd 4) ["thing"] []
  g_are_debts : mg "are_debts" = some (.ref (fa 4))
  F_is_book : Fun K "is_book" "is_book" s_is_book (fa 5) (fd 5)
  B_is_book : Binds K (fd 5) ["thing"] []
  g_is_book : mg "is_book" = some (.ref (fa 5))
  F__law_hand : Fun K "_law_hand" "_law_hand" s__law_hand (fa 6) (fd 6)
  B__law_hand : Binds K (fd 6) ["script"] []
  g__law_hand : mg "_law_hand" = some (.ref (fa 6))
  F__law_draw : Fun K "_law_draw" "_law_draw" s__law_draw (fa 7) (fd 7)
  B__law_draw : Binds K (fd 7) ["hand", "many"] []
  g__law_draw : mg "_law_draw" = some (.ref (fa 7))
  F__law_any : Fun K "_law_any" "_law_any" s__law_any (fa 8) (fd 8)
  B__law_any : Binds K (fd 8) ["hand", "some"] []
  g__law_any : mg "_law_any" = some (.ref (fa 8))
  F__law_is : Fun K "_law_is" "_law_is" s__law_is (fa 9) (fd 9)
  B__law_is : Binds K (fd 9) ["told", "due"] []
  g__law_is : mg "_law_is" = some (.ref (fa 9))
  F__law_mixed : Fun K "_law_mixed" "_law_mixed" s__law_mixed (fa 10) (fd 10)
  B__law_mixed : Binds K (fd 10) ["hand", "things"] []
  g__law_mixed : mg "_law_mixed" = some (.ref (fa 10))
  F__law_sum : Fun K "_law_sum" "_law_sum" s__law_sum (fa 11) (fd 11)
  B__law_sum : Binds K (fd 11) ["hand"] []
  g__law_sum : mg "_law_sum" = some (.ref (fa 11))
  F__law_book : Fun K "_law_book" "_law_book" s__law_book (fa 12) (fd 12)
  B__law_book : Binds K (fd 12) ["hand", "most"] []
  g__law_book : mg "_law_book" = some (.ref (fa 12))
  F__law_no_books : Fun K "_law_no_books" "_law_no_books" s__law_no_books (fa 13) (fd 13)
  B__law_no_books : Binds K (fd 13) ["hand", "book"] []
  g__law_no_books : mg "_law_no_books" = some (.ref (fa 13))
  F__law_is_right : Fun K "_law_is_right" "_law_is_right" s__law_is_right (fa 14) (fd 14)
  B__law_is_right : Binds K (fd 14) ["hand", "book"] []
  g__law_is_right : mg "_law_is_right" = some (.ref (fa 14))
  F_law : Fun K "law" "law" s_law (fa 15) (fd 15)
  B_law : Binds K (fd 15) ["script"] []
  g_law : mg "law" = some (.ref (fa 15))
  z_abs : mg "abs" = none
  z_all : mg "all" = none
  z_any : mg "any" = none
  z_bool : mg "bool" = none
  z_int : mg "int" = none
  z_isinstance : mg "isinstance" = none
  z_len : mg "len" = none
  z_list : mg "list" = none
  z_min : mg "min" = none
  z_range : mg "range" = none
  z_repr : mg "repr" = none
  z_tuple : mg "tuple" = none
  c_MOST_DEBTS : ∃ t, mg "MOST_DEBTS" = some (.int (12) t)
  c_MOST_SUM : ∃ t, mg "MOST_SUM" = some (.int (1000000000000) t)
  c_MOST_THINGS : ∃ t, mg "MOST_THINGS" = some (.int (6) t)
section
variable {P : Program} {w : World} {K : PySem.W.Frag} {mg : Str → Option Value} {base : Heap} {cl : Str → Option Addr} {fa : Nat → Addr} {fd : Nat → FuncData}
noncomputable def g_is_integer : G Fl := (gRet (gAndV (gIs PyData.isInt (gP 0)) (gNotV (gIs PyData.isBool (gP 0)))))
@[irreducible] noncomputable def m_is_integer : List W → M D := fnM 1 g_is_integer
theorem b_is_integer (T : Facts K mg fa fd) : Body P w K mg base cl "is_integer" s_is_integer (fa 0) N_is_integer 0 g_is_integer := by
  intro cdv A outer s H E C hr hgd hcl tk
  subst hcl
  exact (dss_one (ds_ret (de_and (de_isi isi_int (do_name 0 (pv 0)) T.z_isinstance T.z_int) (de_one (de_not (de_isi isi_bool (do_name 0 (pv 0)) T.z_isinstance T.z_bool))))))
theorem ok_is_integer (T : Facts K mg fa fd) : FnG P w K mg base 1 (fa 0) (fd 0) ["thing"] (spD K cl 1 m_is_integer) := by unfold m_is_integer; exact fn_ok T.F_is_integer sc_is_integer (b_is_integer T)
noncomputable def g_is_within : G Fl := (gRet (gAndV (gCall 1 m_is_integer (gCs (gX (gK 0)) gC0)) (gChain leI leI (gP 1) (gP 0) (gP 2))))
@[irreducible] noncomputable def m_is_within : List W → M D := fnM 3 g_is_within
theorem b_is_within (T : Facts K mg fa fd) : Body P w K mg base cl "is_within" s_is_within (fa 1) N_is_within 1 g_is_within := by
  intro cdv A outer s H E C hr hgd hcl tk
  subst hcl
  exact (dss_one (ds_ret (de_and (de_call (ok_is_integer T) (hr.mono (by decide)) hgd T.g_is_integer T.F_is_integer.kp T.B_is_integer tk (dc_cons (dx_of (de_keep 0 (pv 0))) dc_nil)) (de_one (de_chain p_le p_le (do_name 1 (pv 1)) (do_name 0 (pv 0)) (do_name 2 (pv 2)))))))
theorem ok_is_within (T : Facts K mg fa fd) : FnG P w K mg base 2 (fa 1) (fd 1) ["thing", "low", "high"] (spD K cl 3 m_is_within) := by unfold m_is_within; exact fn_ok T.F_is_within sc_is_within (b_is_within T)
noncomputable def g_is_tuple : G Fl := (gRet (gAndV (gIs PyData.isTuple (gP 0)) (gChain leI leI (gP 1) (gO (gL lenD (gA (gP 0) gA0))) (gP 2))))
@[irreducible] noncomputable def m_is_tuple : List W → M D := fnM 3 g_is_tuple
theorem b_is_tuple (T : Facts K mg fa fd) : Body P w K mg base cl "is_tuple" s_is_tuple (fa 2) N_is_tuple 0 g_is_tuple := by
  intro cdv A outer s H E C hr hgd hcl tk
  subst hcl
  exact (dss_one (ds_ret (de_and (de_isi isi_tuple (do_name 0 (pv 0)) T.z_isinstance T.z_tuple) (de_one (de_chain p_le p_le (do_name 1 (pv 1)) (do_of (de_callB p_len (by rfl) T.z_len (by decide +kernel) (da_cons (do_name 0 (pv 0)) da_nil))) (do_name 2 (pv 2)))))))
theorem ok_is_tuple (T : Facts K mg fa fd) : FnG P w K mg base 1 (fa 2) (fd 2) ["thing", "low", "high"] (spD K cl 3 m_is_tuple) := by unfold m_is_tuple; exact fn_ok T.F_is_tuple sc_is_tuple (b_is_tuple T)
noncomputable def g_are_unlike : G Fl := (gSeq (gIf (gOr (gNot (gB (gCall 3 m_is_tuple (gCs (gX (gK 0)) (gCs (gX (gv (.int 0))) (gCs (gX (gK 1)) gC0)))))) (gNot (gB (gL allD (gA (gO (gLc [2] (gSeqI (gK 0)) (tName 2) gYes (gCall 3 m_is_within (gCs (gX (gK 2)) (gCs (gX (gv (.int 0))) (gCs (gX (g2 subI (gP 1) (gO (gv (.int 1))))) gC0)))))) gA0))))) (gRet (gv (.bool false))) gNx) (gRet (g2 eqD (gO (gL lenD (gA (gO (gDc [2] (gSeqI (gK 0)) (tName 2) gYes (gK 2) (gv (.bool true)))) gA0))) (gO (gL lenD (gA (gP 0) gA0))))))
@[irreducible] noncomputable def m_are_unlike : List W → M D := fnM 3 g_are_unlike
theorem b_are_unlike (T : Facts K mg fa fd) : Body P w K mg base cl "are_unlike" s_are_unlike (fa 3) N_are_unlike 2 g_are_unlike := by
  intro cdv A outer s H E C hr hgd hcl tk
  subst hcl
  exact (dss_cons (ds_if (dt_w (dw_or (dt_not (dt_of (de_call (ok_is_tuple T) (hr.mono (by decide)) hgd T.g_is_tuple T.F_is_tuple.kp T.B_is_tuple tk (dc_cons (dx_of (de_keep 0 (pv 0))) (dc_cons (dx_of de_int) (dc_cons (dx_of (de_keep 1 (pv 1))) dc_nil)))))) (dw_or1 (dt_not (dt_of (de_callB (p_all rfl) (by rfl) T.z_all (by decide +kernel) (da_cons (do_of (de_of (dn_lc rfl sc_are_unlike.nd (di_seq (de_keep 0 (pv 0))) (blkOk_by (N := N_are_unlike) (sc := defScope s_are_unlike) (own := [("one", 2)]) (by decide +kernel)) (by intro _ _ _ _ _; exact (dg_name sc_are_unlike.nd)) (by intro _ _ _ _ _; exact dts_nil) (by intro _ _ _ _ _; exact (de_call (ok_is_within T) (hr.mono (by decide)) hgd T.g_is_within T.F_is_within.kp T.B_is_within (takes_blk rfl) (dc_cons (dx_of (de_keep 2 (pv 2))) (dc_cons (dx_of de_int) (dc_cons (dx_of (de_bin p_sub (do_name 1 (pv 1)) (do_of de_int))) dc_nil)))))))) da_nil))))))) (dss_one (ds_ret de_bl)) dss_nil) (dss_one (ds_ret (de_cmp (p_eq hr.units) (do_of (de_callB p_len (by rfl) T.z_len (by decide +kernel) (da_cons (do_of (de_of (dn_dc rfl sc_are_unlike.nd (di_seq (de_keep 0 (pv 0))) (blkOk_by (N := N_are_unlike) (sc := defScope s_are_unlike) (own := [("one", 2)]) (by decide +kernel)) (by intro _ _ _ _ _; exact (dg_name sc_are_unlike.nd)) (by intro _ _ _ _ _; exact dts_nil) (by intro _ _ _ _ _; exact (de_keep 2 (pv 2))) (by intro _ _ _ _ _; exact de_bl)))) da_nil))) (do_of (de_callB p_len (by rfl) T.z_len (by decide +kernel) (da_cons (do_name 0 (pv 0)) da_nil))) (nomark _)))))
theorem ok_are_unlike (T : Facts K mg fa fd) : FnG P w K mg base 3 (fa 3) (fd 3) ["thing", "many"] (spD K cl 2 m_are_unlike) := by unfold m_are_unlike; exact fn_ok T.F_are_unlike sc_are_unlike (b_are_unlike T)
noncomputable def g_are_debts : G Fl := (gRet (gAndV (gCall 3 m_is_tuple (gCs (gX (gK 0)) (gCs (gX (gv (.int 0))) (gCs (gX (gv (.int (12)))) gC0)))) (gL allD (gA (gO (gLc [1] (gSeqI (gK 0)) (tName 1) gYes (gCall 3 m_is_within (gCs (gX (gK 1)) (gCs (gX (gv (.int 0))) (gCs (gX (gv (.int (1000000000000)))) gC0)))))) gA0))))
@[irreducible] noncomputable def m_are_debts : List W → M D := fnM 2 g_are_debts
theorem b_are_debts (T : Facts K mg fa fd) : Body P w K mg base cl "are_debts" s_are_debts (fa 4) N_are_debts 2 g_are_debts := by
  intro cdv A outer s H E C hr hgd hcl tk
  subst hcl
  exact (dss_one (ds_ret (de_and (de_call (ok_is_tuple T) (hr.mono (by decide)) hgd T.g_is_tuple T.F_is_tuple.kp T.B_is_tuple tk (dc_cons (dx_of (de_keep 0 (pv 0))) (dc_cons (dx_of de_int) (dc_cons (dx_of (de_globE (by rfl) T.c_MOST_DEBTS)) dc_nil)))) (de_one (de_callB (p_all rfl) (by rfl) T.z_all (by decide +kernel) (da_cons (do_of (de_of (dn_lc rfl sc_are_debts.nd (di_seq (de_keep 0 (pv 0))) (blkOk_by (N := N_are_debts) (sc := defScope s_are_debts) (own := [("one", 1)]) (by decide +kernel)) (by intro _ _ _ _ _; exact (dg_name sc_are_debts.nd)) (by intro _ _ _ _ _; exact dts_nil) (by intro _ _ _ _ _; exact (de_call (ok_is_within T) (hr.mono (by decide)) hgd T.g_is_within T.F_is_within.kp T.B_is_within (takes_blk rfl) (dc_cons (dx_of (de_keep 1 (pv 1))) (dc_cons (dx_of de_int) (dc_cons (dx_of (de_globE (by rfl) T.c_MOST_SUM)) dc_nil)))))))) da_nil))))))
theorem ok_are_debts (T : Facts K mg fa fd) : FnG P w K mg base 3 (fa 4) (fd 4) ["thing"] (spD K cl 1 m_are_debts) := by unfold m_are_debts; exact fn_ok T.F_are_debts sc_are_debts (b_are_debts T)
noncomputable def g_is_book : G Fl := (gSeq (gIf (gOr (gNot (gB (gCall 3 m_is_tuple (gCs (gX (gK 0)) (gCs (gX (gv (.int 2))) (gCs (gX (gv (.int 2))) gC0)))))) (gOr (gNot (gB (gCall 1 m_are_debts (gCs (gX (g2 ixD (gP 0) (gO (gv (.int 0))))) gC0)))) (gNot (gB (gCall 3 m_is_tuple (gCs (gX (g2 ixD (gP 0) (gO (gv (.int 1))))) (gCs (gX (gv (.int 1))) (gCs (gX (gv (.int (6)))) gC0)))))))) (gRet (gv (.bool false))) gNx) (gRet (gL allD (gA (gO (gLc [1] (gSeqI (g2 ixD (gP 0) (gO (gv (.int 1))))) (tName 1) gYes (gCall 2 m_are_unlike (gCs (gX (gK 1)) (gCs (gX (gL lenD (gA (gO (g2 ixD (gP 0) (gO (gv (.int 0))))) gA0))) gC0))))) gA0))))
@[irreducible] noncomputable def m_is_book : List W → M D := fnM 2 g_is_book
theorem b_is_book (T : Facts K mg fa fd) : Body P w K mg base cl "is_book" s_is_book (fa 5) N_is_book 3 g_is_book := by
  intro cdv A outer s H E C hr hgd hcl tk
  subst hcl
  exact (dss_cons (ds_if (dt_w (dw_or (dt_not (dt_of (de_call (ok_is_tuple T) (hr.mono (by decide)) hgd T.g_is_tuple T.F_is_tuple.kp T.B_is_tuple tk (dc_cons (dx_of (de_keep 0 (pv 0))) (dc_cons (dx_of de_int) (dc_cons (dx_of de_int) dc_nil)))))) (dw_or (dt_not (dt_of (de_call (ok_are_debts T) (hr.mono (by decide)) hgd T.g_are_debts T.F_are_debts.kp T.B_are_debts tk (dc_cons (dx_of (de_ix (do_name 0 (pv 0)) (do_of de_int))) dc_nil)))) (dw_or1 (dt_not (dt_of (de_call (ok_is_tuple T) (hr.mono (by decide)) hgd T.g_is_tuple T.F_is_tuple.kp T.B_is_tuple tk (dc_cons (dx_of (de_ix (do_name 0 (pv 0)) (do_of de_int))) (dc_cons (dx_of de_int) (dc_cons (dx_of (de_globE (by rfl) T.c_MOST_THINGS)) dc_nil)))))))))) (dss_one (ds_ret de_bl)) dss_nil) (dss_one (ds_ret (de_callB (p_all rfl) (by rfl) T.z_all (by decide +kernel) (da_cons (do_of (de_of (dn_lc rfl sc_is_book.nd (di_seq (de_ix (do_name 0 (pv 0)) (do_of de_int))) (blkOk_by (N := N_is_book) (sc := defScope s_is_book) (own := [("row", 1)]) (by decide +kernel)) (by intro _ _ _ _ _; exact (dg_name sc_is_book.nd)) (by intro _ _ _ _ _; exact dts_nil) (by intro _ _ _ _ _; exact (de_call (ok_are_unlike T) (hr.mono (by decide)) hgd T.g_are_unlike T.F_are_unlike.kp T.B_are_unlike (takes_blk rfl) (dc_cons (dx_of (de_keep 1 (pv 1))) (dc_cons (dx_of (de_callB p_len (by rfl) T.z_len (by decide +kernel) (da_cons (do_of (de_ix (do_name 0 (pv 0)) (do_of de_int))) da_nil))) dc_nil))))))) da_nil)))))
theorem ok_is_book (T : Facts K mg fa fd) : FnG P w K mg base 4 (fa 5) (fd 5) ["thing"] (spD K cl 1 m_is_book) := by unfold m_is_book; exact fn_ok T.F_is_book sc_is_book (b_is_book T)
noncomputable def g__law_hand : G Fl := (gSeq (gSetW 1 (gLc [2] (gSeqI (gScrSl 0 gPn (gPs (gO (gv (.int 60)))))) (tName 2) gYes (g2 modI (gO (gL intD (gA (gO (gL absD (gA (gO (gL intD (gA (gP 2) gA0))) gA0))) gA0))) (gO (g2 powI (gO (gv (.int 10))) (gO (gv (.int 42)))))))) (gRetW (gLst (gA (gO (gK 1)) (gA (gO (gv (.int 0))) (gA (gO (gv (.int 0))) (gA (gO (g2 addD (gO (gv (.int 70500))) (gO (g2 mulD (gO (gv (.int 11))) (gO (gL lenD (gA (gP 1) gA0))))))) (gA (gO (gv (.int 0))) gA0))))))))
@[irreducible] noncomputable def m__law_hand : List W → M D := fnW 3 g__law_hand
theorem b__law_hand (T : Facts K mg fa fd) : Body P w K mg base cl "_law_hand" s__law_hand (fa 6) N__law_hand 0 g__law_hand := by
  intro cdv A outer s H E C hr hgd hcl tk
  subst hcl
  exact (dss_cons (ds_setLc rfl sc__law_hand.nd rfl rfl (sw_true rfl rfl rfl (by decide +kernel)) (di_seq (de_of (dn_scrSl (pv 0) dp_none (dp_some (do_of de_int))))) (blkOk_by (N := N__law_hand) (sc := defScope s__law_hand) (own := [("cell", 2)]) (by decide +kernel)) (by intro _ _ _ _ _; exact (dg_name sc__law_hand.nd)) (by intro _ _ _ _ _; exact dts_nil) (by intro _ _ _ _ _; exact (de_bin p_mod (do_of (de_callTy p_int (by rfl) T.z_int (by decide +kernel) (da_cons (do_of (de_callB p_abs (by rfl) T.z_abs (by decide +kernel) (da_cons (do_of (de_callTy p_int (by rfl) T.z_int (by decide +kernel) (da_cons (do_name 2 (pv 2)) da_nil))) da_nil))) da_nil))) (do_of (de_bin p_pow (do_of de_int) (do_of de_int)))))) (dss_one (ds_retW (dn_lst (da_cons (do_of (de_keep 1 (pv 1))) (da_cons (do_of de_int) (da_cons (do_of de_int) (da_cons (do_of (de_bin p_add (do_of de_int) (do_of (de_bin p_mul (do_of de_int) (do_of (de_callB p_len (by rfl) T.z_len (by decide +kernel) (da_cons (do_name 1 (pv 1)) da_nil))))))) (da_cons (do_of de_int) da_nil)))))))))
theorem ok__law_hand (T : Facts K mg fa fd) : FnG P w K mg base 1 (fa 6) (fd 6) ["script"] (spW K cl 1 m__law_hand) := by unfold m__law_hand; exact fn_okW T.F__law_hand sc__law_hand (b__law_hand T)
noncomputable def g__law_draw : G Fl := (gSeq (gIf (gAnd (gB (g2 eqD (gO (g2 ixD (gP 0) (gO (gv (.int 2))))) (gO (gv (.int 0))))) (gB (g2 ltI (gO (g2 ixD (gP 0) (gO (gv (.int 1))))) (gO (gL lenD (gA (gO (g2 ixD (gP 0) (gO (gv (.int 0))))) gA0)))))) (gSeq (gSet 3 (g2 ixD (gO (g2 ixD (gP 0) (gO (gv (.int 0))))) (gO (g2 ixD (gP 0) (gO (gv (.int 1))))))) (gSeq (gStI 0 (gO (gv (.int 1))) (g2 addD (gO (g2 ixD (gP 0) (gO (gv (.int 1))))) (gO (gv (.int 1))))) (gSeq (gStI 0 (gO (gv (.int 3))) (g2 modI (gO (gL intD (gA (gO (g2 addD (gO (g2 addD (gO (g2 mulD (gO (g2 ixD (gP 0) (gO (gv (.int 3))))) (gO (gv (.int 48271))))) (gO (g2 mulD (gP 3) (gO (gv (.int 69621))))))) (gO (gv (.int 37))))) gA0))) (gO (gv (.int 2147483629))))) (gStI 0 (gO (gv (.int 2))) (gIf (gB (g2 geI (gP 3) (gO (g2 powI (gO (gv (.int 10))) (gO (gv (.int 18))))))) (gK 3) (gv (.int 0))))))) gNx) (gSeq (gIf (gB (g2 gtI (gO (g2 ixD (gP 0) (gO (gv (.int 2))))) (gO (gv (.int 0))))) (gSeq (gSet 4 (g2 modI (gO (gL intD (gA (gO (g2 ixD (gP 0) (gO (gv (.int 2))))) gA0))) (gP 1))) (gSeq (gStI 0 (gO (gv (.int 2))) (g2 divI (gO (g2 ixD (gP 0) (gO (gv (.int 2))))) (gP 1))) (gRet (gK 4)))) gNx) (gSeq (gStI 0 (gO (gv (.int 4))) (g2 addD (gO (g2 ixD (gP 0) (gO (gv (.int 4))))) (gO (gv (.int 1))))) (gSeq (gSet 2 (g2 modI (gO (gL intD (gA (gO (g2 mulD (gO (gL intD (gA (gO (g2 addD (gO (g2 ixD (gP 0) (gO (gv (.int 3))))) (gO (g2 mulD (gO (gv (.int 7919))) (gO (g2 ixD (gP 0) (gO (gv (.int 4))))))))) gA0))) (gO (gv (.int 40692))))) gA0))) (gO (gv (.int 2147483647))))) (gSeq (gSet 2 (g2 modI (gO (gL intD (gA (gO (g2 mulD (gP 2) (gO (g2 addD (gO (g2 divI (gP 2) (gO (gv (.int 1009))))) (gO (gv (.int 69621))))))) gA0))) (gO (gv (.int 2147483647))))) (gSeq (gSet 2 (g2 modI (gO (gL intD (gA (gO (g2 mulD (gP 2) (gO (g2 addD (gO (g2 divI (gP 2) (gO (gv (.int 2003))))) (gO (gv (.int 40014))))))) gA0))) (gO (gv (.int 2147483563))))) (gRet (g2 modI (gO (gL intD (gA (gO (g2 divI (gP 2) (gO (gv (.int 16))))) gA0))) (gP 1)))))))))
abbrev m__law_draw : List W → M D := drawM
theorem b__law_draw (T : Facts K mg fa fd) : Body P w K mg base cl "_law_draw" s__law_draw (fa 7) N__law_draw 0 g__law_draw := by
  intro cdv A outer s H E C hr hgd hcl tk
  subst hcl
  exact (dss_cons (ds_if (dt_w (dw_and (dt_cmp (p_eq hr.units) (do_of (de_ix (do_name 0 (pv 0)) (do_of de_int))) (do_of de_int) (nomark _)) (dw_and1 (dt_cmp p_lt (do_of (de_ix (do_name 0 (pv 0)) (do_of de_int))) (do_of (de_callB p_len (by rfl) T.z_len (by decide +kernel) (da_cons (do_of (de_ix (do_name 0 (pv 0)) (do_of de_int))) da_nil))) (nomark _))))) (dss_cons (ds_set sc__law_draw.nd (de_ix (do_of (de_ix (do_name 0 (pv 0)) (do_of de_int))) (do_of (de_ix (do_name 0 (pv 0)) (do_of de_int))))) (dss_cons (ds_stI (pv 0) (do_of de_int) (de_bin p_add (do_of (de_ix (do_name 0 (pv 0)) (do_of de_int))) (do_of de_int))) (dss_cons (ds_stI (pv 0) (do_of de_int) (de_bin p_mod (do_of (de_callTy p_int (by rfl) T.z_int (by decide +kernel) (da_cons (do_of (de_bin p_add (do_of (de_bin p_add (do_of (de_bin p_mul (do_of (de_ix (do_name 0 (pv 0)) (do_of de_int))) (do_of de_int))) (do_of (de_bin p_mul (do_name 3 (pv 3)) (do_of de_int))))) (do_of de_int))) da_nil))) (do_of de_int))) (dss_one (ds_stI (pv 0) (do_of de_int) (de_if (dt_cmp p_ge (do_name 3 (pv 3)) (do_of (de_bin p_pow (do_of de_int) (do_of de_int))) (nomark _)) (de_keep 3 (pv 3)) de_int)))))) dss_nil) (dss_cons (ds_if (dt_cmp p_gt (do_of (de_ix (do_name 0 (pv 0)) (do_of de_int))) (do_of de_int) (nomark _)) (dss_cons (ds_set sc__law_draw.nd (de_bin p_mod (do_of (de_callTy p_int (by rfl) T.z_int (by decide +kernel) (da_cons (do_of (de_ix (do_name 0 (pv 0)) (do_of de_int))) da_nil))) (do_name 1 (pv 1)))) (dss_cons (ds_stI (pv 0) (do_of de_int) (de_bin p_div (do_of (de_ix (do_name 0 (pv 0)) (do_of de_int))) (do_name 1 (pv 1)))) (dss_one (ds_ret (de_keep 4 (pv 4)))))) dss_nil) (dss_cons (ds_stI (pv 0) (do_of de_int) (de_bin p_add (do_of (de_ix (do_name 0 (pv 0)) (do_of de_int))) (do_of de_int))) (dss_cons (ds_set sc__law_draw.nd (de_bin p_mod (do_of (de_callTy p_int (by rfl) T.z_int (by decide +kernel) (da_cons (do_of (de_bin p_mul (do_of (de_callTy p_int (by rfl) T.z_int (by decide +kernel) (da_cons (do_of (de_bin p_add (do_of (de_ix (do_name 0 (pv 0)) (do_of de_int))) (do_of (de_bin p_mul (do_of de_int) (do_of (de_ix (do_name 0 (pv 0)) (do_of de_int))))))) da_nil))) (do_of de_int))) da_nil))) (do_of de_int))) (dss_cons (ds_set sc__law_draw.nd (de_bin p_mod (do_of (de_callTy p_int (by rfl) T.z_int (by decide +kernel) (da_cons (do_of (de_bin p_mul (do_name 2 (pv 2)) (do_of (de_bin p_add (do_of (de_bin p_div (do_name 2 (pv 2)) (do_of de_int))) (do_of de_int))))) da_nil))) (do_of de_int))) (dss_cons (ds_set sc__law_draw.nd (de_bin p_mod (do_of (de_callTy p_int (by rfl) T.z_int (by decide +kernel) (da_cons (do_of (de_bin p_mul (do_name 2 (pv 2)) (do_of (de_bin p_add (do_of (de_bin p_div (do_name 2 (pv 2)) (do_of de_int))) (do_of de_int))))) da_nil))) (do_of de_int))) (dss_one (ds_ret (de_bin p_mod (do_of (de_callTy p_int (by rfl) T.z_int (by decide +kernel) (da_cons (do_of (de_bin p_div (do_name 2 (pv 2)) (do_of de_int))) da_nil))) (do_name 1 (pv 1)))))))))))
theorem draw_law (xs : List D) (n : Int) (h : HandD xs) (h0 : 0 < n) (h1 : n < 2 ^ 100) : ∃ (r : Int) (xs' : List D) (ρ' : Rho), g__law_draw ([.own 1 (.list xs), .d (.int n)] ++ List.replicate (N__law_draw.length - 2) .un) = .ret (.rt (.int r), ρ') ∧ ρ'[0]? = some (.own 1 (.list xs')) ∧ HandD xs' ∧ 0 ≤ r ∧ r < n := by
  obtain ⟨cs, i, r, s, k, rfl, hcs, hl, hi, hr0, hr1, hs0, hs1, hk⟩ := h
  have m1 : ∀ a : Int, 0 ≤ a % n ∧ a % n < n := fun a => ⟨Int.emod_nonneg a (Int.ne_of_gt h0), Int.emod_lt_of_pos a h0⟩
  have h2 : n < 1427247692705959881058285969449495136382746624 := by omega
  have hdiv : ∀ a : Int, 0 ≤ a → a < 10 ^ 42 → 0 ≤ a / n ∧ a / n < 10 ^ 42 := fun a ha hb => ⟨Int.ediv_nonneg ha (by omega), Int.lt_of_le_of_lt (Int.ediv_le_self n ha) hb⟩
  have hm : ∀ a m : Int, 0 < m → 0 ≤ a % m ∧ a % m < m := fun a m h => ⟨Int.emod_nonneg a (Int.ne_of_gt h), Int.emod_lt_of_pos a h⟩
  have fin : ∀ (i r s k : Int), 0 ≤ i → 0 ≤ r → r < 10 ^ 42 → 0 ≤ s → s < 2 ^ 32 → 0 ≤ k → HandD [.list (cs.map .int), .int i, .int r, .int s, .int k] := fun i r s k a b c d e f => ⟨cs, i, r, s, k, rfl, hcs, hl, a, b, c, d, e, f⟩
  have q1 : ∀ a b : Int, mulC (a % 2147483647) b = true := fun a b => mulC_mod (by decide) (by decide)
  have q2 : ∀ a : Int, mulC a 48271 = true ∧ mulC a 69621 = true ∧ mulC a 40692 = true := fun a => ⟨mulC_right (by decide) (by decide), mulC_right (by decide) (by decide), mulC_right (by decide) (by decide)⟩
  have q3 : ∀ a : Int, mulC 7919 a = true := fun a => mulC_left (by decide) (by decide)
  unfold g__law_draw
  by_cases c1 : r = 0
  · subst c1
    by_cases c2 : i < (cs.length : Int)
    · obtain ⟨cell, hcell⟩ : ∃ c, cs[i.toNat]? = some c := ⟨_, List.getElem?_eq_getElem (by omega)⟩
      have hat : atI (cs.map PyData.int) i = some (.int cell) := by rw [atI_in hi (by simpa using c2)]; simp [hcell]
      have hb := hcs cell (List.mem_of_getElem? hcell)
      by_cases c3 : 1000000000000000000 ≤ cell
      · have c4 : 0 < cell := by omega
        simp -implicitDefEqProofs [N__law_draw, c2, hat, c3, c4, h0, h2, q1, q2, q3]
        exact ⟨_, _, _, ⟨rfl, rfl⟩, rfl, fin _ _ _ _ (by omega) (hdiv _ hb.1 hb.2).1 (hdiv _ hb.1 hb.2).2 (hm _ _ (by decide)).1 (Int.lt_trans (hm _ _ (by decide)).2 (by decide)) hk, (m1 _).1, (m1 _).2⟩
      · simp -implicitDefEqProofs [N__law_draw, c2, hat, c3, h0, h2, q1, q2, q3]
        exact ⟨_, _, _, ⟨rfl, rfl⟩, rfl, fin _ _ _ _ (by omega) (by omega) (by decide) (hm _ _ (by decide)).1 (Int.lt_trans (hm _ _ (by decide)).2 (by decide)) (by omega), (m1 _).1, (m1 _).2⟩
    · simp -implicitDefEqProofs [N__law_draw, c2, h0, h2, q1, q2, q3]
      exact ⟨_, _, _, ⟨rfl, rfl⟩, rfl, fin _ _ _ _ hi (by omega) (by decide) hs0 hs1 (by omega), (m1 _).1, (m1 _).2⟩
  · have c4 : 0 < r := by omega
    simp -implicitDefEqProofs [N__law_draw, c1, c4, h0, h2, q1, q2, q3]
    exact ⟨_, _, _, ⟨rfl, rfl⟩, rfl, fin _ _ _ _ hi (hdiv _ hr0 hr1).1 (hdiv _ hr0 hr1).2 hs0 hs1 hk, (m1 _).1, (m1 _).2⟩
theorem ok__law_draw (T : Facts K mg fa fd) : FnG P w K mg base 1 (fa 7) (fd 7) ["hand", "many"] (spD K cl 2 m__law_draw) := fn_hand T.F__law_draw sc__law_draw rfl (b__law_draw T) draw_law
noncomputable def g__law_any : G Fl := (gRet (g2 ixD (gP 1) (gO (gCall 2 m__law_draw (gCs (gHd 0) (gCs (gX (gL lenD (gA (gP 1) gA0))) gC0))))))
@[irreducible] noncomputable def m__law_any : List W → M D := fnM 2 g__law_any
theorem b__law_any (T : Facts K mg fa fd) : Body P w K mg base cl "_law_any" s__law_any (fa 8) N__law_any 1 g__law_any := by
  intro cdv A outer s H E C hr hgd hcl tk
  subst hcl
  exact (dss_one (ds_ret (de_ix (do_name 1 (pv 1)) (do_of (de_call (ok__law_draw T) (hr.mono (by decide)) hgd T.g__law_draw T.F__law_draw.kp T.B__law_draw tk (dc_cons (dx_hand 0 (pv 0)) (dc_cons (dx_of (de_callB p_len (by rfl) T.z_len (by decide +kernel) (da_cons (do_name 1 (pv 1)) da_nil))) dc_nil)))))))
theorem ok__law_any (T : Facts K mg fa fd) : FnG P w K mg base 2 (fa 8) (fd 8) ["hand", "some"] (spD K cl 2 m__law_any) := by unfold m__law_any; exact fn_ok T.F__law_any sc__law_any (b__law_any T)
noncomputable def g__law_is : G Fl := (gRet (g2 eqD (gO (gL reprD (gA (gP 0) gA0))) (gO (gL reprD (gA (gP 1) gA0)))))
@[irreducible] noncomputable def m__law_is : List W → M D := fnM 2 g__law_is
theorem b__law_is (T : Facts K mg fa fd) : Body P w K mg base cl "_law_is" s__law_is (fa 9) N__law_is 0 g__law_is := by
  intro cdv A outer s H E C hr hgd hcl tk
  subst hcl
  exact (dss_one (ds_ret (de_cmp (p_eq hr.units) (do_of (de_callB (p_repr hr.units hgd) (by rfl) T.z_repr (by decide +kernel) (da_cons (do_name 0 (pv 0)) da_nil))) (do_of (de_callB (p_repr hr.units hgd) (by rfl) T.z_repr (by decide +kernel) (da_cons (do_name 1 (pv 1)) da_nil))) (nomark _))))
theorem ok__law_is (T : Facts K mg fa fd) : FnG P w K mg base 1 (fa 9) (fd 9) ["told", "due"] (spD K cl 2 m__law_is) := by unfold m__law_is; exact fn_ok T.F__law_is sc__law_is (b__law_is T)
noncomputable def g__law_mixed : G Fl := (gSeq (gPar [2, 3] (gVw (gNL listL (gA (gP 1) gA0)) (gVw (gLst gA0) gV0))) (gSeq (gWhile (gB (g2 neD (gP 2) (gO (gLst gA0)))) (gExpr (gMut 3 appD (gA (gO (gMut 2 popD (gA (gO (gCall 2 m__law_draw (gCs (gHd 0) (gCs (gX (gL lenD (gA (gP 2) gA0))) gC0)))) gA0))) gA0)))) (gRet (gK 3))))
@[irreducible] noncomputable def m__law_mixed : List W → M D := fnM 4 g__law_mixed
theorem b__law_mixed (T : Facts K mg fa fd) : Body P w K mg base cl "_law_mixed" s__law_mixed (fa 10) N__law_mixed 1 g__law_mixed := by
  intro cdv A outer s H E C hr hgd hcl tk
  subst hcl
  exact (dss_cons (ds_par2 rfl sc__law_mixed.nd (dv_w (dn_callTy n_list (by rfl) T.z_list (by decide +kernel) (da_cons (do_name 1 (pv 1)) da_nil)) (dv_w (dn_lst da_nil) dv_nil))) (dss_cons (ds_while (passes_of rfl) (dt_cmp (p_ne hr.units) (do_name 2 (pv 2)) (do_of (de_of (dn_lst da_nil))) (nomark _)) (dss_one (ds_expr (de_mut PySem.F.plainAttrs_list PySem.F.slot_list_append PySem.F.type_list_append m_append (pv 3) (da_cons (do_of (de_mut PySem.F.plainAttrs_list PySem.F.slot_list_pop PySem.F.type_list_pop m_pop (pv 2) (da_cons (do_of (de_call (ok__law_draw T) (hr.mono (by decide)) hgd T.g__law_draw T.F__law_draw.kp T.B__law_draw tk (dc_cons (dx_hand 0 (pv 0)) (dc_cons (dx_of (de_callB p_len (by rfl) T.z_len (by decide +kernel) (da_cons (do_name 2 (pv 2)) da_nil))) dc_nil)))) da_nil))) da_nil))))) (dss_one (ds_ret (de_keep 3 (pv 3))))))
theorem ok__law_mixed (T : Facts K mg fa fd) : FnG P w K mg base 2 (fa 10) (fd 10) ["hand", "things"] (spD K cl 2 m__law_mixed) := by unfold m__law_mixed; exact fn_ok T.F__law_mixed sc__law_mixed (b__law_mixed T)
noncomputable def g__law_sum : G Fl := (gRet (gCall 2 m__law_any (gCs (gHd 0) (gCs (gX (gLst (gA (gO (gv (.int 0))) (gA (gO (gv (.int 1))) (gA (gO (gCall 2 m__law_draw (gCs (gHd 0) (gCs (gX (gv (.int 5))) gC0)))) (gA (gO (gCall 2 m__law_draw (gCs (gHd 0) (gCs (gX (gv (.int 100))) gC0)))) (gA (gO (g2 addD (gO (gv (.int 1))) (gO (gCall 2 m__law_draw (gCs (gHd 0) (gCs (gX (g2 powI (gO (gv (.int 10))) (gO (gv (.int 6))))) gC0)))))) (gA (gO (g2 powI (gO (gv (.int 10))) (gO (gv (.int 12))))) gA0)))))))) gC0))))
@[irreducible] noncomputable def m__law_sum : List W → M D := fnM 1 g__law_sum
theorem b__law_sum (T : Facts K mg fa fd) : Body P w K mg base cl "_law_sum" s__law_sum (fa 11) N__law_sum 2 g__law_sum := by
  intro cdv A outer s H E C hr hgd hcl tk
  subst hcl
  exact (dss_one (ds_ret (de_call (ok__law_any T) (hr.mono (by decide)) hgd T.g__law_any T.F__law_any.kp T.B__law_any tk (dc_cons (dx_hand 0 (pv 0)) (dc_cons (dx_of (de_of (dn_lst (da_cons (do_of de_int) (da_cons (do_of de_int) (da_cons (do_of (de_call (ok__law_draw T) (hr.mono (by decide)) hgd T.g__law_draw T.F__law_draw.kp T.B__law_draw tk (dc_cons (dx_hand 0 (pv 0)) (dc_cons (dx_of de_int) dc_nil)))) (da_cons (do_of (de_call (ok__law_draw T) (hr.mono (by decide)) hgd T.g__law_draw T.F__law_draw.kp T.B__law_draw tk (dc_cons (dx_hand 0 (pv 0)) (dc_cons (dx_of de_int) dc_nil)))) (da_cons (do_of (de_bin p_add (do_of de_int) (do_of (de_call (ok__law_draw T) (hr.mono (by decide)) hgd T.g__law_draw T.F__law_draw.kp T.B__law_draw tk (dc_cons (dx_hand 0 (pv 0)) (dc_cons (dx_of (de_bin p_pow (do_of de_int) (do_of de_int))) dc_nil)))))) (da_cons (do_of (de_bin p_pow (do_of de_int) (do_of de_int))) da_nil))))))))) dc_nil)))))
theorem ok__law_sum (T : Facts K mg fa fd) : FnG P w K mg base 3 (fa 11) (fd 11) ["hand"] (spD K cl 1 m__law_sum) := by unfold m__law_sum; exact fn_ok T.F__law_sum sc__law_sum (b__law_sum T)
noncomputable def g__law_book : G Fl := (gSeq (gSet 2 (gCall 2 m__law_any (gCs (gHd 0) (gCs (gX (gLst (gA (gO (gv (.int 0))) (gA (gO (gv (.int 1))) (gA (gO (gv (.int 2))) (gA (gO (gv (.int 3))) (gA (gO (gv (.int 5))) (gA (gO (gv (.int 6))) (gA (gO (gK 1)) gA0))))))))) gC0)))) (gSeq (gSet 3 (gL tupD (gA (gO (gLc [7] (gRng rng1 (gA (gO (gL minD2 (gA (gP 2) (gA (gP 1) gA0)))) gA0)) (tName 7) gYes (gCall 1 m__law_sum (gCs (gHd 0) gC0)))) gA0))) (gSeq (gSetW 4 (gLst gA0)) (gSeq (gFor (gRng rng1 (gA (gO (g2 addD (gO (gv (.int 1))) (gO (gCall 2 m__law_draw (gCs (gHd 0) (gCs (gX (gv (.int 6))) gC0)))))) gA0)) (tName 5) (gSeq (gSet 6 (gCall 2 m__law_mixed (gCs (gHd 0) (gCs (gX (gN1 lr1 (gO (gL lenD (gA (gP 3) gA0))))) gC0)))) (gExpr (gMut 4 appD (gA (gO (gL tupD (gA (gO (gSl slD id (gP 6) gPn (gPs (gO (gCall 2 m__law_any (gCs (gHd 0) (gCs (gX (gLst (gA (gO (gL lenD (gA (gP 6) gA0))) (gA (gO (gCall 2 m__law_draw (gCs (gHd 0) (gCs (gX (g2 addD (gO (gL lenD (gA (gP 6) gA0))) (gO (gv (.int 1))))) gC0)))) gA0)))) gC0))))))) gA0))) gA0))))) (gRet (gTup (gA (gO (gK 3)) (gA (gO (gL tupD (gA (gP 4) gA0))) gA0))))))))
@[irreducible] noncomputable def m__law_book : List W → M D := fnM 8 g__law_book
theorem b__law_book (T : Facts K mg fa fd) : Body P w K mg base cl "_law_book" s__law_book (fa 12) N__law_book 3 g__law_book := by
  intro cdv A outer s H E C hr hgd hcl tk
  subst hcl
  exact (dss_cons (ds_set sc__law_book.nd (de_call (ok__law_any T) (hr.mono (by decide)) hgd T.g__law_any T.F__law_any.kp T.B__law_any tk (dc_cons (dx_hand 0 (pv 0)) (dc_cons (dx_of (de_of (dn_lst (da_cons (do_of de_int) (da_cons (do_of de_int) (da_cons (do_of de_int) (da_cons (do_of de_int) (da_cons (do_of de_int) (da_cons (do_of de_int) (da_cons (do_of (de_keep 1 (pv 1))) da_nil)))))))))) dc_nil)))) (dss_cons (ds_set sc__law_book.nd (de_callTy p_tuple (by rfl) T.z_tuple (by decide +kernel) (da_cons (do_of (de_of (dn_lc rfl sc__law_book.nd (di_rng1 (by rfl) T.z_range (da_cons (do_of (de_callB (p_min2 rfl) (by rfl) T.z_min (by decide +kernel) (da_cons (do_name 2 (pv 2)) (da_cons (do_name 1 (pv 1)) da_nil)))) da_nil)) (blkOk_by (N := N__law_book) (sc := defScope s__law_book) (own := [("debt", 7)]) (by decide +kernel)) (by intro _ _ _ _ _; exact (dg_name sc__law_book.nd)) (by intro _ _ _ _ _; exact dts_nil) (by intro _ _ _ _ _; exact (de_call (ok__law_sum T) (hr.mono (by decide)) hgd T.g__law_sum T.F__law_sum.kp T.B__law_sum (takes_blk rfl) (dc_cons (dx_hand 0 (pv 0)) dc_nil)))))) da_nil))) (dss_cons (ds_setW sc__law_book.nd (dn_lst da_nil)) (dss_cons (ds_for (passes_of rfl) rfl (di_rng1 (by rfl) T.z_range (da_cons (do_of (de_bin p_add (do_of de_int) (do_of (de_call (ok__law_draw T) (hr.mono (by decide)) hgd T.g__law_draw T.F__law_draw.kp T.B__law_draw tk (dc_cons (dx_hand 0 (pv 0)) (dc_cons (dx_of de_int) dc_nil)))))) da_nil)) (dg_name sc__law_book.nd) (dss_cons (ds_set sc__law_book.nd (de_call (ok__law_mixed T) (hr.mono (by decide)) hgd T.g__law_mixed T.F__law_mixed.kp T.B__law_mixed tk (dc_cons (dx_hand 0 (pv 0)) (dc_cons (dx_of (de_of (dn_lr1 rfl T.z_list T.z_range (do_of (de_callB p_len (by rfl) T.z_len (by decide +kernel) (da_cons (do_name 3 (pv 3)) da_nil)))))) dc_nil)))) (dss_one (ds_expr (de_mut PySem.F.plainAttrs_list PySem.F.slot_list_append PySem.F.type_list_append m_append (pv 4) (da_cons (do_of (de_callTy p_tuple (by rfl) T.z_tuple (by decide +kernel) (da_cons (do_of (de_sl (do_name 6 (pv 6)) dp_none (dp_some (do_of (de_call (ok__law_any T) (hr.mono (by decide)) hgd T.g__law_any T.F__law_any.kp T.B__law_any tk (dc_cons (dx_hand 0 (pv 0)) (dc_cons (dx_of (de_of (dn_lst (da_cons (do_of (de_callB p_len (by rfl) T.z_len (by decide +kernel) (da_cons (do_name 6 (pv 6)) da_nil))) (da_cons (do_of (de_call (ok__law_draw T) (hr.mono (by decide)) hgd T.g__law_draw T.F__law_draw.kp T.B__law_draw tk (dc_cons (dx_hand 0 (pv 0)) (dc_cons (dx_of (de_bin p_add (do_of (de_callB p_len (by rfl) T.z_len (by decide +kernel) (da_cons (do_name 6 (pv 6)) da_nil))) (do_of de_int))) dc_nil)))) da_nil))))) dc_nil))))))) da_nil))) da_nil)))))) (dss_one (ds_ret (de_tup (da_cons (do_of (de_keep 3 (pv 3))) (da_cons (do_of (de_callTy p_tuple (by rfl) T.z_tuple (by decide +kernel) (da_cons (do_name 4 (pv 4)) da_nil))) da_nil)))))))))
theorem ok__law_book (T : Facts K mg fa fd) : FnG P w K mg base 4 (fa 12) (fd 12) ["hand", "most"] (spD K cl 2 m__law_book) := by unfold m__law_book; exact fn_ok T.F__law_book sc__law_book (b__law_book T)
noncomputable def g__law_no_books : G Fl := (gSeq (gUnp (tTupl 2 (tCons (tName 6) (tCons (tName 7) tNil))) (gK 1)) (gSeq (gUnp (tTupl 2 (tCons (tName 8) (tCons (tName 9) tNil))) (gTup (gA (gO (gL lenD (gA (gP 6) gA0))) (gA (gO (gCall 2 m__law_draw (gCs (gHd 0) (gCs (gX (gL lenD (gA (gP 7) gA0))) gC0)))) gA0)))) (gSeq (gSet 2 (g2 ixD (gP 7) (gP 9))) (gSeq (gSetW 3 (gLst (gA (gO (gv .none)) (gA (gO (gNL listL (gA (gP 2) gA0))) (gA (gO (g2 addD (gP 2) (gO (gTup (gA (gO (gK 8)) gA0))))) (gA (gO (g2 addD (gP 2) (gO (gTup (gA (gO (g1 negI (gO (gv (.int 1))))) gA0))))) (gA (gO (gv (.str "0"))) (gA (gO (gv (.int 0))) (gA (gO (g2 addD (gP 2) (gO (gTup (gA (gO (gv (.str "0"))) gA0))))) (gA (gO (g2 addD (gP 2) (gO (gTup (gA (gO (gv .none)) gA0))))) (gA (gO (gTup (gA (gO (gK 2)) gA0))) gA0))))))))))) (gSeq (gExpr (gMut 3 appD (gA (gO (gIf (gB (g2 neD (gP 2) (gO (gTup gA0)))) (g2 addD (gP 2) (gO (gSl slD id (gP 2) gPn (gPs (gO (gv (.int 1))))))) (gTup (gA (gO (gv (.int 0))) (gA (gO (gv (.int 0))) gA0))))) gA0))) (gSeq (gSetW 4 (gLc [5] (gSeqI (gK 3)) (tName 5) gYes (gTup (gA (gO (gK 6)) (gA (gO (g2 addD (gO (g2 addD (gO (gSl slD id (gP 7) gPn (gPs (gP 9)))) (gO (gTup (gA (gO (gK 5)) gA0))))) (gO (gSl slD id (gP 7) (gPs (gO (g2 addD (gP 9) (gO (gv (.int 1)))))) gPn)))) gA0))))) (gSeq (gIf (gB (g2 gtI (gP 8) (gO (gv (.int 1))))) (gExpr (gMut 4 appD (gA (gO (gTup (gA (gO (gK 6)) (gA (gO (g2 addD (gO (g2 addD (gO (gSl slD id (gP 7) gPn (gPs (gP 9)))) (gO (gTup (gA (gO (gTup (gA (gO (gv (.bool true))) gA0))) gA0))))) (gO (gSl slD id (gP 7) (gPs (gO (g2 addD (gP 9) (gO (gv (.int 1)))))) gPn)))) gA0)))) gA0))) gNx) (gSeq (gFor (gSeqI (gTup (gA (gO (g1 negI (gO (gv (.int 1))))) (gA (gO (g2 addD (gO (g2 powI (gO (gv (.int 10))) (gO (gv (.int 12))))) (gO (gv (.int 1))))) (gA (gO (gv .none)) (gA (gO (gv (.bool true))) (gA (gO (gv (.str "1"))) (gA (gO (gTup (gA (gO (gv (.int 1))) gA0))) (gA (gO (gLst (gA (gO (gv (.int 1))) gA0))) (gA (gO (g2 powI (gO (gv (.int 10))) (gO (gv (.int 30))))) gA0)))))))))) (tName 5) (gSeq (gSet 10 (gIf (gB (g2 gtI (gP 8) (gO (gv (.int 0))))) (gCall 2 m__law_draw (gCs (gHd 0) (gCs (gX (gK 8)) gC0))) (gv (.int 0)))) (gExpr (gMut 4 appD (gA (gO (gTup (gA (gO (g2 addD (gO (g2 addD (gO (gSl slD id (gP 6) gPn (gPs (gP 10)))) (gO (gTup (gA (gO (gK 5)) gA0))))) (gO (gSl slD id (gP 6) (gPs (gO (g2 addD (gP 10) (gO (gv (.int 1)))))) gPn)))) (gA (gO (gK 7)) gA0)))) gA0))))) (gSeq (gSetW 4 (gN2 catL (gP 4) (gO (gLst (gA (gO (gv .none)) (gA (gO (gTup gA0)) (gA (gO (gTup (gA (gO (gK 6)) gA0))) (gA (gO (gLst (gA (gO (gK 6)) (gA (gO (gK 7)) gA0)))) (gA (gO (gTup (gA (gO (gNL listL (gA (gP 6) gA0))) (gA (gO (gK 7)) gA0)))) (gA (gO (gTup (gA (gO (gK 6)) (gA (gO (gNL listL (gA (gP 7) gA0))) gA0)))) (gA (gO (gTup (gA (gO (gK 6)) (gA (gO (gK 7)) (gA (gO (gTup gA0)) gA0))))) gA0))))))))))) (gSeq (gSetW 4 (gN2 catL (gP 4) (gO (gLst (gA (gO (gTup (gA (gO (gK 6)) (gA (gO (gTup gA0)) gA0)))) (gA (gO (gTup (gA (gO (gK 6)) (gA (gO (g2 addD (gP 7) (gO (g2 mulD (gO (gSl slD id (gP 7) gPn (gPs (gO (gv (.int 1)))))) (gO (g2 subI (gO (gv (.int 7))) (gO (gL lenD (gA (gP 7) gA0))))))))) gA0)))) (gA (gO (gTup (gA (gO (g2 mulD (gO (gTup (gA (gO (gv (.int 0))) gA0))) (gO (gv (.int 13))))) (gA (gO (gTup (gA (gO (gTup gA0)) gA0))) gA0)))) (gA (gO (gv (.str "book"))) (gA (gO gD0) (gA (gO (gv (.int 5))) gA0)))))))))) (gRet (g2 addD (gP 4) (gO (gLst (gA (gO (gTup (gA (gO (gv .none)) (gA (gO (gK 7)) gA0)))) (gA (gO (gTup (gA (gO (gK 6)) (gA (gO (gv .none)) gA0)))) (gA (gO (gTup (gA (gO (gK 6)) (gA (gO (gv (.str "ranks"))) gA0)))) (gA (gO (gTup (gA (gO (gK 7)) (gA (gO (g2 addD (gP 6) (gO (gTup (gA (gO (gv (.int 0))) gA0))))) gA0)))) gA0))))))))))))))))))
@[irreducible] noncomputable def m__law_no_books : List W → M D := fnM 11 g__law_no_books
theorem b__law_no_books (T : Facts K mg fa fd) : Body P w K mg base cl "_law_no_books" s__law_no_books (fa 13) N__law_no_books 1 g__law_no_books := by
  intro cdv A outer s H E C hr hgd hcl tk
  subst hcl
  exact (dss_cons (ds_unp (de_keep 1 (pv 1)) (dg_tup rfl (dgs_cons (dg_name sc__law_no_books.nd) (dgs_cons (dg_name sc__law_no_books.nd) dgs_nil)))) (dss_cons (ds_unp (de_tup (da_cons (do_of (de_callB p_len (by rfl) T.z_len (by decide +kernel) (da_cons (do_name 6 (pv 6)) da_nil))) (da_cons (do_of (de_call (ok__law_draw T) (hr.mono (by decide)) hgd T.g__law_draw T.F__law_draw.kp T.B__law_draw tk (dc_cons (dx_hand 0 (pv 0)) (dc_cons (dx_of (de_callB p_len (by rfl) T.z_len (by decide +kernel) (da_cons (do_name 7 (pv 7)) da_nil))) dc_nil)))) da_nil))) (dg_tup rfl (dgs_cons (dg_name sc__law_no_books.nd) (dgs_cons (dg_name sc__law_no_books.nd) dgs_nil)))) (dss_cons (ds_set sc__law_no_books.nd (de_ix (do_name 7 (pv 7)) (do_name 9 (pv 9)))) (dss_cons (ds_setW sc__law_no_books.nd (dn_lst (da_cons (do_of de_non) (da_cons (do_of (de_of (dn_callTy n_list (by rfl) T.z_list (by decide +kernel) (da_cons (do_name 2 (pv 2)) da_nil)))) (da_cons (do_of (de_bin p_add (do_name 2 (pv 2)) (do_of (de_tup (da_cons (do_of (de_keep 8 (pv 8))) da_nil))))) (da_cons (do_of (de_bin p_add (do_name 2 (pv 2)) (do_of (de_tup (da_cons (do_of (de_un p_neg (do_of de_int))) da_nil))))) (da_cons (do_of de_str) (da_cons (do_of de_int) (da_cons (do_of (de_bin p_add (do_name 2 (pv 2)) (do_of (de_tup (da_cons (do_of de_str) da_nil))))) (da_cons (do_of (de_bin p_add (do_name 2 (pv 2)) (do_of (de_tup (da_cons (do_of de_non) da_nil))))) (da_cons (do_of (de_tup (da_cons (do_of (de_keep 2 (pv 2))) da_nil))) da_nil))))))))))) (dss_cons (ds_expr (de_mut PySem.F.plainAttrs_list PySem.F.slot_list_append PySem.F.type_list_append m_append (pv 3) (da_cons (do_of (de_if (dt_cmp (p_ne hr.units) (do_name 2 (pv 2)) (do_of (de_tup da_nil)) (nomark _)) (de_bin p_add (do_name 2 (pv 2)) (do_of (de_sl (do_name 2 (pv 2)) dp_none (dp_some (do_of de_int))))) (de_tup (da_cons (do_of de_int) (da_cons (do_of de_int) da_nil))))) da_nil))) (dss_cons (ds_setLc rfl sc__law_no_books.nd rfl rfl (sw_true rfl rfl rfl (by decide +kernel)) (di_seq (de_keep 3 (pv 3))) (blkOk_by (N := N__law_no_books) (sc := defScope s__law_no_books) (own := [("one", 5)]) (by decide +kernel)) (by intro _ _ _ _ _; exact (dg_name sc__law_no_books.nd)) (by intro _ _ _ _ _; exact dts_nil) (by intro _ _ _ _ _; exact (de_tup (da_cons (do_of (de_keep 6 (pv 6))) (da_cons (do_of (de_bin p_add (do_of (de_bin p_add (do_of (de_sl (do_name 7 (pv 7)) dp_none (dp_some (do_name 9 (pv 9))))) (do_of (de_tup (da_cons (do_of (de_keep 5 (pv 5))) da_nil))))) (do_of (de_sl (do_name 7 (pv 7)) (dp_some (do_of (de_bin p_add (do_name 9 (pv 9)) (do_of de_int)))) dp_none)))) da_nil))))) (dss_cons (ds_if (dt_cmp p_gt (do_name 8 (pv 8)) (do_of de_int) (nomark _)) (dss_one (ds_expr (de_mut PySem.F.plainAttrs_list PySem.F.slot_list_append PySem.F.type_list_append m_append (pv 4) (da_cons (do_of (de_tup (da_cons (do_of (de_keep 6 (pv 6))) (da_cons (do_of (de_bin p_add (do_of (de_bin p_add (do_of (de_sl (do_name 7 (pv 7)) dp_none (dp_some (do_name 9 (pv 9))))) (do_of (de_tup (da_cons (do_of (de_tup (da_cons (do_of de_bl) da_nil))) da_nil))))) (do_of (de_sl (do_name 7 (pv 7)) (dp_some (do_of (de_bin p_add (do_name 9 (pv 9)) (do_of de_int)))) dp_none)))) da_nil)))) da_nil)))) dss_nil) (dss_cons (ds_for (passes_of rfl) rfl (di_seq (de_tup (da_cons (do_of (de_un p_neg (do_of de_int))) (da_cons (do_of (de_bin p_add (do_of (de_bin p_pow (do_of de_int) (do_of de_int))) (do_of de_int))) (da_cons (do_of de_non) (da_cons (do_of de_bl) (da_cons (do_of de_str) (da_cons (do_of (de_tup (da_cons (do_of de_int) da_nil))) (da_cons (do_of (de_of (dn_lst (da_cons (do_of de_int) da_nil)))) (da_cons (do_of (de_bin p_pow (do_of de_int) (do_of de_int))) da_nil)))))))))) (dg_name sc__law_no_books.nd) (dss_cons (ds_set sc__law_no_books.nd (de_if (dt_cmp p_gt (do_name 8 (pv 8)) (do_of de_int) (nomark _)) (de_call (ok__law_draw T) (hr.mono (by decide)) hgd T.g__law_draw T.F__law_draw.kp T.B__law_draw tk (dc_cons (dx_hand 0 (pv 0)) (dc_cons (dx_of (de_keep 8 (pv 8))) dc_nil))) de_int)) (dss_one (ds_expr (de_mut PySem.F.plainAttrs_list PySem.F.slot_list_append PySem.F.type_list_append m_append (pv 4) (da_cons (do_of (de_tup (da_cons (do_of (de_bin p_add (do_of (de_bin p_add (do_of (de_sl (do_name 6 (pv 6)) dp_none (dp_some (do_name 10 (pv 10))))) (do_of (de_tup (da_cons (do_of (de_keep 5 (pv 5))) da_nil))))) (do_of (de_sl (do_name 6 (pv 6)) (dp_some (do_of (de_bin p_add (do_name 10 (pv 10)) (do_of de_int)))) dp_none)))) (da_cons (do_of (de_keep 7 (pv 7))) da_nil)))) da_nil)))))) (dss_cons (ds_setW sc__law_no_books.nd (dn_bin n_cat (do_name 4 (pv 4)) (do_of (de_of (dn_lst (da_cons (do_of de_non) (da_cons (do_of (de_tup da_nil)) (da_cons (do_of (de_tup (da_cons (do_of (de_keep 6 (pv 6))) da_nil))) (da_cons (do_of (de_of (dn_lst (da_cons (do_of (de_keep 6 (pv 6))) (da_cons (do_of (de_keep 7 (pv 7))) da_nil))))) (da_cons (do_of (de_tup (da_cons (do_of (de_of (dn_callTy n_list (by rfl) T.z_list (by decide +kernel) (da_cons (do_name 6 (pv 6)) da_nil)))) (da_cons (do_of (de_keep 7 (pv 7))) da_nil)))) (da_cons (do_of (de_tup (da_cons (do_of (de_keep 6 (pv 6))) (da_cons (do_of (de_of (dn_callTy n_list (by rfl) T.z_list (by decide +kernel) (da_cons (do_name 7 (pv 7)) da_nil)))) da_nil)))) (da_cons (do_of (de_tup (da_cons (do_of (de_keep 6 (pv 6))) (da_cons (do_of (de_keep 7 (pv 7))) (da_cons (do_of (de_tup da_nil)) da_nil))))) da_nil)))))))))))) (dss_cons (ds_setW sc__law_no_books.nd (dn_bin n_cat (do_name 4 (pv 4)) (do_of (de_of (dn_lst (da_cons (do_of (de_tup (da_cons (do_of (de_keep 6 (pv 6))) (da_cons (do_of (de_tup da_nil)) da_nil)))) (da_cons (do_of (de_tup (da_cons (do_of (de_keep 6 (pv 6))) (da_cons (do_of (de_bin p_add (do_name 7 (pv 7)) (do_of (de_bin p_mul (do_of (de_sl (do_name 7 (pv 7)) dp_none (dp_some (do_of de_int)))) (do_of (de_bin p_sub (do_of de_int) (do_of (de_callB p_len (by rfl) T.z_len (by decide +kernel) (da_cons (do_name 7 (pv 7)) da_nil))))))))) da_nil)))) (da_cons (do_of (de_tup (da_cons (do_of (de_bin p_mul (do_of (de_tup (da_cons (do_of de_int) da_nil))) (do_of de_int))) (da_cons (do_of (de_tup (da_cons (do_of (de_tup da_nil)) da_nil))) da_nil)))) (da_cons (do_of de_str) (da_cons (do_of (de_of dn_dict0)) (da_cons (do_of de_int) da_nil))))))))))) (dss_one (ds_ret (de_bin p_add (do_name 4 (pv 4)) (do_of (de_of (dn_lst (da_cons (do_of (de_tup (da_cons (do_of de_non) (da_cons (do_of (de_keep 7 (pv 7))) da_nil)))) (da_cons (do_of (de_tup (da_cons (do_of (de_keep 6 (pv 6))) (da_cons (do_of de_non) da_nil)))) (da_cons (do_of (de_tup (da_cons (do_of (de_keep 6 (pv 6))) (da_cons (do_of de_str) da_nil)))) (da_cons (do_of (de_tup (da_cons (do_of (de_keep 7 (pv 7))) (da_cons (do_of (de_bin p_add (do_name 6 (pv 6)) (do_of (de_tup (da_cons (do_of de_int) da_nil))))) da_nil)))) da_nil))))))))))))))))))))
theorem ok__law_no_books (T : Facts K mg fa fd) : FnG P w K mg base 2 (fa 13) (fd 13) ["hand", "book"] (spD K cl 2 m__law_no_books) := by unfold m__law_no_books; exact fn_ok T.F__law_no_books sc__law_no_books (b__law_no_books T)
noncomputable def g__law_is_right : G Fl := (gSeq (gIf (gB (g2 isnD (gO (gCall 1 m_is_book (gCs (gX (gK 1)) gC0))) (gO (gv (.bool true))))) (gRet (gv (.bool false))) gNx) (gSeq (gIf (gB (gL anyD (gA (gO (gLc [3] (gSeqI (gCall 2 m__law_no_books (gCs (gHd 0) (gCs (gX (gK 1)) gC0)))) (tName 3) gYes (g2 isnD (gO (gCall 1 m_is_book (gCs (gX (gK 3)) gC0))) (gO (gv (.bool false)))))) gA0))) (gRet (gv (.bool false))) gNx) (gSeq (gSet 2 (gTup (gA (gO (g2 mulD (gO (gTup (gA (gO (g2 powI (gO (gv (.int 10))) (gO (gv (.int 12))))) gA0))) (gO (gv (.int 12))))) (gA (gO (g2 mulD (gO (gTup (gA (gO (gL tupD (gA (gO (gCall 2 m__law_mixed (gCs (gHd 0) (gCs (gX (gN1 lr1 (gO (gv (.int 12))))) gC0)))) gA0))) gA0))) (gO (gv (.int 6))))) gA0)))) (gRet (gCall 2 m__law_is (gCs (gX (gLst (gA (gO (gCall 1 m_is_book (gCs (gX (gK 2)) gC0))) (gA (gO (gCall 1 m_is_book (gCs (gX (gTup (gA (gO (g2 ixD (gP 1) (gO (gv (.int 0))))) (gA (gO (g2 mulD (gO (gTup (gA (gO (gTup gA0)) gA0))) (gO (gv (.int 6))))) gA0)))) gC0))) (gA (gO (gCall 1 m_is_book (gCs (gX (gTup (gA (gO (gTup gA0)) (gA (gO (gTup (gA (gO (gTup gA0)) gA0))) gA0)))) gC0))) gA0))))) (gCs (gX (gLst (gA (gO (gv (.bool true))) (gA (gO (gv (.bool true))) (gA (gO (gv (.bool true))) gA0))))) gC0)))))))
@[irreducible] noncomputable def m__law_is_right : List W → M D := fnM 4 g__law_is_right
theorem b__law_is_right (T : Facts K mg fa fd) : Body P w K mg base cl "_law_is_right" s__law_is_right (fa 14) N__law_is_right 4 g__law_is_right := by
  intro cdv A outer s H E C hr hgd hcl tk
  subst hcl
  exact (dss_cons (ds_if (dt_cmp p_isn (do_of (de_call (ok_is_book T) (hr.mono (by decide)) hgd T.g_is_book T.F_is_book.kp T.B_is_book tk (dc_cons (dx_of (de_keep 1 (pv 1))) dc_nil))) (do_of de_bl) (nomark _)) (dss_one (ds_ret de_bl)) dss_nil) (dss_cons (ds_if (dt_of (de_callB (p_any rfl) (by rfl) T.z_any (by decide +kernel) (da_cons (do_of (de_of (dn_lc rfl sc__law_is_right.nd (di_seq (de_call (ok__law_no_books T) (hr.mono (by decide)) hgd T.g__law_no_books T.F__law_no_books.kp T.B__law_no_books tk (dc_cons (dx_hand 0 (pv 0)) (dc_cons (dx_of (de_keep 1 (pv 1))) dc_nil)))) (blkOk_by (N := N__law_is_right) (sc := defScope s__law_is_right) (own := [("thing", 3)]) (by decide +kernel)) (by intro _ _ _ _ _; exact (dg_name sc__law_is_right.nd)) (by intro _ _ _ _ _; exact dts_nil) (by intro _ _ _ _ _; exact (de_cmp p_isn (do_of (de_call (ok_is_book T) (hr.mono (by decide)) hgd T.g_is_book T.F_is_book.kp T.B_is_book (takes_blk rfl) (dc_cons (dx_of (de_keep 3 (pv 3))) dc_nil))) (do_of de_bl) (nomark _)))))) da_nil))) (dss_one (ds_ret de_bl)) dss_nil) (dss_cons (ds_set sc__law_is_right.nd (de_tup (da_cons (do_of (de_bin p_mul (do_of (de_tup (da_cons (do_of (de_bin p_pow (do_of de_int) (do_of de_int))) da_nil))) (do_of de_int))) (da_cons (do_of (de_bin p_mul (do_of (de_tup (da_cons (do_of (de_callTy p_tuple (by rfl) T.z_tuple (by decide +kernel) (da_cons (do_of (de_call (ok__law_mixed T) (hr.mono (by decide)) hgd T.g__law_mixed T.F__law_mixed.kp T.B__law_mixed tk (dc_cons (dx_hand 0 (pv 0)) (dc_cons (dx_of (de_of (dn_lr1 rfl T.z_list T.z_range (do_of de_int)))) dc_nil)))) da_nil))) da_nil))) (do_of de_int))) da_nil)))) (dss_one (ds_ret (de_call (ok__law_is T) (hr.mono (by decide)) hgd T.g__law_is T.F__law_is.kp T.B__law_is tk (dc_cons (dx_of (de_of (dn_lst (da_cons (do_of (de_call (ok_is_book T) (hr.mono (by decide)) hgd T.g_is_book T.F_is_book.kp T.B_is_book tk (dc_cons (dx_of (de_keep 2 (pv 2))) dc_nil))) (da_cons (do_of (de_call (ok_is_book T) (hr.mono (by decide)) hgd T.g_is_book T.F_is_book.kp T.B_is_book tk (dc_cons (dx_of (de_tup (da_cons (do_of (de_ix (do_name 1 (pv 1)) (do_of de_int))) (da_cons (do_of (de_bin p_mul (do_of (de_tup (da_cons (do_of (de_tup da_nil)) da_nil))) (do_of de_int))) da_nil)))) dc_nil))) (da_cons (do_of (de_call (ok_is_book T) (hr.mono (by decide)) hgd T.g_is_book T.F_is_book.kp T.B_is_book tk (dc_cons (dx_of (de_tup (da_cons (do_of (de_tup da_nil)) (da_cons (do_of (de_tup (da_cons (do_of (de_tup da_nil)) da_nil))) da_nil)))) dc_nil))) da_nil)))))) (dc_cons (dx_of (de_of (dn_lst (da_cons (do_of de_bl) (da_cons (do_of de_bl) (da_cons (do_of de_bl) da_nil)))))) dc_nil))))))))
theorem ok__law_is_right (T : Facts K mg fa fd) : FnG P w K mg base 5 (fa 14) (fd 14) ["hand", "book"] (spD K cl 2 m__law_is_right) := by unfold m__law_is_right; exact fn_ok T.F__law_is_right sc__law_is_right (b__law_is_right T)
noncomputable def g_law : G Fl := (gSeq (gSetHand 1 (gCall 1 m__law_hand (gCs (gScr 0) gC0))) (gSeq (gSet 2 (gLst (gA (gO (gCall 1 m_is_book (gCs (gX (gTup (gA (gO (gTup (gA (gO (gv (.int 5))) (gA (gO (gv (.int 0))) gA0)))) (gA (gO (gTup (gA (gO (gTup (gA (gO (gv (.int 1))) (gA (gO (gv (.int 0))) gA0)))) (gA (gO (gTup gA0)) gA0)))) gA0)))) gC0))) (gA (gO (gCall 1 m_is_book (gCs (gX (gTup (gA (gO (gTup (gA (gO (gv (.int 5))) (gA (gO (gv (.int 0))) gA0)))) (gA (gO (gTup (gA (gO (gTup (gA (gO (gv (.int 1))) (gA (gO (gv (.int 1))) gA0)))) gA0))) gA0)))) gC0))) (gA (gO (gCall 1 m_is_book (gCs (gX (gTup (gA (gO (gTup (gA (gO (gv (.int 5))) gA0))) (gA (gO (gTup gA0)) gA0)))) gC0))) gA0))))) (gSeq (gIf (gNot (gB (gCall 2 m__law_is (gCs (gX (gK 2)) (gCs (gX (gLst (gA (gO (gv (.bool true))) (gA (gO (gv (.bool false))) (gA (gO (gv (.bool false))) gA0))))) gC0))))) (gRet (gv (.bool false))) gNx) (gRet (gL allD (gA (gO (gLc [3] (gRng rng1 (gA (gO (gv (.int 8))) gA0)) (tName 3) gYes (gCall 2 m__law_is_right (gCs (gHd 1) (gCs (gX (gCall 2 m__law_book (gCs (gHd 1) (gCs (gX (gCall 2 m__law_any (gCs (gHd 1) (gCs (gX (gLst (gA (gO (gv (.int 2))) (gA (gO (gv (.int 6))) (gA (gO (gv (.int 12))) gA0))))) gC0)))) gC0)))) gC0))))) gA0))))))
@[irreducible] noncomputable def m_law : List W → M D := fnM 4 g_law
theorem b_law (T : Facts K mg fa fd) : Body P w K mg base cl "law" s_law (fa 15) N_law 5 g_law := by
  intro cdv A outer s H E C hr hgd hcl tk
  subst hcl
  exact (dss_cons (ds_setHand sc_law.nd (dn_call (ok__law_hand T) (hr.mono (by decide)) hgd T.g__law_hand T.F__law_hand.kp T.B__law_hand tk (dc_cons (dx_scr 0 (pv 0)) dc_nil))) (dss_cons (ds_set sc_law.nd (de_of (dn_lst (da_cons (do_of (de_call (ok_is_book T) (hr.mono (by decide)) hgd T.g_is_book T.F_is_book.kp T.B_is_book tk (dc_cons (dx_of (de_tup (da_cons (do_of (de_tup (da_cons (do_of de_int) (da_cons (do_of de_int) da_nil)))) (da_cons (do_of (de_tup (da_cons (do_of (de_tup (da_cons (do_of de_int) (da_cons (do_of de_int) da_nil)))) (da_cons (do_of (de_tup da_nil)) da_nil)))) da_nil)))) dc_nil))) (da_cons (do_of (de_call (ok_is_book T) (hr.mono (by decide)) hgd T.g_is_book T.F_is_book.kp T.B_is_book tk (dc_cons (dx_of (de_tup (da_cons (do_of (de_tup (da_cons (do_of de_int) (da_cons (do_of de_int) da_nil)))) (da_cons (do_of (de_tup (da_cons (do_of (de_tup (da_cons (do_of de_int) (da_cons (do_of de_int) da_nil)))) da_nil))) da_nil)))) dc_nil))) (da_cons (do_of (de_call (ok_is_book T) (hr.mono (by decide)) hgd T.g_is_book T.F_is_book.kp T.B_is_book tk (dc_cons (dx_of (de_tup (da_cons (do_of (de_tup (da_cons (do_of de_int) da_nil))) (da_cons (do_of (de_tup da_nil)) da_nil)))) dc_nil))) da_nil)))))) (dss_cons (ds_if (dt_not (dt_of (de_call (ok__law_is T) (hr.mono (by decide)) hgd T.g__law_is T.F__law_is.kp T.B__law_is tk (dc_cons (dx_of (de_keep 2 (pv 2))) (dc_cons (dx_of (de_of (dn_lst (da_cons (do_of de_bl) (da_cons (do_of de_bl) (da_cons (do_of de_bl) da_nil)))))) dc_nil))))) (dss_one (ds_ret de_bl)) dss_nil) (dss_one (ds_ret (de_callB (p_all rfl) (by rfl) T.z_all (by decide +kernel) (da_cons (do_of (de_of (dn_lc rfl sc_law.nd (di_rng1 (by rfl) T.z_range (da_cons (do_of de_int) da_nil)) (blkOk_by (N := N_law) (sc := defScope s_law) (own := [("lap", 3)]) (by decide +kernel)) (by intro _ _ _ _ _; exact (dg_name sc_law.nd)) (by intro _ _ _ _ _; exact dts_nil) (by intro _ _ _ _ _; exact (de_call (ok__law_is_right T) (hr.mono (by decide)) hgd T.g__law_is_right T.F__law_is_right.kp T.B__law_is_right (takes_blk rfl) (dc_cons (dx_hand 1 (pv 1)) (dc_cons (dx_of (de_call (ok__law_book T) (hr.mono (by decide)) hgd T.g__law_book T.F__law_book.kp T.B__law_book (takes_blk rfl) (dc_cons (dx_hand 1 (pv 1)) (dc_cons (dx_of (de_call (ok__law_any T) (hr.mono (by decide)) hgd T.g__law_any T.F__law_any.kp T.B__law_any (takes_blk rfl) (dc_cons (dx_hand 1 (pv 1)) (dc_cons (dx_of (de_of (dn_lst (da_cons (do_of de_int) (da_cons (do_of de_int) (da_cons (do_of de_int) da_nil)))))) dc_nil)))) dc_nil)))) dc_nil))))))) da_nil)))))))
theorem ok_law (T : Facts K mg fa fd) : FnG P w K mg base 6 (fa 15) (fd 15) ["script"] (spD K cl 1 m_law) := by unfold m_law; exact fn_ok T.F_law sc_law (b_law T)
end
theorem all_mk {l : PySem.W.OpenLaw} {w : World} {K : PySem.W.Frag} {h : Heap} {mg : Str → Option Value} {fz : Addr} (X : K.In h) (G : h.Ns mainGlobals mg) (hfa : mg "law" = some (.ref fz))
    {f0 : Addr} {od0 an0 : Option Addr} {sl0 : Array (Option Value)} {oc0 kV0 dc0 pm0 cd0 ct0 : Value}
    (a0 : PySem.W.nsIn K mainGlobals "is_integer" = some (some (.ref f0))) (l0 : K.lookup f0 = some ⟨oc0, od0, .func (PySem.W.fnOf "is_integer" "is_integer" (defArgs s_is_integer) (defBody s_is_integer) (defScope s_is_integer) .none kV0 dc0 pm0 an0 cd0 ct0), sl0⟩) (c0 : PySem.W.codeIn K cd0 "is_integer" = true) (k0 : PySem.W.keepIn K (.ref f0) = true)
    {f1 : Addr} {od1 an1 : Option Addr} {sl1 : Array (Option Value)} {oc1 kV1 dc1 pm1 cd1 ct1 : Value}
    (a1 : PySem.W.nsIn K mainGlobals "is_within" = some (some (.ref f1))) (l1 : K.lookup f1 = some ⟨oc1, od1, .func (PySem.W.fnOf "is_within" "is_within" (defArgs s_is_within) (defBody s_is_within) (defScope s_is_within) .none kV1 dc1 pm1 an1 cd1 ct1), sl1⟩) (c1 : PySem.W.codeIn K cd1 "is_within" = true) (k1 : PySem.W.keepIn K (.ref f1) = true)
    {f2 : Addr} {od2 an2 : Option Addr} {sl2 : Array (Option Value)} {oc2 kV2 dc2 pm2 cd2 ct2 : Value}
    (a2 : PySem.W.nsIn K mainGlobals "is_tuple" = some (some (.ref f2))) (l2 : K.lookup f2 = some ⟨oc2, od2, .func (PySem.W.fnOf "is_tuple" "is_tuple" (defArgs s_is_tuple) (defBody s_is_tuple) (defScope s_is_tuple) .none kV2 dc2 pm2 an2 cd2 ct2), sl2⟩) (c2 : PySem.W.codeIn K cd2 "is_tuple" = true) (k2 : PySem.W.keepIn K (.ref f2) = true)
    {f3 : Addr} {od3 an3 : Option Addr} {sl3 : Array (Option Value)} {oc3 kV3 dc3 pm3 cd3 ct3 : Value}
    (a3 : PySem.W.nsIn K mainGlobals "are_unlike" = some (some (.ref f3))) (l3 : K.lookup f3 = some ⟨oc3, od3, .func (PySem.W.fnOf "are_unlike" "are_unlike" (defArgs s_are_unlike) (defBody s_are_unlike) (defScope s_are_unlike) .none kV3 dc3 pm3 an3 cd3 ct3), sl3⟩) (c3 : PySem.W.codeIn K cd3 "are_unlike" = true) (k3 : PySem.W.keepIn K (.ref f3) = true)
    {f4 : Addr} {od4 an4 : Option Addr} {sl4 : Array (Option Value)} {oc4 kV4 dc4 pm4 cd4 ct4 : Value}
    (a4 : PySem.W.nsIn K mainGlobals "are_debts" = some (some (.ref f4))) (l4 : K.lookup f4 = some ⟨oc4, od4, .func (PySem.W.fnOf "are_debts" "are_debts" (defArgs s_are_debts) (defBody s_are_debts) (defScope s_are_debts) .none kV4 dc4 pm4 an4 cd4 ct4), sl4⟩) (c4 : PySem.W.codeIn K cd4 "are_debts" = true) (k4 : PySem.W.keepIn K (.ref f4) = true)
    {f5 : Addr} {od5 an5 : Option Addr} {sl5 : Array (Option Value)} {oc5 kV5 dc5 pm5 cd5 ct5 : Value}
    (a5 : PySem.W.nsIn K mainGlobals "is_book" = some (some (.ref f5))) (l5 : K.lookup f5 = some ⟨oc5, od5, .func (PySem.W.fnOf "is_book" "is_book" (defArgs s_is_book) (defBody s_is_book) (defScope s_is_book) .none kV5 dc5 pm5 an5 cd5 ct5), sl5⟩) (c5 : PySem.W.codeIn K cd5 "is_book" = true) (k5 : PySem.W.keepIn K (.ref f5) = true)
    {f6 : Addr} {od6 an6 : Option Addr} {sl6 : Array (Option Value)} {oc6 kV6 dc6 pm6 cd6 ct6 : Value}
    (a6 : PySem.W.nsIn K mainGlobals "_law_hand" = some (some (.ref f6))) (l6 : K.lookup f6 = some ⟨oc6, od6, .func (PySem.W.fnOf "_law_hand" "_law_hand" (defArgs s__law_hand) (defBody s__law_hand) (defScope s__law_hand) .none kV6 dc6 pm6 an6 cd6 ct6), sl6⟩) (c6 : PySem.W.codeIn K cd6 "_law_hand" = true) (k6 : PySem.W.keepIn K (.ref f6) = true)
    {f7 : Addr} {od7 an7 : Option Addr} {sl7 : Array (Option Value)} {oc7 kV7 dc7 pm7 cd7 ct7 : Value}
    (a7 : PySem.W.nsIn K mainGlobals "_law_draw" = some (some (.ref f7))) (l7 : K.lookup f7 = some ⟨oc7, od7, .func (PySem.W.fnOf "_law_draw" "_law_draw" (defArgs s__law_draw) (defBody s__law_draw) (defScope s__law_draw) .none kV7 dc7 pm7 an7 cd7 ct7), sl7⟩) (c7 : PySem.W.codeIn K cd7 "_law_draw" = true) (k7 : PySem.W.keepIn K (.ref f7) = true)
    {f8 : Addr} {od8 an8 : Option Addr} {sl8 : Array (Option Value)} {oc8 kV8 dc8 pm8 cd8 ct8 : Value}
    (a8 : PySem.W.nsIn K mainGlobals "_law_any" = some (some (.ref f8))) (l8 : K.lookup f8 = some ⟨oc8, od8, .func (PySem.W.fnOf "_law_any" "_law_any" (defArgs s__law_any) (defBody s__law_any) (defScope s__law_any) .none kV8 dc8 pm8 an8 cd8 ct8), sl8⟩) (c8 : PySem.W.codeIn K cd8 "_law_any" = true) (k8 : PySem.W.keepIn K (.ref f8) = true)
    {f9 : Addr} {od9 an9 : Option Addr} {sl9 : Array (Option Value)} {oc9 kV9 dc9 pm9 cd9 ct9 : Value}
    (a9 : PySem.W.nsIn K mainGlobals "_law_is" = some (some (.ref f9))) (l9 : K.lookup f9 = some ⟨oc9, od9, .func (PySem.W.fnOf "_law_is" "_law_is" (defArgs s__law_is) (defBody s__law_is) (defScope s__law_is) .none kV9 dc9 pm9 an9 cd9 ct9), sl9⟩) (c9 : PySem.W.codeIn K cd9 "_law_is" = true) (k9 : PySem.W.keepIn K (.ref f9) = true)
    {f10 : Addr} {od10 an10 : Option Addr} {sl10 : Array (Option Value)} {oc10 kV10 dc10 pm10 cd10 ct10 : Value}
    (a10 : PySem.W.nsIn K mainGlobals "_law_mixed" = some (some (.ref f10))) (l10 : K.lookup f10 = some ⟨oc10, od10, .func (PySem.W.fnOf "_law_mixed" "_law_mixed" (defArgs s__law_mixed) (defBody s__law_mixed) (defScope s__law_mixed) .none kV10 dc10 pm10 an10 cd10 ct10), sl10⟩) (c10 : PySem.W.codeIn K cd10 "_law_mixed" = true) (k10 : PySem.W.keepIn K (.ref f10) = true)
    {f11 : Addr} {od11 an11 : Option Addr} {sl11 : Array (Option Value)} {oc11 kV11 dc11 pm11 cd11 ct11 : Value}
    (a11 : PySem.W.nsIn K mainGlobals "_law_sum" = some (some (.ref f11))) (l11 : K.lookup f11 = some ⟨oc11, od11, .func (PySem.W.fnOf "_law_sum" "_law_sum" (defArgs s__law_sum) (defBody s__law_sum) (defScope s__law_sum) .none kV11 dc11 pm11 an11 cd11 ct11), sl11⟩) (c11 : PySem.W.codeIn K cd11 "_law_sum" = true) (k11 : PySem.W.keepIn K (.ref f11) = true)
    {f12 : Addr} {od12 an12 : Option Addr} {sl12 : Array (Option Value)} {oc12 kV12 dc12 pm12 cd12 ct12 : Value}
    (a12 : PySem.W.nsIn K mainGlobals "_law_book" = some (some (.ref f12))) (l12 : K.lookup f12 = some ⟨oc12, od12, .func (PySem.W.fnOf "_law_book" "_law_book" (defArgs s__law_book) (defBody s__law_book) (defScope s__law_book) .none kV12 dc12 pm12 an12 cd12 ct12), sl12⟩) (c12 : PySem.W.codeIn K cd12 "_law_book" = true) (k12 : PySem.W.keepIn K (.ref f12) = true)
    {f13 : Addr} {od13 an13 : Option Addr} {sl13 : Array (Option Value)} {oc13 kV13 dc13 pm13 cd13 ct13 : Value}
    (a13 : PySem.W.nsIn K mainGlobals "_law_no_books" = some (some (.ref f13))) (l13 : K.lookup f13 = some ⟨oc13, od13, .func (PySem.W.fnOf "_law_no_books" "_law_no_books" (defArgs s__law_no_books) (defBody s__law_no_books) (defScope s__law_no_books) .none kV13 dc13 pm13 an13 cd13 ct13), sl13⟩) (c13 : PySem.W.codeIn K cd13 "_law_no_books" = true) (k13 : PySem.W.keepIn K (.ref f13) = true)
    {f14 : Addr} {od14 an14 : Option Addr} {sl14 : Array (Option Value)} {oc14 kV14 dc14 pm14 cd14 ct14 : Value}
    (a14 : PySem.W.nsIn K mainGlobals "_law_is_right" = some (some (.ref f14))) (l14 : K.lookup f14 = some ⟨oc14, od14, .func (PySem.W.fnOf "_law_is_right" "_law_is_right" (defArgs s__law_is_right) (defBody s__law_is_right) (defScope s__law_is_right) .none kV14 dc14 pm14 an14 cd14 ct14), sl14⟩) (c14 : PySem.W.codeIn K cd14 "_law_is_right" = true) (k14 : PySem.W.keepIn K (.ref f14) = true)
    {f15 : Addr} {od15 an15 : Option Addr} {sl15 : Array (Option Value)} {oc15 kV15 dc15 pm15 cd15 ct15 : Value}
    (a15 : PySem.W.nsIn K mainGlobals "law" = some (some (.ref f15))) (l15 : K.lookup f15 = some ⟨oc15, od15, .func (PySem.W.fnOf "law" "law" (defArgs s_law) (defBody s_law) (defScope s_law) .none kV15 dc15 pm15 an15 cd15 ct15), sl15⟩) (c15 : PySem.W.codeIn K cd15 "law" = true) (k15 : PySem.W.keepIn K (.ref f15) = true)
    (z0 : PySem.W.nsIn K mainGlobals "abs" = some none)
    (z1 : PySem.W.nsIn K mainGlobals "all" = some none)
    (z2 : PySem.W.nsIn K mainGlobals "any" = some none)
    (z3 : PySem.W.nsIn K mainGlobals "bool" = some none)
    (z4 : PySem.W.nsIn K mainGlobals "int" = some none)
    (z5 : PySem.W.nsIn K mainGlobals "isinstance" = some none)
    (z6 : PySem.W.nsIn K mainGlobals "len" = some none)
    (z7 : PySem.W.nsIn K mainGlobals "list" = some none)
    (z8 : PySem.W.nsIn K mainGlobals "min" = some none)
    (z9 : PySem.W.nsIn K mainGlobals "range" = some none)
    (z10 : PySem.W.nsIn K mainGlobals "repr" = some none)
    (z11 : PySem.W.nsIn K mainGlobals "tuple" = some none)
    {t0 : Tok} (v0 : PySem.W.nsIn K mainGlobals "MOST_DEBTS" = some (some (.int (12) t0)))
    {t1 : Tok} (v1 : PySem.W.nsIn K mainGlobals "MOST_SUM" = some (some (.int (1000000000000) t1)))
    {t2 : Tok} (v2 : PySem.W.nsIn K mainGlobals "MOST_THINGS" = some (some (.int (6) t2)))
    : ∃ fd : FuncData, (∀ (s : Shared) (v : Value), BindsTo s fd ⟨[v], []⟩ [("script", v)]) ∧ ∀ base : Heap, K.In base → base.Ns mainGlobals mg → FnG l.prog w K mg base 6 fz fd ["script"] (spD K (fun _ => none) 1 m_law) := by
  have e := (PySem.W.mg_of X G a15).symm.trans hfa
  obtain rfl : f15 = fz := by cases e; rfl
  let fa : Nat → Addr := fun i => match i with
    | 0 => f0
    | 1 => f1
    | 2 => f2
    | 3 => f3
    | 4 => f4
    | 5 => f5
    | 6 => f6
    | 7 => f7
    | 8 => f8
    | 9 => f9
    | 10 => f10
    | 11 => f11
    | 12 => f12
    | 13 => f13
    | 14 => f14
    | 15 => f15
    | _ => f0
  let fdd : Nat → FuncData := fun i => match i with
    | 0 => (PySem.W.fnOf "is_integer" "is_integer" (defArgs s_is_integer) (defBody s_is_integer) (defScope s_is_integer) .none kV0 dc0 pm0 an0 cd0 ct0)
    | 1 => (PySem.W.fnOf "is_within" "is_within" (defArgs s_is_within) (defBody s_is_within) (defScope s_is_within) .none kV1 dc1 pm1 an1 cd1 ct1)
    | 2 => (PySem.W.fnOf "is_tuple" "is_tuple" (defArgs s_is_tuple) (defBody s_is_tuple) (defScope s_is_tuple) .none kV2 dc2 pm2 an2 cd2 ct2)
    | 3 => (PySem.W.fnOf "are_unlike" "are_unlike" (defArgs s_are_unlike) (defBody s_are_unlike) (defScope s_are_unlike) .none kV3 dc3 pm3 an3 cd3 ct3)
    | 4 => (PySem.W.fnOf "are_debts" "are_debts" (defArgs s_are_debts) (defBody s_are_debts) (defScope s_are_debts) .none kV4 dc4 pm4 an4 cd4 ct4)
    | 5 => (PySem.W.fnOf "is_book" "is_book" (defArgs s_is_book) (defBody s_is_book) (defScope s_is_book) .none kV5 dc5 pm5 an5 cd5 ct5)
    | 6 => (PySem.W.fnOf "_law_hand" "_law_hand" (defArgs s__law_hand) (defBody s__law_hand) (defScope s__law_hand) .none kV6 dc6 pm6 an6 cd6 ct6)
    | 7 => (PySem.W.fnOf "_law_draw" "_law_draw" (defArgs s__law_draw) (defBody s__law_draw) (defScope s__law_draw) .none kV7 dc7 pm7 an7 cd7 ct7)
    | 8 => (PySem.W.fnOf "_law_any" "_law_any" (defArgs s__law_any) (defBody s__law_any) (defScope s__law_any) .none kV8 dc8 pm8 an8 cd8 ct8)
    | 9 => (PySem.W.fnOf "_law_is" "_law_is" (defArgs s__law_is) (defBody s__law_is) (defScope s__law_is) .none kV9 dc9 pm9 an9 cd9 ct9)
    | 10 => (PySem.W.fnOf "_law_mixed" "_law_mixed" (defArgs s__law_mixed) (defBody s__law_mixed) (defScope s__law_mixed) .none kV10 dc10 pm10 an10 cd10 ct10)
    | 11 => (PySem.W.fnOf "_law_sum" "_law_sum" (defArgs s__law_sum) (defBody s__law_sum) (defScope s__law_sum) .none kV11 dc11 pm11 an11 cd11 ct11)
    | 12 => (PySem.W.fnOf "_law_book" "_law_book" (defArgs s__law_book) (defBody s__law_book) (defScope s__law_book) .none kV12 dc12 pm12 an12 cd12 ct12)
    | 13 => (PySem.W.fnOf "_law_no_books" "_law_no_books" (defArgs s__law_no_books) (defBody s__law_no_books) (defScope s__law_no_books) .none kV13 dc13 pm13 an13 cd13 ct13)
    | 14 => (PySem.W.fnOf "_law_is_right" "_law_is_right" (defArgs s__law_is_right) (defBody s__law_is_right) (defScope s__law_is_right) .none kV14 dc14 pm14 an14 cd14 ct14)
    | 15 => (PySem.W.fnOf "law" "law" (defArgs s_law) (defBody s_law) (defScope s_law) .none kV15 dc15 pm15 an15 cd15 ct15)
    | _ => (PySem.W.fnOf "is_integer" "is_integer" (defArgs s_is_integer) (defBody s_is_integer) (defScope s_is_integer) .none kV0 dc0 pm0 an0 cd0 ct0)
  have T : Facts K mg fa fdd := {
    F_is_integer := fun_mk (st := s_is_integer) l0 c0 k0
    B_is_integer := (fun_mk (st := s_is_integer) l0 c0 k0).binds (ps := ["thing"]) fun _ _ _ _ _ _ us hl => match us, hl with | [_], _ => rfl
    g_is_integer := PySem.W.mg_of X G a0
    F_is_within := fun_mk (st := s_is_within) l1 c1 k1
    B_is_within := (fun_mk (st := s_is_within) l1 c1 k1).binds (ps := ["thing", "low", "high"]) fun _ _ _ _ _ _ us hl => match us, hl with | [_, _, _], _ => rfl
    g_is_within := PySem.W.mg_of X G a1
    F_is_tuple := fun_mk (st := s_is_tuple) l2 c2 k2
    B_is_tuple := (fun_mk (st := s_is_tuple) l2 c2 k2).binds (ps := ["thing", "low", "high"]) fun _ _ _ _ _ _ us hl => match us, hl with | [_, _, _], _ => rfl
    g_is_tuple := PySem.W.mg_of X G a2
    F_are_unlike := fun_mk (st := s_are_unlike) l3 c3 k3
    B_are_unlike := (fun_mk (st := s_are_unlike) l3 c3 k3).binds (ps := ["thing", "many"]) fun _ _ _ _ _ _ us hl => match us, hl with | [_, _], _ => rfl
    g_are_unlike := PySem.W.mg_of X G a3
    F_are_debts := fun_mk (st := s_are_debts) l4 c4 k4
    B_are_debts := (fun_mk (st := s_are_debts) l4 c4 k4).binds (ps := ["thing"]) fun _ _ _ _ _ _ us hl => match us, hl with | [_], _ => rfl
    g_are_debts := PySem.W.mg_of X G a4
    F_is_book := fun_mk (st := s_is_book) l5 c5 k5
    B_is_book := (fun_mk (st := s_is_book) l5 c5 k5).binds (ps := ["thing"]) fun _ _ _ _ _ _ us hl => match us, hl with | [_], _ => rfl
    g_is_book := PySem.W.mg_of X G a5
    F__law_hand := fun_mk (st := s__law_hand) l6 c6 k6
    B__law_hand := (fun_mk (st := s__law_hand) l6 c6 k6).binds (ps := ["script"]) fun _ _ _ _ _ _ us hl => match us, hl with | [_], _ => rfl
    g__law_hand := PySem.W.mg_of X G a6
    F__law_draw := fun_mk (st := s__law_draw) l7 c7 k7
    B__law_draw := (fun_mk (st := s__law_draw) l7 c7 k7).binds (ps := ["hand", "many"]) fun _ _ _ _ _ _ us hl => match us, hl with | [_, _], _ => rfl
    g__law_draw := PySem.W.mg_of X G a7
    F__law_any := fun_mk (st := s__law_any) l8 c8 k8
    B__law_any := (fun_mk (st := s__law_any) l8 c8 k8).binds (ps := ["hand", "some"]) fun _ _ _ _ _ _ us hl => match us, hl with | [_, _], _ => rfl
    g__law_any := PySem.W.mg_of X G a8
    F__law_is := fun_mk (st := s__law_is) l9 c9 k9
    B__law_is := (fun_mk (st := s__law_is) l9 c9 k9).binds (ps := ["told", "due"]) fun _ _ _ _ _ _ us hl => match us, hl with | [_, _], _ => rfl
    g__law_is := PySem.W.mg_of X G a9
    F__law_mixed := fun_mk (st := s__law_mixed) l10 c10 k10
    B__law_mixed := (fun_mk (st := s__law_mixed) l10 c10 k10).binds (ps := ["hand", "things"]) fun _ _ _ _ _ _ us hl => match us, hl with | [_, _], _ => rfl
    g__law_mixed := PySem.W.mg_of X G a10
    F__law_sum := fun_mk (st := s__law_sum) l11 c11 k11
    B__law_sum := (fun_mk (st := s__law_sum) l11 c11 k11).binds (ps := ["hand"]) fun _ _ _ _ _ _ us hl => match us, hl with | [_], _ => rfl
    g__law_sum := PySem.W.mg_of X G a11
    F__law_book := fun_mk (st := s__law_book) l12 c12 k12
    B__law_book := (fun_mk (st := s__law_book) l12 c12 k12).binds (ps := ["hand", "most"]) fun _ _ _ _ _ _ us hl => match us, hl with | [_, _], _ => rfl
    g__law_book := PySem.W.mg_of X G a12
    F__law_no_books := fun_mk (st := s__law_no_books) l13 c13 k13
    B__law_no_books := (fun_mk (st := s__law_no_books) l13 c13 k13).binds (ps := ["hand", "book"]) fun _ _ _ _ _ _ us hl => match us, hl with | [_, _], _ => rfl
    g__law_no_books := PySem.W.mg_of X G a13
    F__law_is_right := fun_mk (st := s__law_is_right) l14 c14 k14
    B__law_is_right := (fun_mk (st := s__law_is_right) l14 c14 k14).binds (ps := ["hand", "book"]) fun _ _ _ _ _ _ us hl => match us, hl with | [_, _], _ => rfl
    g__law_is_right := PySem.W.mg_of X G a14
    F_law := fun_mk (st := s_law) l15 c15 k15
    B_law := (fun_mk (st := s_law) l15 c15 k15).binds (ps := ["script"]) fun _ _ _ _ _ _ us hl => match us, hl with | [_], _ => rfl
    g_law := PySem.W.mg_of X G a15
    z_abs := PySem.W.mg_none_of X G z0
    z_all := PySem.W.mg_none_of X G z1
    z_any := PySem.W.mg_none_of X G z2
    z_bool := PySem.W.mg_none_of X G z3
    z_int := PySem.W.mg_none_of X G z4
    z_isinstance := PySem.W.mg_none_of X G z5
    z_len := PySem.W.mg_none_of X G z6
    z_list := PySem.W.mg_none_of X G z7
    z_min := PySem.W.mg_none_of X G z8
    z_range := PySem.W.mg_none_of X G z9
    z_repr := PySem.W.mg_none_of X G z10
    z_tuple := PySem.W.mg_none_of X G z11
    c_MOST_DEBTS := ⟨t0, PySem.W.mg_of X G v0⟩
    c_MOST_SUM := ⟨t1, PySem.W.mg_of X G v1⟩
    c_MOST_THINGS := ⟨t2, PySem.W.mg_of X G v2⟩
  }
  exact ⟨fdd 15, fun s v => .of_eq rfl, fun base _ _ => ok_law T⟩
end LK00

namespace LK00
open PySem PySem.Spec PyProof.Rows L2 DL
def withinB (x : D) (lo hi : Int) : Bool := match x with
  | .int i => decide (lo ≤ i) && decide (i ≤ hi)
  | _ => false
def tupB (x : D) (lo hi : Int) : Bool := match x with
  | .tuple xs => decide (lo ≤ xs.length) && decide ((xs.length : Int) ≤ hi)
  | _ => false
def itsD (x : D) : List D := match x with
  | .tuple xs => xs
  | _ => []
def intsD (xs : List D) : List Int := xs.filterMap fun x => match x with
  | .int i => some i
  | _ => none
theorem intsD_map (xs : List Int) : intsD (xs.map .int) = xs := by
  induction xs with
  | nil => rfl
  | cons x xs ih =>
    show x :: intsD (xs.map .int) = _
    rw [ih]
def unlikeB (x : D) (n : Int) : Bool := tupB x 0 n && ((itsD x).all fun y => withinB y 0 (n - 1)) && decide ((dkD [] (.bool true) (intsD (itsD x))).length = (itsD x).length)
def debtsB (x : D) : Bool := tupB x 0 12 && (itsD x).all fun y => withinB y 0 1000000000000
def bookB (x : D) : Bool := match x with
  | .tuple [ds, rs] => debtsB ds && (tupB rs 1 6 && (itsD rs).all fun r => unlikeB r (itsD ds).length)
  | _ => false
theorem within_eq (x : D) (lo hi : Int) : m_is_within [.d x, .d (.int lo), .d (.int hi)] = .ret (.bool (withinB x lo hi)) := by
  have h0 : m_is_integer [.d x] = .ret (.bool (match x with | .int _ => true | _ => false)) := by
    cases x <;> simp -implicitDefEqProofs [m_is_integer, fnM, g_is_integer, PyData.isInt, PyData.isBool]
  cases x with
  | int i => by_cases h1 : lo ≤ i <;> by_cases h2 : i ≤ hi <;> simp -implicitDefEqProofs [m_is_within, fnM, g_is_within, h0, withinB, h1, h2]
  | _ => simp -implicitDefEqProofs [m_is_within, fnM, g_is_within, h0, withinB]
theorem tup_eq (x : D) (lo hi : Int) : m_is_tuple [.d x, .d (.int lo), .d (.int hi)] = .ret (.bool (tupB x lo hi)) := by
  cases x with
  | tuple xs => by_cases h1 : lo ≤ xs.length <;> by_cases h2 : (xs.length : Int) ≤ hi <;> simp -implicitDefEqProofs [m_is_tuple, fnM, g_is_tuple, PyData.isTuple, tupB, h1, h2]
  | _ => simp -implicitDefEqProofs [m_is_tuple, fnM, g_is_tuple, PyData.isTuple, tupB]
theorem tupB_inv {x : D} {lo hi : Int} (h : tupB x lo hi = true) : ∃ xs, x = .tuple xs ∧ lo ≤ xs.length ∧ (xs.length : Int) ≤ hi := by
  cases x <;> simp [tupB] at h
  exact ⟨_, rfl, h.1, h.2⟩
theorem withinB_inv {x : D} {lo hi : Int} (h : withinB x lo hi = true) : ∃ i : Int, x = .int i ∧ lo ≤ i ∧ i ≤ hi := by
  cases x <;> simp [withinB] at h
  exact ⟨_, rfl, h.1, h.2⟩
theorem debts_eq (x : D) : m_are_debts [.d x] = .ret (.bool (debtsB x)) := by
  by_cases h : tupB x 0 12 = true
  · obtain ⟨xs, rfl, _, h2⟩ := tupB_inv h
    have hl : xs.length ≤ 16777216 := by omega
    simp -implicitDefEqProofs [m_are_debts, fnM, g_are_debts, tup_eq, h, hl]
    rw [lc_ret (fun y => .bool (withinB y 0 1000000000000)) rfl xs fun y _ => by simp -implicitDefEqProofs [within_eq]]
    simp -implicitDefEqProofs [bools_map, debtsB, itsD, h, Function.comp_def]
  · simp only [Bool.not_eq_true] at h
    simp -implicitDefEqProofs [m_are_debts, fnM, g_are_debts, tup_eq, h, debtsB]
theorem unlike_eq (x : D) (n : Int) (hn : n ≤ 1000) : m_are_unlike [.d x, .d (.int n)] = .ret (.bool (unlikeB x n)) := by
  by_cases h : tupB x 0 n = true
  · obtain ⟨xs, rfl, _, h2⟩ := tupB_inv h
    have hl : xs.length ≤ 16777216 := by omega
    by_cases h3 : (xs.all fun y => withinB y 0 (n - 1)) = true
    · obtain ⟨is, rfl⟩ : ∃ is : List Int, xs = is.map .int := ints_of fun y hy => by
        obtain ⟨i, hi, _⟩ := withinB_inv (List.all_eq_true.mp h3 y hy)
        exact ⟨i, hi⟩
      have hl' : is.length ≤ 16777216 := by simpa using hl
      simp -implicitDefEqProofs [m_are_unlike, fnM, g_are_unlike, tup_eq, h, hl']
      rw [lc_ret (fun y => .bool (withinB y 0 (n - 1))) rfl _ fun y _ => by simp -implicitDefEqProofs [within_eq]]
      have hT : (is.all fun x => withinB (PyData.int x) 0 (n - 1)) = true := by simpa [Function.comp_def] using h3
      have hE : ¬ ∃ x, x ∈ is ∧ withinB (PyData.int x) 0 (n - 1) = false := fun ⟨x, hx, e⟩ => by rw [List.all_eq_true.mp hT x hx] at e; cases e
      have e2 : dcD [2] (tName 2) gYes (gK 2) (gv (.bool true)) (is.map .int) [.d (.tuple (is.map .int)), .d (.int n), .un] [] = .ret (dkD [] (.bool true) is, [.d (.tuple (is.map .int)), .d (.int n), .un]) := dc_ret rfl is []
      have hN : ((dkD [] (PyData.bool true) is).length : Int) = is.length ↔ (dkD [] (PyData.bool true) is).length = is.length := by omega
      simp -implicitDefEqProofs [bools_map, unlikeB, itsD, h, hT, Function.comp_def, hl', e2, intsD_map, hE, hN]
    · simp only [Bool.not_eq_true] at h3
      simp -implicitDefEqProofs [m_are_unlike, fnM, g_are_unlike, tup_eq, h, hl]
      rw [lc_ret (fun y => .bool (withinB y 0 (n - 1))) rfl _ fun y _ => by simp -implicitDefEqProofs [within_eq]]
      have h3' : (xs.all fun y => withinB y 0 (n - 1)) = false := h3
      simp -implicitDefEqProofs [bools_map, unlikeB, itsD, h, h3', Function.comp_def]
  · simp only [Bool.not_eq_true] at h
    simp -implicitDefEqProofs [m_are_unlike, fnM, g_are_unlike, tup_eq, h, unlikeB]
theorem book_eq (x : D) : m_is_book [.d x] = .ret (.bool (bookB x)) := by
  by_cases h : tupB x 2 2 = true
  · obtain ⟨xs, rfl, h1, h2⟩ := tupB_inv h
    obtain ⟨ds, rs, rfl⟩ : ∃ a b, xs = [a, b] := by
      match xs, h1, h2 with
      | [a, b], _, _ => exact ⟨a, b, rfl⟩
      | [], h1, _ => simp at h1
      | [_], h1, _ => simp at h1
      | _ :: _ :: _ :: _, _, h2 => simp at h2; omega
    by_cases h3 : debtsB ds = true
    · have h3' := h3
      unfold debtsB at h3'
      simp only [Bool.and_eq_true] at h3'
      obtain ⟨dl, rfl, _, hd⟩ := tupB_inv h3'.1
      by_cases h4 : tupB rs 1 6 = true
      · obtain ⟨rl, rfl, _, hr⟩ := tupB_inv h4
        have hl : rl.length ≤ 16777216 := by omega
        have hd' : (dl.length : Int) ≤ 1000 := by omega
        simp -implicitDefEqProofs [m_is_book, fnM, g_is_book, tup_eq, h, hl, debts_eq, h3, h4]
        rw [lc_ret (fun y => .bool (unlikeB y dl.length)) rfl _ fun y _ => by simp -implicitDefEqProofs [unlike_eq _ _ hd']]
        simp -implicitDefEqProofs [bools_map, bookB, itsD, h3, h4, Function.comp_def]
      · simp only [Bool.not_eq_true] at h4
        simp -implicitDefEqProofs [m_is_book, fnM, g_is_book, tup_eq, h, debts_eq, h3, h4, bookB]
    · simp only [Bool.not_eq_true] at h3
      simp -implicitDefEqProofs [m_is_book, fnM, g_is_book, tup_eq, h, debts_eq, h3, bookB]
  · simp only [Bool.not_eq_true] at h
    have e : bookB x = false := by
      unfold bookB
      split
      · simp [tupB] at h
      · rfl
    simp -implicitDefEqProofs [m_is_book, fnM, g_is_book, tup_eq, h, e]
/-! ### draws -/
theorem draw_eq {n : Int} (h0 : 0 < n) (h1 : n < 1267650600228229401496703205376) : drawM [.hand, .d (.int n)] = .draw n fun i => .ret (.int i) := by
  show (if _ then _ else _) = _
  rw [if_pos ⟨h0, h1⟩]
theorem any_wp {xs : List D} {Q : D → Prop} {E : Exc → Prop} (h0 : 0 < xs.length) (h1 : xs.length < 1000000) (h : ∀ x ∈ xs, Q x) : (m__law_any [.hand, .d (.list xs)]).wp Q E := by
  simp -implicitDefEqProofs [m__law_any, fnM, g__law_any, draw_eq (n := xs.length) (by omega) (by omega)]
  intro i i0 i1
  have e : atI xs i = some xs[i.toNat] := by rw [atI_in i0 (by omega)]; exact List.getElem?_eq_getElem (by omega)
  simp -implicitDefEqProofs [e]
  exact h _ (List.getElem_mem _)
theorem mixed_wp {is : List Int} {Q : D → Prop} {E : Exc → Prop} (h1 : is.length < 100000) (h : ∀ js : List Int, js.Perm is → Q (.list (js.map .int))) : (m__law_mixed [.hand, .d (.list (is.map .int))]).wp Q E := by
  simp -implicitDefEqProofs [m__law_mixed, fnM, g__law_mixed]
  simp only [M.wp_bind]
  refine M.wp_mono (while_wp (fun n ρ => ∃ ls js : List Int, ls.length = n ∧ (ls ++ js).Perm is ∧ ρ = [.hand, .d (.list (is.map .int)), .own 0 (.list (ls.map .int)), .own 0 (.list (js.map .int))]) (fun ρ => ∃ js : List Int, js.Perm is ∧ ρ = [.hand, .d (.list (is.map .int)), .own 0 (.list []), .own 0 (.list (js.map .int))]) ?_ FUEL is.length _ (Nat.lt_trans h1 (by decide)) ⟨is, [], rfl, by simp, rfl⟩) ?_ fun _ z => z
  · rintro n ρ ⟨ls, js, hl, hp, rfl⟩
    have hlen : ls.length + js.length = is.length := by simpa using hp.length_eq
    cases n with
    | zero =>
      obtain rfl := List.eq_nil_of_length_eq_zero hl
      have := neD_nil []
      simp at this
      simp -implicitDefEqProofs [this]
      exact ⟨js, by simpa using hp, rfl⟩
    | succ m =>
      have hne : ls ≠ [] := by rintro rfl; simp at hl
      have hm : m + 1 = ls.length := hl.symm
      simp -implicitDefEqProofs [neD_nil, hne, draw_eq (n := ls.length) (by omega) (by omega), wp_draw]
      intro i i0 i1
      have e : ixN ls.length i = some i.toNat := ixN_in i0 (by omega)
      have hk : i.toNat < ls.length := by omega
      have c1 : ls.length ≤ LIM := by rw [lim_is]; omega
      have c2 : js.length + 1 ≤ LIM := by rw [lim_is]; omega
      simp -implicitDefEqProofs [e, List.getElem?_eq_getElem hk, c1, c2, erase_map]
      refine ⟨ls.eraseIdx i.toNat, by rw [List.length_eraseIdx_of_lt hk]; omega, js ++ [ls[i.toNat]], ?_, by simp⟩
      refine List.Perm.trans ?_ hp
      have hq : (ls[i.toNat] :: ls.eraseIdx i.toNat).Perm ls := erase_perm hk
      refine List.Perm.trans ?_ (hq.append_right js)
      rw [← List.append_assoc]
      exact List.perm_append_singleton _ _
  · rintro ⟨f, ρ⟩ ⟨e, js, hp, rfl⟩
    cases e
    simp -implicitDefEqProofs
    exact h js hp
end LK00

namespace LK00
open PySem PySem.Spec PyProof.Rows L2 DL
theorem sum_wp {Q : D → Prop} {E : Exc → Prop} (h : ∀ i : Int, 0 ≤ i → i ≤ 1000000000000 → Q (.int i)) : (m__law_sum [.hand]).wp Q E := by
  simp -implicitDefEqProofs [m__law_sum, fnM, g__law_sum, draw_eq (n := 5) (by omega) (by omega), draw_eq (n := 100) (by omega) (by omega), draw_eq (n := 1000000) (by omega) (by omega), wp_draw, M.wp_bind]
  intro a a0 a1 b b0 b1 c c0 c1
  refine @any_wp _ _ _ ?_ ?_ ?_
  · simp
  · simp
  intro x hx
  simp at hx
  rcases hx with rfl | rfl | rfl | rfl | rfl | rfl <;> exact h _ (by omega) (by omega)
def bookD (ds : List Int) (rs : List (List Int)) : D := .tuple [.tuple (ds.map .int), .tuple (rs.map fun r => .tuple (r.map .int))]
structure BookP (ds : List Int) (rs : List (List Int)) : Prop where
  dl : ds.length ≤ 12
  dv : ∀ x ∈ ds, 0 ≤ x ∧ x ≤ 1000000000000
  r0 : 0 < rs.length
  r1 : rs.length ≤ 6
  rv : ∀ r ∈ rs, r.length ≤ ds.length ∧ r.Nodup ∧ ∀ x ∈ r, 0 ≤ x ∧ x < ds.length
theorem bk_wp {most : Int} {Q : D → Prop} {E : Exc → Prop} (h0 : 0 ≤ most) (h1 : most ≤ 12) (h : ∀ ds rs, BookP ds rs → Q (bookD ds rs)) : (m__law_book [.hand, .d (.int most)]).wp Q E := by
  simp -implicitDefEqProofs [m__law_book, fnM, g__law_book, M.wp_bind]
  refine @any_wp _ _ _ ?_ ?_ ?_
  · simp
  · simp
  intro x hx
  obtain ⟨m, rfl, m0, m1⟩ : ∃ m : Int, x = .int m ∧ 0 ≤ m ∧ m ≤ 12 := by
    simp at hx
    rcases hx with rfl | rfl | rfl | rfl | rfl | rfl | rfl <;> exact ⟨_, rfl, by omega, by omega⟩
  simp -implicitDefEqProofs
  obtain ⟨t, ht⟩ : ∃ t : Int, t = (if most < m then most else m) := ⟨_, rfl⟩
  have t0 : 0 ≤ t ∧ t ≤ 12 := by rw [ht]; split <;> omega
  have c1 : t < 4611686018427387904 ∧ -4611686018427387904 ≤ t := by omega
  have c2 : t.toNat ≤ 16777216 := by omega
  simp -implicitDefEqProofs only [← ht]
  simp -implicitDefEqProofs [c1, c2, M.wp_bind]
  refine lcn_wp (fun y => ∃ i : Int, y = .int i ∧ 0 ≤ i ∧ i ≤ 1000000000000) rfl ?_ ?_
  · intro x hx
    simp -implicitDefEqProofs [M.wp_bind]
    refine @sum_wp _ _ ?_
    intro i i0 i1
    simp
    omega
  intro ys hl hy
  obtain ⟨ds, rfl⟩ : ∃ ds : List Int, ys = ds.map .int := ints_of fun y h => by
    obtain ⟨i, e, _⟩ := hy y h
    exact ⟨i, e⟩
  have hd : ds.length ≤ 12 := by simp at hl; omega
  have hv : ∀ x ∈ ds, 0 ≤ x ∧ x ≤ 1000000000000 := fun x hx => by
    obtain ⟨i, e, h⟩ := hy (.int x) (List.mem_map.mpr ⟨x, hx, rfl⟩)
    cases e
    exact h
  simp -implicitDefEqProofs [M.wp_bind, draw_eq (n := 6) (by omega) (by omega), wp_draw]
  intro c c0 c1
  have c3 : 1 + c < 4611686018427387904 ∧ -4611686018427387904 ≤ 1 + c := by omega
  simp -implicitDefEqProofs [c3]
  refine forn_wp (fun k ρ => ∃ (rs : List (List Int)) (w5 w6 : W), rs.length = k ∧ (∀ r ∈ rs, r.length ≤ ds.length ∧ r.Nodup ∧ ∀ x ∈ r, 0 ≤ x ∧ x < ds.length) ∧ ρ = [.hand, .d (.int most), .d (.int m), .d (.tuple (ds.map .int)), .own 0 (.list (rs.map fun r => .tuple (r.map .int))), w5, w6, .un]) ⟨[], _, _, rfl, fun _ h => (by cases h), rfl⟩ ?_ ?_
  · rintro k x ρ hkl hx ⟨rs, w5, w6, hk, hr, rfl⟩
    have hk' : k < 100 := by simp at hkl; omega
    have c4 : -4611686018427387904 ≤ (ds.length : Int) ∧ (ds.length : Int) ≤ 16777216 := by omega
    simp -implicitDefEqProofs [M.wp_bind, c4, intsFrom_ifr]
    refine @mixed_wp _ _ _ ?_ ?_
    · simp; omega
    intro js hp
    have hl : js.length = ds.length := by simpa using hp.length_eq
    simp -implicitDefEqProofs [M.wp_bind, draw_eq (n := js.length + 1) (by omega) (by omega), wp_draw]
    intro b b0 b1
    refine @any_wp _ _ _ ?_ ?_ ?_
    · simp
    · simp
    intro x hx
    obtain ⟨q, rfl, q0, q1⟩ : ∃ q : Int, x = .int q ∧ 0 ≤ q ∧ q ≤ js.length := by
      simp at hx
      rcases hx with rfl | rfl <;> exact ⟨_, rfl, by omega, by omega⟩
    have c5 : rs.length + 1 ≤ LIM := by rw [lim_is]; omega
    simp -implicitDefEqProofs [M.wp_bind, cutD_to _ q0, c5]
    refine ⟨rs ++ [js.take q.toNat], by simp [hk], ?_, by simp [List.map_take]⟩
    intro r hr'
    rcases List.mem_append.mp hr' with h | h
    · exact hr r h
    · simp at h
      subst h
      refine ⟨by simp; omega, (List.take_sublist _ _).nodup (hp.nodup_iff.mpr (ifr_nodup _ _)), fun x hx => ?_⟩
      have := mem_ifr.mp (hp.mem_iff.mp (List.mem_of_mem_take hx))
      omega
  · rintro ρ ⟨rs, w5, w6, hk, hr, rfl⟩
    simp -implicitDefEqProofs
    refine h ds rs ⟨hd, hv, ?_, ?_, hr⟩
    · simp at hk; omega
    · simp at hk; omega
end LK00

namespace LK00
open PySem PySem.Spec PyProof.Rows L2 DL
/-! ### what is no book -/
theorem bad_row {dl rl : List D} {x : D} (h : x ∈ rl) (hu : unlikeB x dl.length = false) : bookB (.tuple [.tuple dl, .tuple rl]) = false := by
  have : (rl.all fun r => unlikeB r dl.length) = false := by
    rw [List.all_eq_false]
    exact ⟨x, h, by simp [hu]⟩
  simp [bookB, itsD, this]
theorem bad_debts {d r : D} (h : debtsB d = false) : bookB (.tuple [d, r]) = false := by simp [bookB, h]
theorem bad_ranks {d r : D} (h : tupB r 1 6 = false) : bookB (.tuple [d, r]) = false := by simp [bookB, h]
theorem bad_debt {dl : List D} {y r : D} (h : y ∈ dl) (hy : withinB y 0 1000000000000 = false) : bookB (.tuple [.tuple dl, r]) = false := by
  have : (dl.all fun y => withinB y 0 1000000000000) = false := by
    rw [List.all_eq_false]
    exact ⟨y, h, by simp [hy]⟩
  exact bad_debts (by simp [debtsB, itsD, this])
theorem un_in {xs : List D} {y : D} {n : Int} (h : y ∈ xs) (hy : withinB y 0 (n - 1) = false) : unlikeB (.tuple xs) n = false := by
  have : (xs.all fun y => withinB y 0 (n - 1)) = false := by
    rw [List.all_eq_false]
    exact ⟨y, h, by simp [hy]⟩
  simp [unlikeB, itsD, this]
theorem un_dup {is : List Int} {n : Int} (h : ¬ is.Nodup) : unlikeB (.tuple (is.map .int)) n = false := by
  have : ¬ (dkD [] (PyData.bool true) is).length = is.length := fun e => h ((dk_len _ _).mp e)
  simp [unlikeB, itsD, intsD_map, this]
def dupD (row : List Int) : D := .tuple ((if row = [] then [0, 0] else row ++ row.take 1).map .int)
theorem dup_bad (row : List Int) (n : Int) : unlikeB (dupD row) n = false := by
  refine un_dup ?_
  cases row with
  | nil => simp
  | cons a r => simp
theorem dup_eq {row : List Int} {ρ : Rho} (h : ρ[2]? = some (.d (.tuple (row.map .int)))) (hl : row.length < 1000) : gIf (gB (g2 neD (gP 2) (gO (gTup gA0)))) (g2 addD (gP 2) (gO (gSl slD id (gP 2) gPn (gPs (gO (gv (.int 1))))))) (gTup (gA (gO (gv (.int 0))) (gA (gO (gv (.int 0))) gA0))) ρ = .ret (dupD row, ρ) := by
  have hR : Rdy ρ := rfl
  cases row with
  | nil =>
    have := neD_unit []
    simp at this h
    simp -implicitDefEqProofs [hR, h, this, dupD]
  | cons a r =>
    have := neD_unit (a :: r)
    have hl' : r.length + 1 + 1 ≤ LIM := by rw [lim_is]; simp at hl; omega
    simp at this h
    simp -implicitDefEqProofs [hR, h, this, dupD, cutD_to, hl']
abbrev noR (ds : List Int) (rs : List (List Int)) (row : List Int) (at_ : Int) (w3 w4 w5 w10 : W) : Rho := [.hand, .d (.tuple [.tuple (ds.map .int), .tuple (rs.map fun r => .tuple (r.map .int))]), .d (.tuple (row.map .int)), w3, w4, w5, .d (.tuple (ds.map .int)), .d (.tuple (rs.map fun r => .tuple (r.map .int))), .d (.int ds.length), .d (.int at_), w10]
def badsD (ds row : List Int) : List D := [PyData.none, PyData.list (List.map PyData.int row),
                            PyData.tuple (List.map PyData.int row ++ [PyData.int ↑ds.length]),
                            PyData.tuple (List.map PyData.int row ++ [PyData.int (-1)]), PyData.str (Str.ofString "0"),
                            PyData.int 0, PyData.tuple (List.map PyData.int row ++ [PyData.str (Str.ofString "0")]),
                            PyData.tuple (List.map PyData.int row ++ [PyData.none]),
                            PyData.tuple [PyData.tuple (List.map PyData.int row)], dupD row]
theorem badsD_bad (ds row : List Int) : ∀ x ∈ badsD ds row, unlikeB x ds.length = false := by
  intro x hx
  simp only [badsD, List.mem_cons, List.not_mem_nil, or_false] at hx
  rcases hx with rfl | rfl | rfl | rfl | rfl | rfl | rfl | rfl | rfl | rfl
  · rfl
  · rfl
  · exact un_in (y := .int ds.length) (by simp) (by simp [withinB]; omega)
  · exact un_in (y := .int (-1)) (by simp) (by simp [withinB])
  · rfl
  · rfl
  · exact un_in (y := .str (Str.ofString "0")) (by simp) rfl
  · exact un_in (y := .none) (by simp) rfl
  · exact un_in (y := .tuple (row.map .int)) (by simp) rfl
  · exact dup_bad row _
theorem no_wp {ds : List Int} {rs : List (List Int)} {Q : D → Prop} {E : Exc → Prop} (B : BookP ds rs) (h : ∀ xs : List D, xs.length < 1000 → (∀ x ∈ xs, bookB x = false) → Q (.list xs)) : (m__law_no_books [.hand, .d (bookD ds rs)]).wp Q E := by
  have hd := B.dl
  have hr0 := B.r0
  have hr1 := B.r1
  simp -implicitDefEqProofs [m__law_no_books, fnM, g__law_no_books, bookD, draw_eq (n := rs.length) (by omega) (by omega), wp_draw]
  intro at_ a0 a1
  have ha : at_.toNat < rs.length := by omega
  have e1 : atI (rs.map fun r => PyData.tuple (r.map .int)) at_ = some (.tuple (rs[at_.toNat].map .int)) := by
    rw [atI_in a0 (by simpa using a1)]
    simp [ha]
  obtain ⟨row, hrow⟩ : ∃ row, row = rs[at_.toNat] := ⟨_, rfl⟩
  have hrm : row ∈ rs := hrow ▸ List.getElem_mem ha
  rw [← hrow] at e1
  obtain ⟨rl, rn, rb⟩ := B.rv row hrm
  have c1 : row.length + 1 ≤ LIM := by rw [lim_is]; omega
  have c2 : row.length < 1000 := by omega
  have d1 := fun (ρ : Rho) h => dup_eq (row := row) (ρ := ρ) h c2
  have c3 : (9 : Nat) + 1 ≤ LIM := by rw [lim_is]; omega
  simp -implicitDefEqProofs [-gIf_ap, e1, c1, d1, c3]
  have e5 : [PyData.none, PyData.list (List.map PyData.int row),
                            PyData.tuple (List.map PyData.int row ++ [PyData.int ↑ds.length]),
                            PyData.tuple (List.map PyData.int row ++ [PyData.int (-1)]), PyData.str (Str.ofString "0"),
                            PyData.int 0, PyData.tuple (List.map PyData.int row ++ [PyData.str (Str.ofString "0")]),
                            PyData.tuple (List.map PyData.int row ++ [PyData.none]),
                            PyData.tuple [PyData.tuple (List.map PyData.int row)], dupD row] = badsD ds row := rfl
  rw [e5]
  simp only [M.wp_bind]
  have c4 : rs.length + 1 ≤ LIM := by rw [lim_is]; omega
  have c6 : min at_.toNat rs.length + 1 ≤ LIM := by rw [lim_is]; omega
  have c7 : min at_.toNat rs.length + 1 + (rs.length - (at_ + 1).toNat) ≤ LIM := by rw [lim_is]; omega
  refine lcn_wp (fun y => bookB y = false) rfl ?_ ?_
  · intro x hx
    have hu := badsD_bad ds row x hx
    simp -implicitDefEqProofs [cutD_to _ a0, cutD_from _ (show 0 ≤ at_ + 1 by omega), c6, c7]
    exact bad_row (x := x) (by simp) (by simpa using hu)
  intro ys hyl hyb
  have hyl' : ys.length ≤ 10 := by simp [badsD] at hyl; omega
  simp -implicitDefEqProofs [-gIf_ap, M.wp_bind]
  refine M.wp_mono (Q := fun r => r.1 = .nx ∧ ∃ zs : List D, zs.length ≤ 11 ∧ (∀ y ∈ zs, bookB y = false) ∧ r.2 = noR ds rs row at_ (.d (.list (badsD ds row))) (.own 0 (.list zs)) .un .un) ?_ ?_ (fun _ z => z)
  · by_cases hm : 1 < ds.length
    · have hm' : (1 : Int) < ds.length := by omega
      have c8 : ys.length + 1 ≤ LIM := by rw [lim_is]; omega
      simp -implicitDefEqProofs [hm', cutD_to _ a0, cutD_from _ (show 0 ≤ at_ + 1 by omega), c6, c7, c8]
      refine ⟨by omega, fun y hy => ?_⟩
      rcases hy with hy | rfl
      · exact hyb y hy
      · exact bad_row (x := .tuple [.bool true]) (by simp) (un_in (y := .bool true) (by simp) rfl)
    · have hm' : ¬ (1 : Int) < ds.length := by omega
      simp -implicitDefEqProofs [hm']
      exact ⟨by omega, hyb⟩
  rintro ⟨f, ρ⟩ ⟨e, zs, hzl, hzb, rfl⟩
  cases e
  simp -implicitDefEqProofs [-gIf_ap, M.wp_bind]
  refine forn_wp (fun k ρ => ∃ (zs : List D) (w5 w10 : W), zs.length ≤ 11 + k ∧ (∀ y ∈ zs, bookB y = false) ∧ ρ = noR ds rs row at_ (.d (.list (badsD ds row))) (.own 0 (.list zs)) w5 w10) ⟨zs, _, _, hzl, hzb, rfl⟩ ?_ ?_
  · rintro k x ρ hk hx ⟨zs, w5, w10, hzl, hzb, rfl⟩
    have hk' : k < 8 := by simpa using hk
    have hw : withinB x 0 1000000000000 = false := by
      simp at hx
      rcases hx with rfl | rfl | rfl | rfl | rfl | rfl | rfl | rfl <;> rfl
    have fin : ∀ spot : Int, 0 ≤ spot → bookB (.tuple [.tuple (cutD (ds.map .int) none (some spot) ++ [x] ++ cutD (ds.map .int) (some (spot + 1)) none), .tuple (rs.map fun r => .tuple (r.map .int))]) = false := fun spot _ => bad_debt (y := x) (by simp) hw
    have c8 : zs.length + 1 ≤ LIM := by rw [lim_is]; omega
    by_cases hm : 0 < ds.length
    · have hm' : (0 : Int) < ds.length := by omega
      simp -implicitDefEqProofs [hm', hm, M.wp_bind, draw_eq (n := ds.length) (by omega) (by omega), wp_draw]
      intro i i0 i1
      have fi := fin i i0
      have c9 : min i.toNat ds.length + 1 ≤ LIM := by rw [lim_is]; omega
      have c10 : min i.toNat ds.length + 1 + (ds.length - (i + 1).toNat) ≤ LIM := by rw [lim_is]; omega
      rw [cutD_to _ i0, cutD_from _ (show 0 ≤ i + 1 by omega)] at fi
      simp -implicitDefEqProofs [cutD_to _ i0, cutD_from _ (show 0 ≤ i + 1 by omega), c8, c9, c10]
      refine ⟨by omega, fun y hy => ?_⟩
      rcases hy with hy | rfl
      · exact hzb y hy
      · simpa using fi
    · obtain rfl : ds = [] := List.eq_nil_of_length_eq_zero (by omega)
      have fi := fin 0 (by decide)
      have c11 : (1 : Nat) ≤ LIM := by rw [lim_is]; decide
      simp -implicitDefEqProofs [M.wp_bind, c8, c11, cutD_to, cutD_from] at fi ⊢
      refine ⟨by omega, fun y hy => ?_⟩
      rcases hy with hy | rfl
      · exact hzb y hy
      · exact fi
  rintro ρ ⟨zs, w5, w10, hzl, hzb, rfl⟩
  simp at hzl
  have c12 : (zs.length + 7 ≤ LIM ∧ zs.length + 7 + 6 ≤ LIM ∧ zs.length + 7 + 6 + 4 ≤ LIM) ∧ ds.length + 1 ≤ LIM := by rw [lim_is]; omega
  have c13 : -1000 ≤ (7 : Int) - rs.length ∧ (7 : Int) - rs.length ≤ 1000 := by omega
  have c14 : (repD ((rs.map fun r => PyData.tuple (r.map .int)).take 1) (7 - rs.length)).length + rs.length = 7 := by
    have e : (7 - (rs.length : Int)).toNat = 7 - rs.length := by omega
    simp [repD, e]
    rw [Nat.min_eq_left (by omega : 1 ≤ rs.length)]
    omega
  have c15 : min 1 rs.length ≤ 1000 := by omega
  have c16 : rs.length + (repD ((rs.map fun r => PyData.tuple (r.map .int)).take 1) (7 - rs.length)).length ≤ LIM := by rw [lim_is]; omega
  simp -implicitDefEqProofs [M.wp_bind, cutD_to, c12, c13, c15, c16]
  refine h _ (by simp; omega) fun x hx => ?_
  rcases List.mem_append.mp hx with hx | hx
  · exact hzb x hx
  simp only [List.mem_cons, List.not_mem_nil, or_false] at hx
  rcases hx with rfl | rfl | rfl | rfl | rfl | rfl | rfl | rfl | rfl | rfl | rfl | rfl | rfl | rfl | rfl | rfl | rfl
  · rfl
  · rfl
  · rfl
  · rfl
  · exact bad_debts rfl
  · exact bad_ranks rfl
  · rfl
  · exact bad_ranks rfl
  · refine bad_ranks ?_
    simp [tupB]
    omega
  · exact bad_debts (by decide)
  · rfl
  · rfl
  · rfl
  · exact bad_debts rfl
  · exact bad_ranks rfl
  · exact bad_ranks rfl
  · cases rs with
    | nil => simp at hr0
    | cons r rs => exact bad_debt (y := .tuple (r.map .int)) (by simp) rfl
end LK00

namespace LK00
open PySem PySem.Spec PyProof.Rows L2 DL
theorem book_ok {ds : List Int} {rs : List (List Int)} (B : BookP ds rs) : bookB (bookD ds rs) = true := by
  have h1 : debtsB (.tuple (ds.map .int)) = true := by
    simp [debtsB, tupB, itsD, withinB]
    exact ⟨by have := B.dl; omega, B.dv⟩
  have h2 : tupB (.tuple (rs.map fun r => PyData.tuple (r.map .int))) 1 6 = true := by
    have := B.r0
    have := B.r1
    simp [tupB]
    omega
  have h3 : ∀ r ∈ rs, unlikeB (.tuple (r.map .int)) ds.length = true := fun r hr => by
    obtain ⟨a, b, c⟩ := B.rv r hr
    have e := (dk_len (.bool true) r).mpr b
    simp [unlikeB, tupB, itsD, withinB, intsD_map, e]
    exact ⟨a, fun x hx => ⟨(c x hx).1, by have := (c x hx).2; omega⟩⟩
  simp [bookB, bookD, h1, h2, itsD]
  exact h3
theorem lawis_eq {x : D} (h1 : shal 20 x = true) (h2 : x.showable = true) (h3 : x.shown.length ≤ LIM) : m__law_is [.d x, .d x] = .ret (.bool true) := by
  simp -implicitDefEqProofs [m__law_is, fnM, g__law_is, is_same h1 h2 h3]
theorem right_wp {ds : List Int} {rs : List (List Int)} {Q : D → Prop} {E : Exc → Prop} (B : BookP ds rs) (h : Q (.bool true)) : (m__law_is_right [.hand, .d (bookD ds rs)]).wp Q E := by
  have b1 := book_ok B
  simp -implicitDefEqProofs [m__law_is_right, fnM, g__law_is_right, book_eq, b1, M.wp_bind]
  refine @no_wp ds rs _ _ ?_ ?_
  · exact B
  intro xs hl hb
  have c1 : xs.length ≤ 16777216 := by omega
  simp -implicitDefEqProofs [M.wp_bind, c1]
  rw [lc_ret (fun _ => .bool false) rfl _ fun y hy => by simp -implicitDefEqProofs [book_eq, hb y hy]]
  have e1 : boolsOf (xs.map fun _ => PyData.bool false) = some (xs.map fun _ => false) := bools_map (fun _ => false) xs
  have e2 : (xs.map fun _ => false).any id = false := by simp
  simp -implicitDefEqProofs [e1, e2, M.wp_bind, intsFrom_ifr]
  refine @mixed_wp (ifr 0 12) _ _ ?_ ?_
  · simp
  intro js hp
  have jl : js.length = 12 := by simpa using hp.length_eq
  have jn : js.Nodup := hp.nodup_iff.mpr (ifr_nodup _ _)
  have jv : ∀ x ∈ js, 0 ≤ x ∧ x < 12 := fun x hx => by
    have := mem_ifr.mp (hp.mem_iff.mp hx)
    omega
  have b2 : bookB (.tuple [.tuple (repD [.int 1000000000000] 12), .tuple (repD [.tuple (js.map .int)] 6)]) = true := by
    have := book_ok (ds := List.replicate 12 1000000000000) (rs := List.replicate 6 js) ⟨by simp, fun x hx => by rw [List.eq_of_mem_replicate hx]; decide, by simp, by simp, fun r hr => by rw [List.eq_of_mem_replicate hr]; exact ⟨by simp [jl], jn, by simpa using jv⟩⟩
    simpa [bookD, repD] using this
  have b3 : bookB (.tuple [.tuple (ds.map .int), .tuple (repD [.tuple []] 6)]) = true := by
    have := book_ok (ds := ds) (rs := List.replicate 6 []) ⟨B.dl, B.dv, by simp, by simp, fun r hr => by rw [List.eq_of_mem_replicate hr]; exact ⟨by simp, by simp, by simp⟩⟩
    simpa [bookD, repD] using this
  have b4 : bookB (.tuple [.tuple [], .tuple [.tuple []]]) = true := by
    have := book_ok (ds := []) (rs := [[]]) ⟨by simp, by simp, by simp, by simp, by simp⟩
    simpa [bookD] using this
  have e3 : m__law_is [.d (.list [.bool true, .bool true, .bool true]), .d (.list [.bool true, .bool true, .bool true])] = .ret (.bool true) := lawis_eq rfl rfl (by decide +kernel)
  simp -implicitDefEqProofs [M.wp_bind, book_eq, b2]
  have e4 : ixD (bookD ds rs) (.int 0) = some (.tuple (ds.map .int)) := by simp [bookD]
  simp -implicitDefEqProofs [e4, b3, b4, e3]
  exact h
theorem hand_eq (ns : List Int) (hn : ns.length ≤ 63) : ∃ xs : List D, m__law_hand [.scr ns] = .ret (.list xs) ∧ HandD xs := by
  have c1 : min 60 ns.length ≤ 16777216 := by omega
  have q : ∀ a : Int, mulC 11 a = true := fun a => mulC_left (by decide) (by decide)
  refine ⟨[.list (((ns.take 60).map fun i : Int => (if i < 0 then -i else i) % 10 ^ 42).map .int), .int 0, .int 0, .int (70500 + 11 * (min 60 ns.length : Nat)), .int 0], ?_, ?_⟩
  · simp -implicitDefEqProofs [m__law_hand, fnW, g__law_hand, cutD_to, c1]
    rw [lc_ret (fun y => match y with | .int i => .int ((if i < 0 then -i else i) % 10 ^ 42) | _ => .none) rfl _ fun y hy => by
      obtain ⟨i, _, rfl⟩ := List.mem_map.mp (List.mem_of_mem_take hy)
      simp -implicitDefEqProofs]
    simp -implicitDefEqProofs [q]
    rfl
  · refine ⟨_, _, _, _, _, rfl, ?_, ?_, ?_, ?_, ?_, ?_, ?_, ?_⟩
    · intro x hx
      obtain ⟨i, _, rfl⟩ := List.mem_map.mp hx
      exact ⟨Int.emod_nonneg _ (by decide), Int.emod_lt_of_pos _ (by decide)⟩
    · simp; omega
    · decide
    · decide
    · decide
    · omega
    · omega
    · decide
theorem law_wp {Q : D → Prop} {E : Exc → Prop} (ns : List Int) (hn : ns.length ≤ 63) (hq : Q (.bool true)) : (m_law [.scr ns]).wp Q E := by
  obtain ⟨xs, e1, e2⟩ := hand_eq ns hn
  have b1 : bookB (.tuple [.tuple [.int 5, .int 0], .tuple [.tuple [.int 1, .int 0], .tuple []]]) = true := by decide +kernel
  have b2 : bookB (.tuple [.tuple [.int 5, .int 0], .tuple [.tuple [.int 1, .int 1]]]) = false := by decide +kernel
  have b3 : bookB (.tuple [.tuple [.int 5], .tuple []]) = false := by decide +kernel
  have e3 : m__law_is [.d (.list [.bool true, .bool false, .bool false]), .d (.list [.bool true, .bool false, .bool false])] = .ret (.bool true) := lawis_eq rfl rfl (by decide +kernel)
  simp -implicitDefEqProofs [m_law, fnM, g_law, e1, e2, book_eq, b1, b2, b3, e3, M.wp_bind]
  generalize intsFrom 0 8 = laps
  refine @lcn_wp _ _ _ _ _ _ (fun y => y = .bool true) ?_ ?_ ?_
  · rfl
  · intro x hx
    simp -implicitDefEqProofs [M.wp_bind]
    refine @any_wp _ _ _ ?_ ?_ ?_
    · simp
    · simp
    intro m hm
    obtain ⟨k, rfl, k0, k1⟩ : ∃ k : Int, m = .int k ∧ 0 ≤ k ∧ k ≤ 12 := by
      simp at hm
      rcases hm with rfl | rfl | rfl <;> exact ⟨_, rfl, by omega, by omega⟩
    refine @bk_wp k _ _ ?_ ?_ ?_
    · exact k0
    · exact k1
    intro ds rs B
    refine @right_wp ds rs _ _ ?_ ?_
    · exact B
    simp
  · intro ys hl hy
    have := all_true hy
    have e9 : (ys.all fun _ => true) = true := List.all_eq_true.mpr fun _ _ => rfl
    simp -implicitDefEqProofs [this, e9]
    exact hq
end LK00

namespace LK00
open PySem PySem.Spec PyProof.Rows L2 DL
theorem law_end (K : PySem.W.Frag) (H : Hp) (a : Addr) (ns : List Int) (hl : ns.length ≤ 63) (hO : Only H) (hS : SqL K H a (ns.map V.int)) : spD K (fun _ => none) 1 m_law [.ref a] H (fun v _ => v = .bl true) fun _ _ _ => False := by
  have q : QS K (fun _ => False) H a (ns.map V.int) := by
    rcases hS with h | h
    · exact .inl ⟨fun z => z, h⟩
    · exact .inr h
  refine ⟨⟨fun _ => False, fun _ => False, fun _ => False, fun _ => 0, H⟩, [.scr ns], rfl, ⟨fun _ z => z.elim, fun _ z => z.elim, fun _ z => z.elim⟩, .cons (.scr q) .nil, rfl, ?_⟩
  refine M.wp_mono (@law_wp (fun v => v = .bool true) NoE ns hl rfl) ?_ ?_
  · rintro _ rfl v w' _ _ f
    cases f
    rfl
  · exact fun _ z => z.elim
end LK00

open PySem PySem.W PyProof.Rows
set_option maxHeartbeats 0 in
theorem PySem.Challenge.cw_pledgesold_k00_whole_books_judged_holds : PySem.Challenge.rw_pledgesold_k00_whole_books_judged.Holds := by
  w_on; o_law; k_head; (case hw => w_witness2)
  k_fill
  refine DL.walk_ofG (l := PySem.Challenge.rw_pledgesold_k00_whole_books_judged) (n := 63) (k := 6) (x := "script") (sp := fun K => DL.spD K (fun _ => none) 1 LK00.m_law) rfl (by decide) rfl ⟨rfl, by decide, by decide⟩ (fun w h Y => PySem.W.kIn_of Y) ?F (fun K H a ns hl hO hS => LK00.law_end K H a ns hl hO hS)
  case F =>
    intro w mg fa h KX G hmg
    refine' LK00.all_mk KX G hmg ?a0 ?l0 ?c0 ?k0 ?a1 ?l1 ?c1 ?k1 ?a2 ?l2 ?c2 ?k2 ?a3 ?l3 ?c3 ?k3 ?a4 ?l4 ?c4 ?k4 ?a5 ?l5 ?c5 ?k5 ?a6 ?l6 ?c6 ?k6 ?a7 ?l7 ?c7 ?k7 ?a8 ?l8 ?c8 ?k8 ?a9 ?l9 ?c9 ?k9 ?a10 ?l10 ?c10 ?k10 ?a11 ?l11 ?c11 ?k11 ?a12 ?l12 ?c12 ?k12 ?a13 ?l13 ?c13 ?k13 ?a14 ?l14 ?c14 ?k14 ?a15 ?l15 ?c15 ?k15 ?z0 ?z1 ?z2 ?z3 ?z4 ?z5 ?z6 ?z7 ?z8 ?z9 ?z10 ?z11 ?v0 ?v1 ?v2
    all_goals first | k_is | skip

