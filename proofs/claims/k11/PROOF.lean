import PyProof.Rows.All
import Wide.All
import OpenK.AllK
import Wide.FinOn
import PySem.Challenge.RW_saidagain_k11_windows_by_hand
import HandS.ForMost
import HandS.ForExc
import HandS.NoneIn
import HandS.TupAny
import HandS.Deep
import HandS.Style
import HandS.IsInst
import HandS.Star
import HandS.Property
import KE.GoesZip
import KE.GoesMore
import KE.KDictList
import HandS.Small
import HandS.Ends
import PyProof.ReprRoads
import PyProof.CallFns
import HandS.Conv
import KE.KDictZip
import PyProof.P3Eq
import HandS.Defaults
import HandS.DictComp
import HandS.Text
import HandS.More
import HandS.DeepEq
import KE.RegKIsAll
import PyProof.TableCode
import PyProof.StrLawsRepr
section s_TL1
set_option Elab.async false
set_option linter.all false
set_option maxRecDepth 100000
set_option maxHeartbeats 4000000
/-! TL1: trees, computations, what a tree is in a heap -/
namespace TL
open PySem PySem.Spec PyProof.Rows L2

/-- data as trees -/
inductive T where
  | non | bl (b : Bool) | int (i : Int) | str (x : Str) | ty (n : String)
  | tup (xs : List T) | lst (xs : List T) | dic (kvs : List (T × T))
  | ins (c : Str) (fs : List (Str × T)) | exc (c : Str) (fs : List (Str × T)) | fn (x : Str) | drw | scr (ns : List Int)
  deriving Inhabited

/-- computations: draws are left open -/
inductive G (α : Type) where
  | ret (a : α) | exc (e : T) | stuck | pick (n : Nat) (k : Nat → G α) | any (k : List Nat → G α)

namespace G
def bind {α β : Type} : G α → (α → G β) → G β
  | .ret a, f => f a
  | .exc e, _ => .exc e
  | .stuck, _ => .stuck
  | .pick n k, f => .pick n fun i => (k i).bind f
  | .any k, f => .any fun l => (k l).bind f
instance : Monad G where
  pure := .ret
  bind := G.bind
def wp {α : Type} : G α → (α → Prop) → (T → Prop) → Prop
  | .ret a, Q, _ => Q a
  | .exc e, _, E => E e
  | .stuck, _, _ => False
  | .pick n k, Q, E => ∀ i, i < n → (k i).wp Q E
  | .any k, Q, E => ∀ l, (k l).wp Q E
variable {α β : Type}
@[simp] theorem ret_bind (a : α) (f : α → G β) : (G.ret a >>= f) = f a := rfl
@[simp] theorem pure_bind' (a : α) (f : α → G β) : ((pure a : G α) >>= f) = f a := rfl
@[simp] theorem exc_bind (e : T) (f : α → G β) : (G.exc e >>= f) = G.exc e := rfl
@[simp] theorem stuck_bind (f : α → G β) : ((G.stuck : G α) >>= f) = G.stuck := rfl
@[simp] theorem pick_bind (n : Nat) (k : Nat → G α) (f : α → G β) : (G.pick n k >>= f) = G.pick n fun i => k i >>= f := rfl
@[simp] theorem any_bind (k : List Nat → G α) (f : α → G β) : (G.any k >>= f) = G.any fun l => k l >>= f := rfl
@[simp] theorem pure_eq (a : α) : (pure a : G α) = G.ret a := rfl
theorem bind_assoc {γ : Type} (m : G α) (f : α → G β) (g : β → G γ) : ((m >>= f) >>= g) = (m >>= fun a => f a >>= g) := by
  induction m with
  | ret a => rfl
  | exc e => rfl
  | stuck => rfl
  | pick n k ih => show G.pick n _ = G.pick n _; congr 1; funext i; exact ih i
  | any k ih => show G.any _ = G.any _; congr 1; funext i; exact ih i
theorem wp_bind {m : G α} {f : α → G β} {Q : β → Prop} {E : T → Prop} : (m >>= f).wp Q E ↔ m.wp (fun a => (f a).wp Q E) E := by
  induction m with
  | ret a => exact Iff.rfl
  | exc e => exact Iff.rfl
  | stuck => exact Iff.rfl
  | pick n k ih => exact forall_congr' fun i => forall_congr' fun _ => ih i
  | any k ih => exact forall_congr' fun l => ih l
theorem wp_mono {m : G α} {Q Q' : α → Prop} {E E' : T → Prop} (h : m.wp Q E) (hQ : ∀ a, Q a → Q' a) (hE : ∀ e, E e → E' e) : m.wp Q' E' := by
  induction m with
  | ret a => exact hQ a h
  | exc e => exact hE e h
  | stuck => exact h
  | pick n k ih => exact fun i hi => ih i (h i hi)
  | any k ih => exact fun l => ih l (h l)
end G

/-- the draws' dict and its two lists -/
def DrI (d g c : Addr) (cs : List Nat) (H : Hp) : Prop := d ≠ g ∧ d ≠ c ∧ g ≠ c ∧ cs.length ≤ 1000 ∧ ∃ (gs : List Nat) (rest turn : Nat), gs.length ≤ 1000 ∧
  H d = some (.dK [(.inr "great", .ref g), (.inr "rest", .int rest), (.inr "cells", .ref c), (.inr "turn", .int turn)]) ∧ H g = some (.lst (gs.map fun n : Nat => V.int (n : Int))) ∧ H c = some (.lst (cs.map fun n : Nat => V.int (n : Int)))
/-- the draws' objects and what is true of them -/
structure Wd where
  W : List Addr
  WI : Hp → Prop
  loc : ∀ H H', (∀ a ∈ W, H' a = H a) → WI H → WI H'
  tr : ∀ H, WI H → ∀ a ∈ W, H a ≠ none
  ok : ∀ a r, W = a :: r → ∃ g c cs, r = [g, c] ∧ ∀ H, WI H ↔ DrI a g c cs H
  /-- self -/
  me : Addr := 0

/-- an int or text as a key -/
def keyT : T → Option Key
  | .int i => some (.inl i)
  | .str x => some (.inr x)
  | _ => none

/-- a dict that is frozen stands locked -/
def Lk (Z : Hp) (p : Addr) (kvs : List (Key × V)) : Prop := ∃ o, Z p = some (.frz o (.dK kvs))
theorem Lk.rd {Z : Hp} {p : Addr} {kvs : List (Key × V)} (h : Lk Z p kvs) : Rd Z p (.dK kvs) := .inr h
section
variable (K : PySem.W.Frag) (mg : Str → Option Value) (w : Wd)
mutual
inductive Tr : Hp → T → V → Prop
  | non {Z} : Tr Z .non .non
  | bl {Z} (b : Bool) : Tr Z (.bl b) (.bl b)
  | int {Z} (i : Int) : Tr Z (.int i) (.int i)
  | str {Z} (x : Str) : Tr Z (.str x) (.str x)
  | ty {Z} (n : String) : Tr Z (.ty n) (.ty n)
  | tup {Z : Hp} {ts : List T} {p : Addr} {vs : List V} : SqT K Z p vs → vs.length ≤ sizeLine → Trs Z ts vs → Tr Z (.tup ts) (.ref p)
  | lst {Z : Hp} {ts : List T} {p : Addr} {vs : List V} : Z p = some (.lst vs) → vs.length ≤ sizeLine → Trs Z ts vs → Tr Z (.lst ts) (.ref p)
  | dic {Z : Hp} {kts : List (T × T)} {p : Addr} {kvs : List (Key × V)} : Lk Z p kvs → kvs.length ≤ sizeLine → Trd Z kts kvs → Tr Z (.dic kts) (.ref p)
  | ins {Z : Hp} {c : Str} {fs : List (Str × T)} {C p dx : Addr} {gs : List (Str × V)} : mg c = some (.ref C) → Z p = some (.ins C dx gs) → Z dx = some (.own p) → Trf Z fs gs → Tr Z (.ins c fs) (.ref p)
  | fn {Z} {x : Str} {a : Addr} : mg x = some (.ref a) → Tr Z (.fn x) (.ref a)
  | drw {Z} {a : Addr} {r : List Addr} : w.W = a :: r → Tr Z .drw (.ref a)
  | scr {Z : Hp} {ns : List Int} {p : Addr} : SqL K Z p (ns.map V.int) → ns.length ≤ 1000 → Tr Z (.scr ns) (.ref p)
inductive Trs : Hp → List T → List V → Prop
  | nil {Z} : Trs Z [] []
  | cons {Z t v ts vs} : Tr Z t v → Trs Z ts vs → Trs Z (t :: ts) (v :: vs)
inductive Trd : Hp → List (T × T) → List (Key × V) → Prop
  | nil {Z} : Trd Z [] []
  | cons {Z} {k : T} {key : Key} {t : T} {v : V} {kts kvs} : keyT k = some key → Tr Z t v → Trd Z kts kvs → Trd Z ((k, t) :: kts) ((key, v) :: kvs)
inductive Trf : Hp → List (Str × T) → List (Str × V) → Prop
  | nil {Z} : Trf Z [] []
  | cons {Z} {f : Str} {t : T} {v : V} {fs gs} : Tr Z t v → Trf Z fs gs → Trf Z ((f, t) :: fs) ((f, v) :: gs)
end
end

section
variable {K : PySem.W.Frag} {mg : Str → Option Value} {w : Wd}
/-- more is known -/
def Sub (Z Z' : Hp) : Prop := ∀ a o, Z a = some o → Z' a = some o
theorem Sub.refl (Z : Hp) : Sub Z Z := fun _ _ h => h
theorem Sub.trans {Z Z1 Z2 : Hp} (a : Sub Z Z1) (b : Sub Z1 Z2) : Sub Z Z2 := fun p o h => b p o (a p o h)
theorem Sub.rd {Z Z' : Hp} (s : Sub Z Z') {a : Addr} {u : HO} (r : Rd Z a u) : Rd Z' a u := r.elim (fun h => .inl (s _ _ h)) fun ⟨o, h⟩ => .inr ⟨o, s _ _ h⟩
theorem Lk.mono {Z Z' : Hp} (s : Sub Z Z') {p : Addr} {kvs : List (Key × V)} (h : Lk Z p kvs) : Lk Z' p kvs := let ⟨o, e⟩ := h; ⟨o, s _ _ e⟩
theorem Sub.sqL {Z Z' : Hp} (s : Sub Z Z') {a : Addr} {xs : List V} (h : SqL K Z a xs) : SqL K Z' a xs := h.elim (fun h => .inl (s.rd h)) .inr
theorem Sub.sqT {Z Z' : Hp} (s : Sub Z Z') {a : Addr} {xs : List V} (h : SqT K Z a xs) : SqT K Z' a xs := h.elim (fun h => .inl (s.rd h)) .inr
theorem Sub.upd {Z : Hp} {p : Addr} {o : HO} (h : Z p = none) : Sub Z (upd Z p o) := fun a u e => by rw [upd_ne (ne_of_none e h)]; exact e
mutual
theorem Tr.mono {Z Z' : Hp} (s : Sub Z Z') : ∀ {t : T} {v : V}, Tr K mg w Z t v → Tr K mg w Z' t v
  | _, _, .non => .non
  | _, _, .bl b => .bl b
  | _, _, .int i => .int i
  | _, _, .str x => .str x
  | _, _, .ty n => .ty n
  | _, _, .tup h l r => .tup (s.sqT h) l (Trs.mono s r)
  | _, _, .lst h l r => .lst (s _ _ h) l (Trs.mono s r)
  | _, _, .dic h l r => .dic (h.mono s) l (Trd.mono s r)
  | _, _, .ins a h d r => .ins a (s _ _ h) (s _ _ d) (Trf.mono s r)
  | _, _, .fn h => .fn h
  | _, _, .drw h => .drw h
  | _, _, .scr h l => .scr (s.sqL h) l
theorem Trs.mono {Z Z' : Hp} (s : Sub Z Z') : ∀ {ts : List T} {vs : List V}, Trs K mg w Z ts vs → Trs K mg w Z' ts vs
  | _, _, .nil => .nil
  | _, _, .cons a b => .cons (Tr.mono s a) (Trs.mono s b)
theorem Trd.mono {Z Z' : Hp} (s : Sub Z Z') : ∀ {ts : List (T × T)} {vs : List (Key × V)}, Trd K mg w Z ts vs → Trd K mg w Z' ts vs
  | _, _, .nil => .nil
  | _, _, .cons k a b => .cons k (Tr.mono s a) (Trd.mono s b)
theorem Trf.mono {Z Z' : Hp} (s : Sub Z Z') : ∀ {ts : List (Str × T)} {vs : List (Str × V)}, Trf K mg w Z ts vs → Trf K mg w Z' ts vs
  | _, _, .nil => .nil
  | _, _, .cons a b => .cons (Tr.mono s a) (Trf.mono s b)
end
theorem Trs.length {Z : Hp} : ∀ {ts : List T} {vs : List V}, Trs K mg w Z ts vs → ts.length = vs.length
  | _, _, .nil => rfl
  | _, _, .cons _ b => by rw [List.length_cons, List.length_cons, Trs.length b]
theorem Trs.get {Z : Hp} : ∀ {ts : List T} {vs : List V} {i : Nat} {t : T}, Trs K mg w Z ts vs → ts[i]? = some t → ∃ v, vs[i]? = some v ∧ Tr K mg w Z t v
  | _, _, _, _, .nil, e => by simp at e
  | _, _, 0, _, .cons a _, e => by simp at e; subst e; exact ⟨_, rfl, a⟩
  | _, _, i + 1, t, .cons _ b, e => by
    obtain ⟨v, h1, h2⟩ := Trs.get (i := i) (t := t) b (by simpa using e)
    exact ⟨v, by simpa using h1, h2⟩
theorem Trs.get' {Z : Hp} : ∀ {ts : List T} {vs : List V} {i : Nat} {v : V}, Trs K mg w Z ts vs → vs[i]? = some v → ∃ t, ts[i]? = some t ∧ Tr K mg w Z t v
  | _, _, _, _, .nil, e => by simp at e
  | _, _, 0, _, .cons a _, e => by simp at e; subst e; exact ⟨_, rfl, a⟩
  | _, _, i + 1, t, .cons _ b, e => by
    obtain ⟨v, h1, h2⟩ := Trs.get' (i := i) (v := t) b (by simpa using e)
    exact ⟨v, by simpa using h1, h2⟩
theorem Trs.append {Z : Hp} : ∀ {ts us : List T} {vs ws : List V}, Trs K mg w Z ts vs → Trs K mg w Z us ws → Trs K mg w Z (ts ++ us) (vs ++ ws)
  | _, _, _, _, .nil, s => s
  | _, _, _, _, .cons a b, s => .cons a (Trs.append b s)
theorem Trs.take {Z : Hp} : ∀ {ts : List T} {vs : List V} (n : Nat), Trs K mg w Z ts vs → Trs K mg w Z (ts.take n) (vs.take n)
  | _, _, 0, _ => .nil
  | _, _, _ + 1, .nil => .nil
  | _, _, n + 1, .cons a b => .cons a (Trs.take n b)
theorem Trs.drop {Z : Hp} : ∀ {ts : List T} {vs : List V} (n : Nat), Trs K mg w Z ts vs → Trs K mg w Z (ts.drop n) (vs.drop n)
  | _, _, 0, r => r
  | _, _, _ + 1, .nil => .nil
  | _, _, n + 1, .cons _ b => Trs.drop n b
theorem Trs.set {Z : Hp} {t : T} {v : V} (h : Tr K mg w Z t v) : ∀ {ts : List T} {vs : List V} (n : Nat), Trs K mg w Z ts vs → Trs K mg w Z (ts.set n t) (vs.set n v)
  | _, _, _, .nil => .nil
  | _, _, 0, .cons _ b => .cons h b
  | _, _, n + 1, .cons a b => .cons a (Trs.set h n b)
theorem Trs.reverse {Z : Hp} : ∀ {ts : List T} {vs : List V}, Trs K mg w Z ts vs → Trs K mg w Z ts.reverse vs.reverse
  | _, _, .nil => .nil
  | _, _, .cons a b => by rw [List.reverse_cons, List.reverse_cons]; exact (Trs.reverse b).append (.cons a .nil)
theorem Trs.dropLast {Z : Hp} : ∀ {ts : List T} {vs : List V}, Trs K mg w Z ts vs → Trs K mg w Z ts.dropLast vs.dropLast
  | _, _, .nil => .nil
  | _, _, .cons _ .nil => .nil
  | _, _, .cons a (.cons b r) => .cons a (Trs.dropLast (.cons b r))
theorem Trs.eraseIdx {Z : Hp} : ∀ {ts : List T} {vs : List V} (i : Nat), Trs K mg w Z ts vs → Trs K mg w Z (ts.eraseIdx i) (vs.eraseIdx i)
  | _, _, _, .nil => .nil
  | _, _, 0, .cons _ b => b
  | _, _, i + 1, .cons a b => .cons a (Trs.eraseIdx i b)

/-! ### how the heap grows -/
structure Good (w : Wd) (H Z : Hp) : Prop where
  zh : Sub Z H
  zw : ∀ a ∈ w.W, Z a = none
  wi : w.WI H
structure Grow (w : Wd) (H Z H' Z' : Hp) : Prop where
  good : Good w H' Z'
  zz : Sub Z Z'
  new : ∀ a o, Z' a = some o → Z a = some o ∨ H a = none
  hh : ∀ a o, H a = some o → a ∉ w.W → H' a = some o
theorem Grow.refl {H Z : Hp} (g : Good w H Z) : Grow w H Z H Z := ⟨g, Sub.refl _, fun _ _ h => .inl h, fun _ _ h _ => h⟩
theorem Grow.trans {H Z H1 Z1 H2 Z2 : Hp} (a : Grow w H Z H1 Z1) (b : Grow w H1 Z1 H2 Z2) : Grow w H Z H2 Z2 := by
  refine ⟨b.good, a.zz.trans b.zz, fun p o h => ?_, fun p o h hw => b.hh p o (a.hh p o h hw) hw⟩
  by_cases hw : p ∈ w.W
  · rw [b.good.zw p hw] at h; cases h
  · rcases b.new p o h with q | q
    · exact a.new p o q
    · cases e : H p with
      | none => exact .inr rfl
      | some u => rw [a.hh p u e hw] at q; cases q
/-- a frozen thing's address is tracked -/
theorem Good.tracked {H Z : Hp} (g : Good w H Z) {a : Addr} (h : H a = none) : Z a = none := by
  cases e : Z a with
  | none => rfl
  | some o =>
    have r := g.zh a o e
    rw [h] at r; cases r
theorem Good.nw {H Z : Hp} (g : Good w H Z) {p : Addr} (h : H p = none) : ∀ a ∈ w.W, a ≠ p := fun a ha e => by
  subst e; exact w.tr H g.wi a ha h
/-- a new object, not frozen -/
theorem Good.laid {H Z : Hp} (g : Good w H Z) {p : Addr} {o : HO} (hp : H p = none) : Good w (upd H p o) Z :=
  ⟨fun a u e => by
    have ne : a ≠ p := fun z => by rw [z, g.tracked hp] at e; cases e
    rw [upd_ne ne]; exact g.zh a u e, g.zw, w.loc _ _ (fun a ha => upd_ne (g.nw hp a ha)) g.wi⟩
theorem Grow.laid {H Z : Hp} (g : Good w H Z) {p : Addr} {o : HO} (hp : H p = none) : Grow w H Z (upd H p o) Z :=
  ⟨g.laid hp, Sub.refl _, fun _ _ h => .inl h, fun a u e _ => by rw [upd_ne (ne_of_none e hp)]; exact e⟩
/-- a new object, frozen at once -/
theorem Grow.laidF {H Z : Hp} (g : Good w H Z) {p : Addr} {o : HO} (hp : H p = none) : Grow w H Z (upd H p o) (upd Z p o) :=
  ⟨⟨fun a u e => by
      by_cases ne : a = p
      · subst ne; rw [upd_same] at e; cases e; exact upd_same
      · rw [upd_ne ne] at e
        exact (g.laid hp).zh a u e, fun a ha => by rw [upd_ne (g.nw hp a ha)]; exact g.zw a ha, (g.laid hp).wi⟩,
    Sub.upd (g.tracked hp), fun a u e => by
      by_cases ne : a = p
      · subst ne; exact .inr hp
      · rw [upd_ne ne] at e; exact .inl e, fun a u e _ => by rw [upd_ne (ne_of_none e hp)]; exact e⟩
end
end TL
end s_TL1
section s_TL2
set_option Elab.async false
set_option linter.all false
set_option maxRecDepth 100000
set_option maxHeartbeats 4000000
/-! TL2: slots, readings, the judgements, expressions -/
namespace TL
open PySem PySem.Spec PyProof.Rows L2

/-- a slot: nothing known, a frozen tree, a tree whose root is this slot's own -/
inductive Sl where
  | un | fz (t : T) | ow (t : T) | me (t : T)
  /-- a dict of the slot's own whose values are lists of its own -/
  | dp (kts : List (T × T))
abbrev EC := List Sl → G T

section
variable (K : PySem.W.Frag) (mg : Str → Option Value) (w : Wd)
def RootP (Z H : Hp) (a : T) (bs : List T) (p : Addr) (o : List Addr) : Prop := ∃ q va vs, o = [q] ∧ SqT K Z p [va, .ref q] ∧ Tr K mg w Z a va ∧ H q = some (.lst vs) ∧ vs.length ≤ sizeLine ∧ Trs K mg w Z bs vs
/-- a pair whose second item is a list of its own: the pair itself is frozen -/
def RootT (Z H : Hp) (p : Addr) (o : List Addr) : List T → Prop
  | [a, .lst bs] => RootP K mg w Z H a bs p o
  | _ => False
def Root (Z H : Hp) (t : T) (p : Addr) (o : List Addr) : Prop := match t with
  | .tup ts => RootT K mg w Z H p o ts
  | .lst ts => o = [p] ∧ ∃ vs, H p = some (.lst vs) ∧ vs.length ≤ sizeLine ∧ Trs K mg w Z ts vs
  | .dic kts => o = [p] ∧ ∃ kvs, H p = some (.dK kvs) ∧ kvs.length ≤ sizeLine ∧ Trd K mg w Z kts kvs
  | .ins c fs => ∃ C dx gs, o = [p, dx] ∧ dx ≠ p ∧ mg c = some (.ref C) ∧ H p = some (.ins C dx gs) ∧ H dx = some (.own p) ∧ Trf K mg w Z fs gs
  | _ => False
inductive TrD : Hp → Hp → List (T × T) → List (Key × V) → List Addr → Prop
  | nil {Z H} : TrD Z H [] [] []
  | cons {Z H : Hp} {k : T} {key : Key} {q : Addr} {ts : List T} {vs : List V} {kts kvs qs} : keyT k = some key → H q = some (.lst vs) → vs.length ≤ sizeLine → Trs K mg w Z ts vs → TrD Z H kts kvs qs → TrD Z H ((k, .lst ts) :: kts) ((key, .ref q) :: kvs) (q :: qs)
def RootD (Z H : Hp) (kts : List (T × T)) (p : Addr) (o : List Addr) : Prop := ∃ qs kvs, o = p :: qs ∧ (p :: qs).Nodup ∧ H p = some (.dK kvs) ∧ kvs.length ≤ sizeLine ∧ TrD K mg w Z H kts kvs qs
def SlR (Z H : Hp) (s : Sl) (x : Option V) (o : List Addr) : Prop := match s with
  | .un => o = []
  | .fz t => o = [] ∧ ∃ v, x = some v ∧ Tr K mg w Z t v
  | .ow t => ∃ p, x = some (.ref p) ∧ Root K mg w Z H t p o
  | .me t => x = some (.ref w.me) ∧ Root K mg w Z H t w.me o
  | .dp kts => ∃ p, x = some (.ref p) ∧ RootD K mg w Z H kts p o
end

section
variable {K : PySem.W.Frag} {mg : Str → Option Value} {w : Wd} {Z Z' H H' : Hp} {t : T} {p : Addr} {o : List Addr}
theorem RootT.ex {ts : List T} (r : RootT K mg w Z H p o ts) : ∃ a bs, ts = [a, .lst bs] ∧ RootP K mg w Z H a bs p o := by
  unfold RootT at r
  split at r
  · exact ⟨_, _, rfl, r⟩
  · exact r.elim
theorem Root.tracked (r : Root K mg w Z H t p o) : ∀ a ∈ o, H a ≠ none := fun a ha => by
  cases t <;> try exact r.elim
  case tup ts => obtain ⟨a, bs, rfl, q, va, vs, rfl, _, _, h, _⟩ := r.ex; simp at ha; subst ha; rw [h]; simp
  case lst ts => obtain ⟨rfl, vs, h, _⟩ := r; simp at ha; subst ha; rw [h]; simp
  case dic ts => obtain ⟨rfl, vs, h, _⟩ := r; simp at ha; subst ha; rw [h]; simp
  case ins c fs =>
    obtain ⟨C, dx, gs, rfl, _, _, h, h2, _⟩ := r
    simp at ha
    rcases ha with rfl | rfl
    · rw [h]; simp
    · rw [h2]; simp
theorem Root.move (r : Root K mg w Z H t p o) (s : Sub Z Z') (h : ∀ a ∈ o, ∀ u, H a = some u → H' a = some u) : Root K mg w Z' H' t p o := by
  cases t <;> try exact r.elim
  case tup ts => obtain ⟨a, bs, rfl, q, va, vs, rfl, h1, h2, h3, h4, h5⟩ := r.ex; exact ⟨q, va, vs, rfl, s.sqT h1, h2.mono s, h _ (by simp) _ h3, h4, h5.mono s⟩
  case lst ts => obtain ⟨rfl, vs, e, l, q⟩ := r; exact ⟨rfl, vs, h _ (by simp) _ e, l, q.mono s⟩
  case dic ts => obtain ⟨rfl, vs, e, l, q⟩ := r; exact ⟨rfl, vs, h _ (by simp) _ e, l, q.mono s⟩
  case ins c fs =>
    obtain ⟨C, dx, gs, rfl, ne, m, e, e2, q⟩ := r
    exact ⟨C, dx, gs, rfl, ne, m, h _ (by simp) _ e, h _ (by simp) _ e2, q.mono s⟩
theorem TrD.move (s : Sub Z Z') : ∀ {kts : List (T × T)} {kvs : List (Key × V)} {qs : List Addr}, TrD K mg w Z H kts kvs qs → (∀ a ∈ qs, ∀ u, H a = some u → H' a = some u) → TrD K mg w Z' H' kts kvs qs
  | _, _, _, .nil, _ => .nil
  | _, _, _, .cons k h l t r, f => .cons k (f _ (by simp) _ h) l (t.mono s) (TrD.move s r fun a ha => f a (by simp [ha]))
theorem TrD.tracked : ∀ {kts : List (T × T)} {kvs : List (Key × V)} {qs : List Addr}, TrD K mg w Z H kts kvs qs → ∀ a ∈ qs, H a ≠ none
  | _, _, _, .nil, a, ha => (nomatch ha)
  | _, _, _, .cons k h l t r, a, ha => by
    rcases List.mem_cons.mp ha with e | e
    · subst e; rw [h]; simp
    · exact TrD.tracked r a e
theorem TrD.length : ∀ {kts : List (T × T)} {kvs : List (Key × V)} {qs : List Addr}, TrD K mg w Z H kts kvs qs → kts.length = kvs.length ∧ kts.length = qs.length
  | _, _, _, .nil => ⟨rfl, rfl⟩
  | _, _, _, .cons _ _ _ _ r => by have := TrD.length r; simp only [List.length_cons]; omega
theorem RootD.move {kts : List (T × T)} (r : RootD K mg w Z H kts p o) (s : Sub Z Z') (h : ∀ a ∈ o, ∀ u, H a = some u → H' a = some u) : RootD K mg w Z' H' kts p o := by
  obtain ⟨qs, kvs, rfl, nd, hp, hl, tr⟩ := r
  exact ⟨qs, kvs, rfl, nd, h _ (by simp) _ hp, hl, tr.move s fun a ha => h a (by simp [ha])⟩
theorem RootD.tracked {kts : List (T × T)} (r : RootD K mg w Z H kts p o) : ∀ a ∈ o, H a ≠ none := fun a ha => by
  obtain ⟨qs, kvs, rfl, nd, hp, hl, tr⟩ := r
  rcases List.mem_cons.mp ha with e | e
  · subst e; rw [hp]; simp
  · exact tr.tracked a e
theorem SlR.move {s : Sl} {x : Option V} (r : SlR K mg w Z H s x o) (sb : Sub Z Z') (h : ∀ a ∈ o, ∀ u, H a = some u → H' a = some u) : SlR K mg w Z' H' s x o := by
  cases s with
  | un => exact r
  | fz t => obtain ⟨a, v, e, q⟩ := r; exact ⟨a, v, e, q.mono sb⟩
  | ow t => obtain ⟨p, e, q⟩ := r; exact ⟨p, e, q.move sb h⟩
  | me t => obtain ⟨e, q⟩ := r; exact ⟨e, q.move sb h⟩
  | dp kts => obtain ⟨p, e, q⟩ := r; exact ⟨p, e, q.move sb h⟩
theorem SlR.tracked {s : Sl} {x : Option V} (r : SlR K mg w Z H s x o) : ∀ a ∈ o, H a ≠ none := fun a ha => by
  cases s with
  | un => rw [show o = [] from r] at ha; cases ha
  | fz t => obtain ⟨e, _⟩ := r; rw [e] at ha; cases ha
  | ow t => obtain ⟨p, e, q⟩ := r; exact q.tracked a ha
  | me t => obtain ⟨e, q⟩ := r; exact q.tracked a ha
  | dp kts => obtain ⟨p, e, q⟩ := r; exact q.tracked a ha
end

/-- what of a context the trees lean on -/
structure Km where
  K : PySem.W.Frag
  mg : Str → Option Value
abbrev Km.km (X : Km) : Km := X
end TL
abbrev L2.Cx.km (X : L2.Cx) : TL.Km := ⟨X.K, X.mg⟩
namespace TL
open PySem PySem.Spec PyProof.Rows L2

/-- the state of a body: entry heap and frozen part, slots, heap and frozen part now, the slots' own addresses -/
structure EnvR (X : Km) (w : Wd) (H0 Z0 : Hp) (r : List Sl) (σ : L2.St) (H Z : Hp) (o : Nat → List Addr) : Prop where
  gr : Grow w H0 Z0 H Z
  len : r.length = σ.length
  sl : ∀ (i : Nat) s x, r[i]? = some s → σ[i]? = some x → SlR X.K X.mg w Z H s x (o i)
  out : ∀ i, r.length ≤ i → o i = []
  dis : ∀ i j a, a ∈ o i → a ∈ o j → i = j
  fr : ∀ i a, a ∈ o i → H0 a = none ∧ Z a = none ∧ a ∉ w.W
section
variable {X : Km} {w : Wd} {H0 Z0 H Z H' Z' : Hp} {r : List Sl} {σ : L2.St} {o : Nat → List Addr}
theorem EnvR.tr (R : EnvR X.km w H0 Z0 r σ H Z o) : ∀ i a, a ∈ o i → H a ≠ none := fun i a ha => by
  by_cases hi : i < r.length
  · have hj : i < σ.length := R.len ▸ hi
    exact (R.sl i _ _ (List.getElem?_eq_getElem hi) (List.getElem?_eq_getElem hj)).tracked a ha
  · rw [R.out i (by omega)] at ha; cases ha
theorem EnvR.grow (R : EnvR X.km w H0 Z0 r σ H Z o) (g : Grow w H Z H' Z') : EnvR X.km w H0 Z0 r σ H' Z' o :=
  ⟨R.gr.trans g, R.len, fun i s x h1 h2 => (R.sl i s x h1 h2).move g.zz fun a ha u e => g.hh a u e (R.fr i a ha).2.2, R.out, R.dis, fun i a ha => ⟨(R.fr i a ha).1, by
    cases e : Z' a with
    | none => rfl
    | some u =>
      rcases g.new a u e with q | q
      · rw [(R.fr i a ha).2.1] at q; cases q
      · exact absurd q (R.tr i a ha), (R.fr i a ha).2.2⟩⟩
theorem EnvR.good (R : EnvR X.km w H0 Z0 r σ H Z o) : Good w H Z := R.gr.good
end

/-- an exception's tree -/
def ExR (K : PySem.W.Frag) (mg : Str → Option Value) (w : Wd) (Z H : Hp) (e : T) (cls : Value) (d : Option Addr) : Prop := ∃ c fs C, e = .exc c fs ∧ mg c = some (.ref C) ∧ cls = .ref C ∧
  ((fs = [] ∧ d = none) ∨ ∃ a gs, d = some a ∧ H a = some (.xd gs) ∧ Trf K mg w Z fs gs)

section
variable (X : Km) (w : Wd) (E : XK)
def Post (H Z : Hp) (Q : VK) : T → Prop := fun t => ∀ v H' Z', Grow w H Z H' Z' → Tr X.K X.mg w Z' t v → Q v H'
def PostX (H0 Z0 : Hp) : T → Prop := fun e => ∀ cls d H' Z', Grow w H0 Z0 H' Z' → ExR X.K X.mg w Z' H' e cls d → E cls d H'
/-- an expression's reading by a computation -/
def EvE (c : EC) : TE := fun σ H Q => ∃ H0 Z0 r Z o, EnvR X.km w H0 Z0 r σ H Z o ∧ (c r).wp (Post X.km w H Z Q) (PostX X.km w E H0 Z0)
def PostB (H Z : Hp) (Q : Bool → Hp → Prop) : Bool → Prop := fun b => ∀ H' Z', Grow w H Z H' Z' → Q b H'
def EvT (c : List Sl → G Bool) : TT := fun σ H Q => ∃ H0 Z0 r Z o, EnvR X.km w H0 Z0 r σ H Z o ∧ (c r).wp (PostB w H Z Q) (PostX X.km w E H0 Z0)
def PostA (H Z : Hp) (Q : List V → Hp → Prop) : List T → Prop := fun ts => ∀ vs H' Z', Grow w H Z H' Z' → Trs X.K X.mg w Z' ts vs → Q vs H'
def EvA (c : List Sl → G (List T)) : TA := fun σ H Q => ∃ H0 Z0 r Z o, EnvR X.km w H0 Z0 r σ H Z o ∧ (c r).wp (PostA X.km w H Z Q) (PostX X.km w E H0 Z0)
end
section
variable (X : Cx) (w : Wd) (E : XK)
structure CE (e : Expr) (c : EC) : Prop where
  pe : PE X e (EvE X.km w E c)
structure CT (e : Expr) (c : List Sl → G Bool) : Prop where
  pt : PT X e (EvT X.km w E c)
structure CA (es : List Expr) (c : List Sl → G (List T)) : Prop where
  pa : PA X es (EvA X.km w E c)
end

section
variable {X : Cx} {w : Wd} {E : XK} {e : Expr} {pos : Pos}
theorem peImp {t t' : TE} (h : PE X e t) (f : ∀ σ H Q, t' σ H Q → t σ H Q) : PE X e t' := ⟨fun pins s σ H Q I hw => h.run pins s σ H Q I (f σ H Q hw)⟩
theorem ptImp {t t' : TT} (h : PT X e t) (f : ∀ σ H Q, t' σ H Q → t σ H Q) : PT X e t' := ⟨fun pins s σ H Q I hw => h.run pins s σ H Q I (f σ H Q hw)⟩
theorem paImp {es : List Expr} {t t' : TA} (h : PA X es t) (f : ∀ σ H Q, t' σ H Q → t σ H Q) : PA X es t' := ⟨fun pos pins s σ H Q I hw => h.run pos pins s σ H Q I (f σ H Q hw)⟩
variable {H0 Z0 H Z H1 Z1 : Hp} {r : List Sl} {σ : L2.St} {o : Nat → List Addr}
theorem Post.weak {Q : VK} {t : T} (g : Grow w H Z H1 Z1) (h : Post X.km w H Z Q t) : Post X.km w H1 Z1 Q t := fun v H' Z' g' tr => h v H' Z' (g.trans g') tr
theorem PostB.weak {Q : Bool → Hp → Prop} {b : Bool} (g : Grow w H Z H1 Z1) (h : PostB w H Z Q b) : PostB w H1 Z1 Q b := fun H' Z' g' => h H' Z' (g.trans g')
theorem PostA.weak {Q : List V → Hp → Prop} {ts : List T} (g : Grow w H Z H1 Z1) (h : PostA X.km w H Z Q ts) : PostA X.km w H1 Z1 Q ts := fun v H' Z' g' tr => h v H' Z' (g.trans g') tr

/-- one expression is evaluated, the rest of the computation is left -/
theorem evSeq {β : Type} {c : EC} {k : T → G β} {P : Hp → Hp → β → Prop} {PX : T → Prop} {Q : VK} (R : EnvR X.km w H0 Z0 r σ H Z o) (hP : ∀ {H1 Z1 b}, Grow w H Z H1 Z1 → P H Z b → P H1 Z1 b)
    (h : (c r >>= k).wp (P H Z) (PostX X.km w E H0 Z0))
    (fin : ∀ x H1 Z1 a, EnvR X.km w H0 Z0 r σ H1 Z1 o → Grow w H Z H1 Z1 → Tr X.K X.mg w Z1 a x → (k a).wp (P H1 Z1) (PostX X.km w E H0 Z0) → Q x H1) : EvE X.km w E c σ H Q :=
  ⟨H0, Z0, r, Z, o, R, G.wp_mono (G.wp_bind.mp h) (fun a ha v H' Z' g t => fin v H' Z' a (R.grow g) g t (G.wp_mono ha (fun b hb => hP g hb) fun _ x => x)) fun _ x => x⟩
theorem evSeqT {β : Type} {c : List Sl → G Bool} {k : Bool → G β} {P : Hp → Hp → β → Prop} {Q : Bool → Hp → Prop} (R : EnvR X.km w H0 Z0 r σ H Z o) (hP : ∀ {H1 Z1 b}, Grow w H Z H1 Z1 → P H Z b → P H1 Z1 b)
    (h : (c r >>= k).wp (P H Z) (PostX X.km w E H0 Z0))
    (fin : ∀ H1 Z1 a, EnvR X.km w H0 Z0 r σ H1 Z1 o → Grow w H Z H1 Z1 → (k a).wp (P H1 Z1) (PostX X.km w E H0 Z0) → Q a H1) : EvT X.km w E c σ H Q :=
  ⟨H0, Z0, r, Z, o, R, G.wp_mono (G.wp_bind.mp h) (fun a ha H' Z' g => fin H' Z' a (R.grow g) g (G.wp_mono ha (fun b hb => hP g hb) fun _ x => x)) fun _ x => x⟩
theorem evSeqA {β : Type} {c : List Sl → G (List T)} {k : List T → G β} {P : Hp → Hp → β → Prop} {Q : List V → Hp → Prop} (R : EnvR X.km w H0 Z0 r σ H Z o) (hP : ∀ {H1 Z1 b}, Grow w H Z H1 Z1 → P H Z b → P H1 Z1 b)
    (h : (c r >>= k).wp (P H Z) (PostX X.km w E H0 Z0))
    (fin : ∀ x H1 Z1 a, EnvR X.km w H0 Z0 r σ H1 Z1 o → Grow w H Z H1 Z1 → Trs X.K X.mg w Z1 a x → (k a).wp (P H1 Z1) (PostX X.km w E H0 Z0) → Q x H1) : EvA X.km w E c σ H Q :=
  ⟨H0, Z0, r, Z, o, R, G.wp_mono (G.wp_bind.mp h) (fun a ha v H' Z' g t => fin v H' Z' a (R.grow g) g t (G.wp_mono ha (fun b hb => hP g hb) fun _ x => x)) fun _ x => x⟩

/-! ### names and constants -/
def cVar (i : Nat) : EC := fun r => match r[i]? with
  | some (.fz t) => .ret t
  | _ => .stuck
def cC (t : T) : EC := fun _ => .ret t
theorem ce_var (i : Nat) {x : Str} (hN : X.N[i]? = some x := by rfl) (hv : Vis X.env.scope x := by first | exact Or.inl rfl | exact Or.inr (Or.inl rfl) | exact Or.inr (Or.inr rfl)) (hd : (x == ("__debug__" : Str)) = false := by decide)
    (hcd : (x == ("__classdict__" : Str)) = false := by decide) : CE X w E (.Name x pos) (cVar i) := by
  refine ⟨peImp (pe_var hN hv hd hcd) fun σ H Q h => ?_⟩
  obtain ⟨H0, Z0, r, Z, o, R, h⟩ := h
  unfold cVar at h
  cases e : r[i]? with
  | none => rw [e] at h; exact h.elim
  | some s =>
    rw [e] at h
    cases s with
    | un => exact h.elim
    | ow t => exact h.elim
    | me t => exact h.elim
    | dp t => exact h.elim
    | fz t =>
      have hi : i < σ.length := by
        have := (List.getElem?_eq_some_iff.mp e).1
        rw [R.len] at this; exact this
      obtain ⟨_, v, ev, tr⟩ := R.sl i _ _ e (List.getElem?_eq_getElem hi)
      exact ⟨v, (List.getElem?_eq_getElem hi).trans (congrArg some ev), h v H Z (Grow.refl R.good) tr⟩
theorem ceC {t : T} {v : V} (h : PE X e (tC v)) (ht : ∀ Z, Tr X.K X.mg w Z t v) : CE X w E e (cC t) :=
  ⟨peImp h fun σ H Q ⟨H0, Z0, r, Z, o, R, h⟩ => h v H Z (Grow.refl R.good) (ht Z)⟩
theorem ce_int {i j} : CE X w E (.Constant (.int i) j pos) (cC (.int i)) := ceC pe_int fun _ => .int i
theorem ce_bl {b j} : CE X w E (.Constant (.bool b) j pos) (cC (.bl b)) := ceC pe_bl fun _ => .bl b
theorem ce_non {j} : CE X w E (.Constant .none j pos) (cC .non) := ceC pe_non fun _ => .non
theorem ce_str {x j} : CE X w E (.Constant (.str x) j pos) (cC (.str x)) := ceC pe_str fun _ => .str x
theorem ce_glob {x : Str} {t : T} {v : V} {u : Value} (hg : Gl X x) (hm : X.mg x = some u) (rv : RelV v u) (ht : ∀ Z, Tr X.K X.mg w Z t v) (hd : (x == ("__debug__" : Str)) = false := by decide) : CE X w E (.Name x pos) (cC t) := ceC (pe_glob hg hm rv hd) ht

/-! ### two values -/
def cOp2 (f : T → T → G T) (ca cb : EC) : EC := fun r => ca r >>= fun a => cb r >>= fun b => f a b
/-- what is asked of two values is had by their trees -/
def T2 (X : Km) (w : Wd) (E : XK) (rd : R2) (f : T → T → G T) : Prop := ∀ H0 Z0 r σ H Z o (_ : EnvR X.km w H0 Z0 r σ H Z o) a b x y (Q : VK), Tr X.K X.mg w Z a x → Tr X.K X.mg w Z b y →
  (f a b).wp (Post X.km w H Z Q) (PostX X.km w E H0 Z0) → rd x y H Q
theorem ev2 {f : T → T → G T} {ca cb : EC} {rd : R2} (hf : T2 X.km w E rd f) {σ : L2.St} {H : Hp} {Q : VK} (h : EvE X.km w E (cOp2 f ca cb) σ H Q) : tOp rd (EvE X.km w E ca) (EvE X.km w E cb) σ H Q := by
  obtain ⟨H0, Z0, r, Z, o, R, h⟩ := h
  refine evSeq (P := fun H Z => Post X.km w H Z Q) (PX := fun _ => True) R (fun g => Post.weak g) h fun x H1 Z1 a R1 g1 t1 h1 => ?_
  refine evSeq (P := fun H Z => Post X.km w H Z Q) (PX := fun _ => True) R1 (fun g => Post.weak g) h1 fun y H2 Z2 b R2 g2 t2 h2 => ?_
  exact hf H0 Z0 r σ H2 Z2 o R2 a b x y Q (t1.mono g2.zz) t2 h2
variable {a b : Expr} {ca cb : EC}
theorem ce_op {op : Operator} {rd : R2} {f : T → T → G T} (ho : OpR X (binaryOp op) rd) (hf : T2 X.km w E rd f) (ha : CE X w E a ca) (hb : CE X w E b cb) : CE X w E (.BinOp a op b pos) (cOp2 f ca cb) :=
  ⟨peImp (pe_op ho ha.pe hb.pe) fun _ _ _ h => ev2 hf h⟩
theorem ce_cmp {op : CmpOp} {rd : R2} {f : T → T → G T} (ho : OpR X (compareOp op) rd) (hf : T2 X.km w E rd f) (ha : CE X w E a ca) (hb : CE X w E b cb) (hm : behindInMarks op b = false := by first | exact nomark _ | rfl) : CE X w E (.Compare a [op] [b] pos) (cOp2 f ca cb) :=
  ⟨peImp (pe_cmpR ho ha.pe hb.pe hm) fun _ _ _ h => ev2 hf h⟩
theorem ce_ix {rd : R2} {f : T → T → G T} (ho : IxR X rd) (hf : T2 X.km w E rd f) (ha : CE X w E a ca) (hb : CE X w E b cb) (hs : PlainIx b := by exact fun _ _ => rfl) : CE X w E (.Subscript a b pos) (cOp2 f ca cb) :=
  ⟨peImp (pe_ix ho ha.pe hb.pe hs) fun _ _ _ h => ev2 hf h⟩
/-- ints -/
def fII (g : Int → Int → T) : T → T → G T
  | .int i, .int j => .ret (g i j)
  | _, _ => .stuck
theorem t2_int {g : Int → Int → V} {f : Int → Int → T} (h : ∀ Z i j, Tr X.K X.mg w Z (f i j) (g i j)) : T2 X.km w E (rI0 g) (fII f) := fun H0 Z0 r σ H Z o R a b x y Q ta tb hw => by
  cases ta <;> try exact hw.elim
  cases tb <;> try exact hw.elim
  exact ⟨_, _, rfl, rfl, hw _ H Z (Grow.refl R.good) (h _ _ _)⟩
end
end TL
end s_TL2
section s_TL3
set_option Elab.async false
set_option linter.all false
set_option maxRecDepth 100000
set_option maxHeartbeats 4000000
/-! TL3: tests, fresh expressions, arguments, calls -/
namespace TL
open PySem PySem.Spec PyProof.Rows L2
section
variable {X : Cx} {w : Wd} {E : XK} {e a b c : Expr} {es rest : List Expr} {pos : Pos} {ca cb cc : EC} {ta tb tc : List Sl → G Bool}

/-! ### tests -/
structure CW (X : Cx) (w : Wd) (E : XK) (e : Expr) (c : List Sl → G Bool) : Prop where
  pw : PW X e (EvT X.km w E c)
theorem CW.ct (h : CW X w E e ta) : CT X w E e ta := ⟨h.pw.pt⟩
def asB : T → G Bool
  | .bl b => .ret b
  | _ => .stuck
def cB (c : EC) : List Sl → G Bool := fun r => c r >>= asB
theorem evB {σ : L2.St} {H : Hp} {Q : Bool → Hp → Prop} (h : EvT X.km w E (cB ca) σ H Q) : EvE X.km w E ca σ H fun x H1 => ∃ k, x = .bl k ∧ Q k H1 := by
  obtain ⟨H0, Z0, r, Z, o, R, h⟩ := h
  refine evSeq (P := fun H Z => PostB w H Z Q) (PX := fun _ => True) R (fun g => PostB.weak g) h fun x H1 Z1 a R1 g1 t1 h1 => ?_
  cases t1 <;> try exact h1.elim
  exact ⟨_, rfl, h1 H1 Z1 (Grow.refl R1.good)⟩
theorem ct_val (h : CE X w E e ca) (he : ∀ whole, isTrue e X.env whole = (do let v ← whole; standAt e.pos; holding [v] (truthy v)) := by intro _; rfl) : CT X w E e (cB ca) :=
  ⟨ptImp (pt_val h.pe he) fun _ _ _ h => evB h⟩
theorem ct_cmp {op : CmpOp} {rd : R2} {f : T → T → G T} (ho : OpR X (compareOp op) rd) (hf : T2 X.km w E rd f) (ha : CE X w E a ca) (hb : CE X w E b cb) (hm : behindInMarks op b = false := by first | exact nomark _ | rfl) : CT X w E (.Compare a [op] [b] pos) (cB (cOp2 f ca cb)) := by
  refine ⟨ptImp (pt_cmpR ho ha.pe hb.pe hm) fun σ H Q h => ?_⟩
  obtain ⟨H0, Z0, r, Z, o, R, h⟩ := h
  have h' : EvE X.km w E (cOp2 f ca cb) σ H fun x H1 => ∃ k, x = .bl k ∧ Q k H1 := evB ⟨H0, Z0, r, Z, o, R, h⟩
  exact ev2 hf h'
def cAndT (ta tb : List Sl → G Bool) : List Sl → G Bool := fun r => ta r >>= fun p => if p then tb r else .ret false
def cOrT (ta tb : List Sl → G Bool) : List Sl → G Bool := fun r => ta r >>= fun p => if p then .ret true else tb r
def cNotT (ta : List Sl → G Bool) : List Sl → G Bool := fun r => ta r >>= fun p => .ret !p
theorem cw_and1 (ha : CT X w E a ta) : CW X w E (.BoolOp .And [a] pos) ta := ⟨pw_and1 ha.pt⟩
theorem cw_or1 (ha : CT X w E a ta) : CW X w E (.BoolOp .Or [a] pos) ta := ⟨pw_or1 ha.pt⟩
theorem pwImp {t t' : TT} (h : PW X e t) (f : ∀ σ H Q, t' σ H Q → t σ H Q) : PW X e t' := ⟨fun wh pins s σ H Q I hw => h.run wh pins s σ H Q I (f σ H Q hw)⟩
theorem cw_and (ha : CT X w E a ta) (hb : CW X w E (.BoolOp .And (b :: rest) pos) tb) : CW X w E (.BoolOp .And (a :: b :: rest) pos) (cAndT ta tb) := by
  refine ⟨pwImp (pw_and ha.pt hb.pw) fun σ H Q h => ?_⟩
  obtain ⟨H0, Z0, r, Z, o, R, h⟩ := h
  refine evSeqT (P := fun H Z => PostB w H Z Q) R (fun g => PostB.weak g) h fun H1 Z1 p R1 g1 h1 => ?_
  cases p with
  | false => exact iteF (h1 H1 Z1 (Grow.refl R1.good))
  | true => exact iteT ⟨H0, Z0, r, Z1, o, R1, h1⟩
theorem cw_or (ha : CT X w E a ta) (hb : CW X w E (.BoolOp .Or (b :: rest) pos) tb) : CW X w E (.BoolOp .Or (a :: b :: rest) pos) (cOrT ta tb) := by
  refine ⟨pwImp (pw_or ha.pt hb.pw) fun σ H Q h => ?_⟩
  obtain ⟨H0, Z0, r, Z, o, R, h⟩ := h
  refine evSeqT (P := fun H Z => PostB w H Z Q) R (fun g => PostB.weak g) h fun H1 Z1 p R1 g1 h1 => ?_
  cases p with
  | false => exact iteF ⟨H0, Z0, r, Z1, o, R1, h1⟩
  | true => exact iteT (h1 H1 Z1 (Grow.refl R1.good))
theorem ct_not (ha : CT X w E a ta) : CT X w E (.UnaryOp .Not a pos) (cNotT ta) := by
  refine ⟨ptImp (pt_not ha.pt) fun σ H Q h => ?_⟩
  obtain ⟨H0, Z0, r, Z, o, R, h⟩ := h
  exact evSeqT (P := fun H Z => PostB w H Z Q) R (fun g => PostB.weak g) h fun H1 Z1 p R1 g1 h1 => h1 H1 Z1 (Grow.refl R1.good)

/-! ### and, or, not, if as values -/
def cAndV (ca cb : EC) : EC := fun r => ca r >>= asB >>= fun p => if p then cb r else .ret (.bl false)
def cOrV (ca cb : EC) : EC := fun r => ca r >>= asB >>= fun p => if p then .ret (.bl true) else cb r
def cNotV (ca : EC) : EC := fun r => ca r >>= asB >>= fun p => .ret (.bl !p)
theorem ce_one {op} (h : CE X w E a ca) : CE X w E (.BoolOp op [a] pos) ca := ⟨pe_one h.pe⟩
/-- a bool first, then the rest -/
theorem evB2 {k : Bool → G T} {σ : L2.St} {H H0 Z0 Z : Hp} {r : List Sl} {o : Nat → List Addr} {Q : VK} {Q' : VK} (R : EnvR X.km w H0 Z0 r σ H Z o) (h : (ca r >>= asB >>= k).wp (Post X.km w H Z Q) (PostX X.km w E H0 Z0))
    (fin : ∀ p H1 Z1, EnvR X.km w H0 Z0 r σ H1 Z1 o → (k p).wp (Post X.km w H1 Z1 Q) (PostX X.km w E H0 Z0) → Q' (.bl p) H1) : EvE X.km w E ca σ H Q' := by
  rw [G.bind_assoc] at h
  refine evSeq (P := fun H Z => Post X.km w H Z Q) (PX := fun _ => True) R (fun g => Post.weak g) h fun x H1 Z1 a R1 g1 t1 h1 => ?_
  cases t1 <;> try exact h1.elim
  exact fin _ H1 Z1 R1 h1
theorem ce_and (ha : CE X w E a ca) (hb : CE X w E (.BoolOp .And (b :: rest) pos) cb) : CE X w E (.BoolOp .And (a :: b :: rest) pos) (cAndV ca cb) := by
  refine ⟨peImp (pe_and ha.pe hb.pe) fun σ H Q h => ?_⟩
  obtain ⟨H0, Z0, r, Z, o, R, h⟩ := h
  refine evB2 R h fun p H1 Z1 R1 h1 => ⟨p, rfl, ?_⟩
  cases p with
  | false => exact iteF (h1 _ H1 Z1 (Grow.refl R1.good) (.bl _))
  | true => exact iteT ⟨H0, Z0, r, Z1, o, R1, h1⟩
theorem ce_or (ha : CE X w E a ca) (hb : CE X w E (.BoolOp .Or (b :: rest) pos) cb) : CE X w E (.BoolOp .Or (a :: b :: rest) pos) (cOrV ca cb) := by
  refine ⟨peImp (pe_or ha.pe hb.pe) fun σ H Q h => ?_⟩
  obtain ⟨H0, Z0, r, Z, o, R, h⟩ := h
  refine evB2 R h fun p H1 Z1 R1 h1 => ⟨p, rfl, ?_⟩
  cases p with
  | false => exact iteF ⟨H0, Z0, r, Z1, o, R1, h1⟩
  | true => exact iteT (h1 _ H1 Z1 (Grow.refl R1.good) (.bl _))
theorem ce_not (ha : CE X w E a ca) : CE X w E (.UnaryOp .Not a pos) (cNotV ca) := by
  refine ⟨peImp (pe_not ha.pe) fun σ H Q h => ?_⟩
  obtain ⟨H0, Z0, r, Z, o, R, h⟩ := h
  exact evB2 R h fun p H1 Z1 R1 h1 => ⟨p, rfl, h1 _ H1 Z1 (Grow.refl R1.good) (.bl _)⟩
/-- a test as a value: not t -/
theorem ce_notT (ha : CT X w E a ta) : CT X w E a ta := ha
def cIf (tc : List Sl → G Bool) (ca cb : EC) : EC := fun r => tc r >>= fun p => if p then ca r else cb r
theorem ce_if (hc : CT X w E c tc) (ha : CE X w E a ca) (hb : CE X w E b cb) : CE X w E (.IfExp c a b pos) (cIf tc ca cb) := by
  refine ⟨peImp (pe_ifExp hc.pt ha.pe hb.pe) fun σ H Q h => ?_⟩
  obtain ⟨H0, Z0, r, Z, o, R, h⟩ := h
  refine evSeqT (P := fun H Z => Post X.km w H Z Q) R (fun g => Post.weak g) h fun H1 Z1 p R1 g1 h1 => ?_
  cases p with
  | false => exact iteF ⟨H0, Z0, r, Z1, o, R1, h1⟩
  | true => exact iteT ⟨H0, Z0, r, Z1, o, R1, h1⟩

/-! ### one value -/
def cOp1 (f : T → G T) (ca : EC) : EC := fun r => ca r >>= f
def T1 (X : Km) (w : Wd) (E : XK) (rd : V → Hp → VK → Prop) (f : T → G T) : Prop := ∀ H0 Z0 r σ H Z o (_ : EnvR X.km w H0 Z0 r σ H Z o) a x (Q : VK), Tr X.K X.mg w Z a x → (f a).wp (Post X.km w H Z Q) (PostX X.km w E H0 Z0) → rd x H Q
theorem ev1 {f : T → G T} {rd : V → Hp → VK → Prop} (hf : T1 X.km w E rd f) {σ : L2.St} {H : Hp} {Q : VK} (h : EvE X.km w E (cOp1 f ca) σ H Q) : EvE X.km w E ca σ H fun x H1 => rd x H1 Q := by
  obtain ⟨H0, Z0, r, Z, o, R, h⟩ := h
  exact evSeq (P := fun H Z => Post X.km w H Z Q) (PX := fun _ => True) R (fun g => Post.weak g) h fun x H1 Z1 a R1 g1 t1 h1 => hf H0 Z0 r σ H1 Z1 o R1 a x Q t1 h1
theorem ce_un {op : UnaryOp} {rd : V → Hp → VK → Prop} {f : T → G T} (ho : UnR X (unaryOp op) rd) (hf : T1 X.km w E rd f) (ha : CE X w E a ca) : CE X w E (.UnaryOp op a pos) (cOp1 f ca) :=
  ⟨peImp (pe_un ho ha.pe) fun _ _ _ h => ev1 hf h⟩
def fI1 (g : Int → T) : T → G T
  | .int i => .ret (g i)
  | _ => .stuck
theorem t1_int {g : Int → V} {f : Int → T} (h : ∀ Z i, Tr X.K X.mg w Z (f i) (g i)) : T1 X.km w E (rU g) (fI1 f) := fun H0 Z0 r σ H Z o R a x Q ta hw => by
  cases ta <;> try exact hw.elim
  exact ⟨_, rfl, hw _ H Z (Grow.refl R.good) (h _ _)⟩
/-- is None, is not None -/
def fIsN : T → G T
  | .non => .ret (.bl true)
  | .bl _ | .int _ | .str _ | .tup _ | .lst _ | .dic _ | .ins _ _ => .ret (.bl false)
  | _ => .stuck
def fNotN : T → G T
  | .non => .ret (.bl false)
  | .bl _ | .int _ | .str _ | .tup _ | .lst _ | .dic _ | .ins _ _ => .ret (.bl true)
  | _ => .stuck
theorem t1_isN : T1 X.km w E (fun x H Q => Q (.bl (decide (x = .non))) H) fIsN := fun H0 Z0 r σ H Z o R a x Q ta hw => by
  cases ta <;> first | exact hw.elim | exact hw _ H Z (Grow.refl R.good) (.bl _)
theorem t1_notN : T1 X.km w E (fun x H Q => Q (.bl (!decide (x = .non))) H) fNotN := fun H0 Z0 r σ H Z o R a x Q ta hw => by
  cases ta <;> first | exact hw.elim | exact hw _ H Z (Grow.refl R.good) (.bl _)
theorem ce_isN {j pos'} (ha : CE X w E a ca) : CE X w E (.Compare a [.Is] [.Constant .none j pos'] pos) (cOp1 fIsN ca) := ⟨peImp (pe_cmp (pc_isN ha.pe)) fun _ _ _ h => ev1 t1_isN h⟩
theorem ce_notN {j pos'} (ha : CE X w E a ca) : CE X w E (.Compare a [.IsNot] [.Constant .none j pos'] pos) (cOp1 fNotN ca) := ⟨peImp (pe_cmp (pc_notN ha.pe)) fun _ _ _ h => ev1 t1_notN h⟩
theorem ct_isN {j pos'} (ha : CE X w E a ca) : CT X w E (.Compare a [.Is] [.Constant .none j pos'] pos) (cB (cOp1 fIsN ca)) := by
  refine ⟨ptImp (pt_cmp (pc_isN ha.pe)) fun σ H Q h => ?_⟩
  exact ev1 t1_isN (evB h)
theorem ct_notN {j pos'} (ha : CE X w E a ca) : CT X w E (.Compare a [.IsNot] [.Constant .none j pos'] pos) (cB (cOp1 fNotN ca)) := by
  refine ⟨ptImp (pt_cmp (pc_notN ha.pe)) fun σ H Q h => ?_⟩
  exact ev1 t1_notN (evB h)

/-! ### arguments -/
def caNil : List Sl → G (List T) := fun _ => .ret []
def caCons (c : EC) (cs : List Sl → G (List T)) : List Sl → G (List T) := fun r => c r >>= fun t => cs r >>= fun ts => .ret (t :: ts)
variable {cs : List Sl → G (List T)}
theorem ca_nil : CA X w E [] caNil := ⟨paImp pa_nil fun σ H Q ⟨H0, Z0, r, Z, o, R, h⟩ => h [] H Z (Grow.refl R.good) .nil⟩
theorem ca_cons (ha : CE X w E e ca) (hr : CA X w E es cs) (hs : starEach (e :: es) X.env = (false, eval e X.env) :: starEach es X.env := by rfl) : CA X w E (e :: es) (caCons ca cs) := by
  refine ⟨paImp (pa_cons ha.pe hr.pa hs) fun σ H Q h => ?_⟩
  obtain ⟨H0, Z0, r, Z, o, R, h⟩ := h
  refine evSeq (P := fun H Z => PostA X.km w H Z Q) (PX := fun _ => True) R (fun g => PostA.weak g) h fun x H1 Z1 a R1 g1 t1 h1 => ?_
  refine evSeqA (P := fun H Z => PostA X.km w H Z Q) R1 (fun g => PostA.weak g) h1 fun xs H2 Z2 ts R2 g2 t2 h2 => ?_
  exact h2 _ H2 Z2 (Grow.refl R2.good) (.cons (t1.mono g2.zz) t2)
/-- no star: as many as are written -/
def Len (cs : List Sl → G (List T)) (n : Nat) : Prop := ∀ r Q E, (cs r).wp Q E → (cs r).wp (fun ts => ts.length = n ∧ Q ts) E
theorem len_nil : Len caNil 0 := fun r Q E h => ⟨rfl, h⟩
theorem len_cons {n : Nat} (h : Len cs n) : Len (caCons ca cs) (n + 1) := fun r Q E hw => by
  refine G.wp_bind.mpr (G.wp_mono (G.wp_bind.mp hw) (fun t ht => ?_) fun _ x => x)
  exact G.wp_bind.mpr (G.wp_mono (h r _ E (G.wp_bind.mp ht)) (fun ts q => ⟨by simp [q.1], q.2⟩) fun _ x => x)

/-! ### fresh things -/
def Fresh (w : Wd) (H Z' : Hp) (o : List Addr) : Prop := ∀ a ∈ o, H a = none ∧ Z' a = none ∧ a ∉ w.W
def PostF (X : Km) (w : Wd) (H Z : Hp) (Q : VK) : T → Prop := fun t => ∀ p o H' Z', Grow w H Z H' Z' → Root X.K X.mg w Z' H' t p o → Fresh w H Z' o → Q (.ref p) H'
def EvF (X : Km) (w : Wd) (E : XK) (c : EC) : TE := fun σ H Q => ∃ H0 Z0 r Z o, EnvR X.km w H0 Z0 r σ H Z o ∧ (c r).wp (PostF X.km w H Z Q) (PostX X.km w E H0 Z0)
structure CF (X : Cx) (w : Wd) (E : XK) (e : Expr) (c : EC) : Prop where
  pe : PE X e (EvF X.km w E c)
theorem PostF.weak {H Z H1 Z1 : Hp} {Q : VK} {t : T} (g : Grow w H Z H1 Z1) (h : PostF X.km w H Z Q t) : PostF X.km w H1 Z1 Q t := by
  intro p o H' Z' g' r f
  refine h p o H' Z' (g.trans g') r fun a ha => ⟨?_, (f a ha).2⟩
  cases q : H a with
  | none => rfl
  | some u =>
    have z := (f a ha).1
    rw [g.hh a u q (f a ha).2.2] at z
    cases z
theorem Grow.frz {H Z H' Z' : Hp} (g : Grow w H Z H' Z') {a : Addr} {u : HO} (h : H a = none) (hz : Z' a = none) (hw : a ∉ w.W) (hu : H' a = some u) : Grow w H Z H' (upd Z' a u) :=
  ⟨⟨fun b v e => by
      by_cases ne : b = a
      · subst ne; rw [upd_same] at e; cases e; exact hu
      · rw [upd_ne ne] at e; exact g.good.zh b v e, fun b hb => by rw [upd_ne (fun z => hw (by rw [← z]; exact hb))]; exact g.good.zw b hb, g.good.wi⟩,
    g.zz.trans (Sub.upd hz), fun b v e => by
      by_cases ne : b = a
      · subst ne; exact .inr h
      · rw [upd_ne ne] at e; exact g.new b v e, g.hh⟩
/-- a thing may be locked first -/
def Fz (P : Hp → Prop) (H : Hp) : Prop := P H ∨ ∃ d u, H d = some u ∧ Mut (some u) ∧ ∀ od, P (upd H d (.frz od u))
theorem Fz.imp {P P' : Hp → Prop} {H : Hp} (h : Fz P H) (f : ∀ H', P H' → P' H')   : Fz P' H := Or.imp (f _) (fun ⟨d, u, e, m, q⟩ => ⟨d, u, e, m, fun od => f _ (q od)⟩) h
theorem pe_lk {t : TE} (h : PE X e t) : PE X e (fun σ H Q => t σ H fun v H1 => Fz (Q v) H1) := by
  refine ⟨fun pins s σ H Q I hw => ?_⟩
  refine thn (h.run pins s σ H _ I hw) fun v s1 ⟨x, H1, I1, r, q⟩ => ?_
  rcases q with q | ⟨d, u, hd, mu, q⟩
  · exact ⟨x, H1, I1, r, q⟩
  · obtain ⟨od, I2⟩ := I1.lock hd mu
    exact ⟨x, _, I2, r, q od⟩
/-- a fresh thing is frozen -/
theorem Grow.frozen {X : Km} {H Z H' Z' : Hp} {t : T} {p : Addr} {o : List Addr} (g : Grow w H Z H' Z') (r : Root X.K X.mg w Z' H' t p o) (f : Fresh w H Z' o) :
    Fz (fun H2 => ∃ Z2, Grow w H Z H2 Z2 ∧ Sub Z' Z2 ∧ Tr X.K X.mg w Z2 t (.ref p) ∧ (∀ a, a ∉ o → Z2 a = Z' a) ∧ ∀ a, a ∉ o → H2 a = H' a) H' := by
  cases t <;> try exact r.elim
  case tup ts =>
    obtain ⟨a, bs, rfl, q, va, vs, rfl, h1, h2, h3, h4, h5⟩ := r.ex
    obtain ⟨f1, f2, f3⟩ := f q (by simp)
    have s := Sub.upd (o := HO.lst vs) f2
    exact .inl ⟨_, g.frz f1 f2 f3 h3, s, .tup (s.sqT h1) (Nat.le_of_lt (small1000 (show [va, V.ref q].length ≤ 1000 from by show 2 ≤ 1000; decide))) (.cons (h2.mono s) (.cons (.lst upd_same h4 (h5.mono s)) .nil)), fun a ha => upd_ne (by simpa using ha), fun a _ => rfl⟩
  case lst ts =>
    obtain ⟨rfl, vs, h, l, tr⟩ := r
    obtain ⟨f1, f2, f3⟩ := f p (by simp)
    exact .inl ⟨_, g.frz f1 f2 f3 h, Sub.upd f2, .lst upd_same l (tr.mono (Sub.upd f2)), fun a ha => upd_ne (by simpa using ha), fun a _ => rfl⟩
  case dic ts =>
    obtain ⟨rfl, vs, h, l, tr⟩ := r
    obtain ⟨f1, f2, f3⟩ := f p (by simp)
    refine .inr ⟨p, _, h, True.intro, fun od => ?_⟩
    have hs : Sub Z' (upd H' p (.frz od (.dK vs))) := fun b v e => by
      have ne : b ≠ p := fun q => by rw [q, f2] at e; cases e
      rw [upd_ne ne]; exact g.good.zh b v e
    have g2 : Grow w H Z (upd H' p (.frz od (.dK vs))) Z' := ⟨⟨hs, g.good.zw, w.loc _ _ (fun b hb => upd_ne (fun q => f3 (q ▸ hb))) g.good.wi⟩, g.zz, g.new, fun b v e hb => by
      have ne : b ≠ p := fun q => by rw [q, f1] at e; cases e
      rw [upd_ne ne]; exact g.hh b v e hb⟩
    exact ⟨_, g2.frz f1 f2 f3 upd_same, Sub.upd f2, .dic ⟨od, upd_same⟩ l (tr.mono (Sub.upd f2)), fun a ha => upd_ne (by simpa using ha), fun a ha => upd_ne (by simpa using ha)⟩
  case ins c fs =>
    obtain ⟨C, dx, gs, rfl, ne, m, h, h2, tr⟩ := r
    obtain ⟨f1, f2, f3⟩ := f p (by simp)
    obtain ⟨k1, k2, k3⟩ := f dx (by simp)
    have s1 : Sub Z' (upd Z' p (.ins C dx gs)) := Sub.upd f2
    have z2 : upd Z' p (.ins C dx gs) dx = none := by rw [upd_ne ne]; exact k2
    refine .inl ⟨_, (g.frz f1 f2 f3 h).frz k1 z2 k3 h2, s1.trans (Sub.upd z2), .ins m (by rw [upd_ne (Ne.symm ne)]; exact upd_same) upd_same (tr.mono (s1.trans (Sub.upd z2))), fun a ha => ?_, fun a _ => rfl⟩
    simp at ha
    rw [upd_ne ha.2, upd_ne ha.1]
theorem CF.ce (h : CF X w E e ca) : CE X w E e ca := ⟨peImp (pe_lk h.pe) fun σ H Q ⟨H0, Z0, r, Z, o, R, h⟩ => ⟨H0, Z0, r, Z, o, R, G.wp_mono h (fun t ht p o H' Z' g rt f =>
  (g.frozen rt f).imp fun H2 ⟨Z2, g2, _, tr, _⟩ => ht _ H2 Z2 g2 tr) fun _ x => x⟩⟩
theorem Grow.newRoot {H Z : Hp} (g : Good w H Z) {p : Addr} (hp : H p = none) : Fresh w H Z [p] := fun a ha => by
  simp at ha; subst ha
  exact ⟨hp, g.tracked hp, fun hw => g.nw hp a hw rfl⟩
/-- displays -/
def cTup (cs : List Sl → G (List T)) : EC := fun r => cs r >>= fun ts => .ret (.tup ts)
def cLst (cs : List Sl → G (List T)) : EC := fun r => cs r >>= fun ts => .ret (.lst ts)
theorem ce_tup {x1} {n : Nat} (h : CA X w E es cs) (hl : Len cs n) (hn : n ≤ 1000 := by decide) : CE X w E (.Tuple es x1 pos) (cTup cs) := by
  refine ⟨peImp (pe_tup h.pa) fun σ H Q h => ?_⟩
  obtain ⟨H0, Z0, r, Z, o, R, h⟩ := h
  have h' : (cs r >>= fun ts => if ts.length = n then G.ret (T.tup ts) else .stuck).wp (Post X.km w H Z Q) (PostX X.km w E H0 Z0) :=
    G.wp_bind.mpr (G.wp_mono (hl r _ _ (G.wp_bind.mp h)) (fun ts q => by rw [if_pos q.1]; exact q.2) fun _ x => x)
  refine evSeqA (P := fun H Z => Post X.km w H Z Q) R (fun g => Post.weak g) h' fun xs H1 Z1 ts R1 g1 t1 h1 => ?_
  by_cases e : ts.length = n
  · rw [if_pos e] at h1
    have hz : xs.length ≤ sizeLine := Nat.le_of_lt (small1000 (by rw [← t1.length, e]; exact hn))
    refine ⟨hz, fun p hp => ?_⟩
    exact h1 _ _ (upd Z1 p (.tup xs)) (Grow.laidF R1.good hp) (.tup (SqT.of upd_same) hz (t1.mono (Sub.upd (R1.good.tracked hp))))
  · rw [if_neg e] at h1; exact h1.elim
theorem cf_lst {n : Nat} (h : CA X w E es cs) (hl : Len cs n) (hn : n ≤ 1000 := by decide) : CF X w E (.List es pos) (cLst cs) := by
  refine ⟨peImp (pe_lst h.pa) fun σ H Q h => ?_⟩
  obtain ⟨H0, Z0, r, Z, o, R, h⟩ := h
  have h' : (cs r >>= fun ts => if ts.length = n then G.ret (T.lst ts) else .stuck).wp (PostF X.km w H Z Q) (PostX X.km w E H0 Z0) :=
    G.wp_bind.mpr (G.wp_mono (hl r _ _ (G.wp_bind.mp h)) (fun ts q => by rw [if_pos q.1]; exact q.2) fun _ x => x)
  refine evSeqA (P := fun H Z => PostF X.km w H Z Q) R (fun g => PostF.weak g) h' fun xs H1 Z1 ts R1 g1 t1 h1 => ?_
  by_cases e : ts.length = n
  · rw [if_pos e] at h1
    have hz : xs.length ≤ sizeLine := Nat.le_of_lt (small1000 (by rw [← t1.length, e]; exact hn))
    refine ⟨hz, fun p hp => ?_⟩
    exact h1 p [p] _ Z1 (Grow.laid R1.good hp) ⟨rfl, xs, upd_same, hz, t1⟩ (Grow.newRoot R1.good hp)
  · rw [if_neg e] at h1; exact h1.elim

/-! ### built-ins by name -/
def cCall (F : List T → G T) (cs : List Sl → G (List T)) : EC := fun r => cs r >>= F
def TN (X : Km) (w : Wd) (E : XK) (rd : List V → Hp → VK → Prop) (F : List T → G T) : Prop := ∀ H0 Z0 r σ H Z o (_ : EnvR X.km w H0 Z0 r σ H Z o) ts vs (Q : VK), Trs X.K X.mg w Z ts vs → (F ts).wp (Post X.km w H Z Q) (PostX X.km w E H0 Z0) → rd vs H Q
/-- .. that make a new thing -/
def TNF (X : Km) (w : Wd) (E : XK) (rd : List V → Hp → VK → Prop) (F : List T → G T) : Prop := ∀ H0 Z0 r σ H Z o (_ : EnvR X.km w H0 Z0 r σ H Z o) ts vs (Q : VK), Trs X.K X.mg w Z ts vs → (F ts).wp (PostF X.km w H Z Q) (PostX X.km w E H0 Z0) → rd vs H Q
theorem evN {F : List T → G T} {rd : List V → Hp → VK → Prop} (hf : TN X.km w E rd F) {σ : L2.St} {H : Hp} {Q : VK} (h : EvE X.km w E (cCall F cs) σ H Q) : EvA X.km w E cs σ H fun xs H1 => rd xs H1 Q := by
  obtain ⟨H0, Z0, r, Z, o, R, h⟩ := h
  exact evSeqA (P := fun H Z => Post X.km w H Z Q) R (fun g => Post.weak g) h fun xs H1 Z1 ts R1 g1 t1 h1 => hf H0 Z0 r σ H1 Z1 o R1 ts xs Q t1 h1
theorem evNF {F : List T → G T} {rd : List V → Hp → VK → Prop} (hf : TNF X.km w E rd F) {σ : L2.St} {H : Hp} {Q : VK} (h : EvF X.km w E (cCall F cs) σ H Q) : EvA X.km w E cs σ H fun xs H1 => rd xs H1 Q := by
  obtain ⟨H0, Z0, r, Z, o, R, h⟩ := h
  exact evSeqA (P := fun H Z => PostF X.km w H Z Q) R (fun g => PostF.weak g) h fun xs H1 Z1 ts R1 g1 t1 h1 => hf H0 Z0 r σ H1 Z1 o R1 ts xs Q t1 h1
variable {x : Str} {p : Pos} {id Ty : String} {rd : List V → Hp → VK → Prop} {F : List T → G T}
theorem ce_callB (hc : CallR X (.builtin id) rd) (hf : TN X.km w E rd F) (hg : Gl X x) (hm : X.mg x = none) (hv : bootBuiltins x = some (.builtin id)) (ha : CA X w E (e :: es) cs) (hn : x ≠ "__name__" := by decide) (hdb : (x == ("__debug__" : Str)) = false := by decide)
    (he : starEach (e :: es) X.env = (false, eval e X.env) :: starEach es X.env := by rfl) (hpl : (backTo pos (starEach es X.env)).any (·.1) = false := by rfl) : CE X w E (.Call (.Name x p) (e :: es) [] pos) (cCall F cs) :=
  ⟨peImp (pe_callB hc hg hm hv ha.pa hn hdb he hpl) fun _ _ _ h => evN hf h⟩
theorem ce_callTy (hc : CallR X (.type Ty) rd) (hf : TN X.km w E rd F) (hg : Gl X x) (hm : X.mg x = none) (hv : bootBuiltins x = some (.type Ty)) (ha : CA X w E (e :: es) cs) (hn : x ≠ "__name__" := by decide) (hdb : (x == ("__debug__" : Str)) = false := by decide)
    (he : starEach (e :: es) X.env = (false, eval e X.env) :: starEach es X.env := by rfl) (hpl : (backTo pos (starEach es X.env)).any (·.1) = false := by rfl) : CE X w E (.Call (.Name x p) (e :: es) [] pos) (cCall F cs) :=
  ⟨peImp (pe_callTy hc hg hm hv ha.pa hn hdb he hpl) fun _ _ _ h => evN hf h⟩
theorem cf_callB (hc : CallR X (.builtin id) rd) (hf : TNF X.km w E rd F) (hg : Gl X x) (hm : X.mg x = none) (hv : bootBuiltins x = some (.builtin id)) (ha : CA X w E (e :: es) cs) (hn : x ≠ "__name__" := by decide) (hdb : (x == ("__debug__" : Str)) = false := by decide)
    (he : starEach (e :: es) X.env = (false, eval e X.env) :: starEach es X.env := by rfl) (hpl : (backTo pos (starEach es X.env)).any (·.1) = false := by rfl) : CF X w E (.Call (.Name x p) (e :: es) [] pos) (cCall F cs) :=
  ⟨peImp (pe_callB hc hg hm hv ha.pa hn hdb he hpl) fun _ _ _ h => evNF hf h⟩
theorem cf_callTy (hc : CallR X (.type Ty) rd) (hf : TNF X.km w E rd F) (hg : Gl X x) (hm : X.mg x = none) (hv : bootBuiltins x = some (.type Ty)) (ha : CA X w E (e :: es) cs) (hn : x ≠ "__name__" := by decide) (hdb : (x == ("__debug__" : Str)) = false := by decide)
    (he : starEach (e :: es) X.env = (false, eval e X.env) :: starEach es X.env := by rfl) (hpl : (backTo pos (starEach es X.env)).any (·.1) = false := by rfl) : CF X w E (.Call (.Name x p) (e :: es) [] pos) (cCall F cs) :=
  ⟨peImp (pe_callTy hc hg hm hv ha.pa hn hdb he hpl) fun _ _ _ h => evNF hf h⟩

/-! ### defs -/
/-- a def's promise by its computation: a frozen answer -/
def SpT (K : PySem.W.Frag) (mg : Str → Option Value) (n : Nat) (F : List T → G T) : Sp := fun vs H Q E => ∃ (w : Wd) (ts : List T) (Z : Hp), vs.length = n ∧ Good w H Z ∧ Trs K mg w Z ts vs ∧
  (F ts).wp (fun t => ∀ v H' Z', Grow w H Z H' Z' → Tr K mg w Z' t v → Q v H') (fun e => ∀ cls d H' Z', Grow w H Z H' Z' → ExR K mg w Z' H' e cls d → E cls d H')
/-- .. an answer that is new -/
def SpF (K : PySem.W.Frag) (mg : Str → Option Value) (n : Nat) (F : List T → G T) : Sp := fun vs H Q E => ∃ (w : Wd) (ts : List T) (Z : Hp), vs.length = n ∧ Good w H Z ∧ Trs K mg w Z ts vs ∧
  (F ts).wp (fun t => ∀ p o H' Z', Grow w H Z H' Z' → Root K mg w Z' H' t p o → Fresh w H Z' o → Q (.ref p) H') (fun e => ∀ cls d H' Z', Grow w H Z H' Z' → ExR K mg w Z' H' e cls d → E cls d H')
variable {CX : CXT} {k n : Nat} {f : Addr} {fd : FuncData} {ps : List Str}
theorem ce_call (Fk : FnOk X.prog X.w X.K X.mg X.base CX k f fd ps (SpT X.K X.mg n F)) (hr : Room k X.A) (hg : Gl X x) (hm : X.mg x = some (.ref f)) (hk : PySem.W.keepIn X.K (.ref f) = true) (hb : Binds X.K fd ps []) (hx : Passes CX X E)
    (ha : CA X w E (e :: es) cs) (hl : Len cs n) (hdb : (x == ("__debug__" : Str)) = false := by decide) (he : starEach (e :: es) X.env = (false, eval e X.env) :: starEach es X.env := by rfl) (hpl : (backTo pos (starEach es X.env)).any (·.1) = false := by rfl) :
    CE X w E (.Call (.Name x p) (e :: es) [] pos) (cCall F cs) := by
  refine ⟨peImp (pe_call Fk hr hg hm hk hb .nil hx ha.pa hdb he hpl) fun σ H Q h => ?_⟩
  obtain ⟨H0, Z0, r, Z, o, R, h⟩ := h
  have h' : (cs r >>= fun ts => if ts.length = n then F ts else .stuck).wp (Post X.km w H Z Q) (PostX X.km w E H0 Z0) :=
    G.wp_bind.mpr (G.wp_mono (hl r _ _ (G.wp_bind.mp h)) (fun ts q => by rw [if_pos q.1]; exact q.2) fun _ x => x)
  refine evSeqA (P := fun H Z => Post X.km w H Z Q) R (fun g => Post.weak g) h' fun xs H1 Z1 ts R1 g1 t1 h1 => ?_
  by_cases e : ts.length = n
  · rw [if_pos e] at h1
    rw [List.append_nil]
    exact ⟨w, ts, Z1, by rw [← t1.length, e], R1.good, t1, G.wp_mono h1 (fun t ht v H' Z' g tr => ht v H' Z' g tr) fun ex hx cls d H' Z' g q => hx cls d H' Z' (R1.gr.trans g) q⟩
  · rw [if_neg e] at h1; exact h1.elim
theorem cf_call (Fk : FnOk X.prog X.w X.K X.mg X.base CX k f fd ps (SpF X.K X.mg n F)) (hr : Room k X.A) (hg : Gl X x) (hm : X.mg x = some (.ref f)) (hk : PySem.W.keepIn X.K (.ref f) = true) (hb : Binds X.K fd ps []) (hx : Passes CX X E)
    (ha : CA X w E (e :: es) cs) (hl : Len cs n) (hdb : (x == ("__debug__" : Str)) = false := by decide) (he : starEach (e :: es) X.env = (false, eval e X.env) :: starEach es X.env := by rfl) (hpl : (backTo pos (starEach es X.env)).any (·.1) = false := by rfl) :
    CF X w E (.Call (.Name x p) (e :: es) [] pos) (cCall F cs) := by
  refine ⟨peImp (pe_call Fk hr hg hm hk hb .nil hx ha.pa hdb he hpl) fun σ H Q h => ?_⟩
  obtain ⟨H0, Z0, r, Z, o, R, h⟩ := h
  have h' : (cs r >>= fun ts => if ts.length = n then F ts else .stuck).wp (PostF X.km w H Z Q) (PostX X.km w E H0 Z0) :=
    G.wp_bind.mpr (G.wp_mono (hl r _ _ (G.wp_bind.mp h)) (fun ts q => by rw [if_pos q.1]; exact q.2) fun _ x => x)
  refine evSeqA (P := fun H Z => PostF X.km w H Z Q) R (fun g => PostF.weak g) h' fun xs H1 Z1 ts R1 g1 t1 h1 => ?_
  by_cases e : ts.length = n
  · rw [if_pos e] at h1
    rw [List.append_nil]
    exact ⟨w, ts, Z1, by rw [← t1.length, e], R1.good, t1, G.wp_mono h1 (fun t ht p o H' Z' g rt f => ht p o H' Z' g rt f) fun ex hx cls d H' Z' g q => hx cls d H' Z' (R1.gr.trans g) q⟩
  · rw [if_neg e] at h1; exact h1.elim
end
end TL
end s_TL3
section s_TL4
set_option Elab.async false
set_option linter.all false
set_option maxRecDepth 100000
set_option maxHeartbeats 4000000
/-! TL4: statements, targets, loops -/
namespace TL
open PySem PySem.Spec PyProof.Rows L2

inductive Ctl where
  | nx (r : List Sl) | rt (t : T) | bk (r : List Sl) | ct (r : List Sl)
abbrev SC := List Sl → G Ctl

section
variable (X : Km) (w : Wd) (E : XK) (fr : Bool)
/-- what is wanted behind a statement; fr: the def answers a new thing -/
def PostR (H0 Z0 : Hp) (t : T) (Q : VK) : Prop := if fr = true then ∀ p o H Z, Grow w H0 Z0 H Z → Root X.K X.mg w Z H t p o → Fresh w H0 Z o → Q (.ref p) H else ∀ v H Z, Grow w H0 Z0 H Z → Tr X.K X.mg w Z t v → Q v H
def PostS (H0 Z0 Z : Hp) (D : Ends) : Ctl → Prop
  | .nx r => ∀ σ H Z' o, EnvR X.km w H0 Z0 r σ H Z' o → Sub Z Z' → D.nx σ H
  | .bk r => ∀ σ H Z' o, EnvR X.km w H0 Z0 r σ H Z' o → Sub Z Z' → D.bk σ H
  | .ct r => ∀ σ H Z' o, EnvR X.km w H0 Z0 r σ H Z' o → Sub Z Z' → D.ct σ H
  | .rt t => PostR X.km w fr H0 Z0 t D.rt
def EvS (c : SC) : TS := fun D σ H => ∃ H0 Z0 r Z o, EnvR X.km w H0 Z0 r σ H Z o ∧ (c r).wp (PostS X.km w fr H0 Z0 Z D) (PostX X.km w E H0 Z0)
end
section
variable (X : Cx) (w : Wd) (E : XK) (fr : Bool)
structure CS (st : Stmt) (c : SC) : Prop where
  ps : PS X st (EvS X.km w E fr c)
structure CSs (sts : List Stmt) (c : SC) : Prop where
  ps : PSs X sts (EvS X.km w E fr c)
end

section
variable {X : Cx} {w : Wd} {E : XK} {fr : Bool} {st : Stmt} {sts rest : List Stmt} {c d : SC} {e : Expr} {pos : Pos} {ca : EC}
theorem psImp {t t' : TS} (h : PS X st t) (f : ∀ D σ H, t' D σ H → t D σ H) : PS X st t' := ⟨fun pins s σ H D I hw => h.run pins s σ H D I (f D σ H hw)⟩
theorem pssImp {t t' : TS} (h : PSs X sts t) (f : ∀ D σ H, t' D σ H → t D σ H) : PSs X sts t' := ⟨fun pins s σ H D I hw => h.run pins s σ H D I (f D σ H hw)⟩
variable {H0 Z0 H Z Z1 : Hp} {r : List Sl} {σ : L2.St} {o : Nat → List Addr} {D : Ends}
theorem PostS.weak {k : Ctl} (s : Sub Z Z1) (h : PostS X.km w fr H0 Z0 Z D k) : PostS X.km w fr H0 Z0 Z1 D k := by
  cases k with
  | nx r => exact fun σ H Z' o R s' => h σ H Z' o R (s.trans s')
  | bk r => exact fun σ H Z' o R s' => h σ H Z' o R (s.trans s')
  | ct r => exact fun σ H Z' o R s' => h σ H Z' o R (s.trans s')
  | rt t => exact h
/-- one statement, then the rest -/
def cSeq (c d : SC) : SC := fun r => c r >>= fun k => match k with
  | .nx r' => d r'
  | k => .ret k
theorem css_nil : CSs X w E fr [] (fun r => .ret (.nx r)) := ⟨pssImp pss_nil fun D σ H ⟨H0, Z0, r, Z, o, R, h⟩ => h σ H Z o R (Sub.refl _)⟩
theorem css_cons (h1 : CS X w E fr st c) (h2 : CSs X w E fr rest d) : CSs X w E fr (st :: rest) (cSeq c d) := by
  refine ⟨pssImp (pss_cons h1.ps h2.ps) fun D σ H h => ?_⟩
  obtain ⟨H0, Z0, r, Z, o, R, h⟩ := h
  refine ⟨H0, Z0, r, Z, o, R, G.wp_mono (G.wp_bind.mp h) (fun k hk => ?_) fun _ x => x⟩
  cases k with
  | nx r' => exact fun σ' H' Z' o' R' s' => ⟨H0, Z0, r', Z', o', R', G.wp_mono hk (fun k q => PostS.weak s' q) fun _ x => x⟩
  | bk r' => exact hk
  | ct r' => exact hk
  | rt t => exact hk
theorem css_one (h1 : CS X w E fr st c) : CSs X w E fr [st] c := ⟨pss_one h1.ps⟩
theorem css_never : CSs X w E fr sts (fun _ => .stuck) := ⟨pssImp pss_never fun D σ H ⟨H0, Z0, r, Z, o, R, h⟩ => h.elim⟩
theorem cs_never : CS X w E fr st (fun _ => .stuck) := ⟨psImp ps_never fun D σ H ⟨H0, Z0, r, Z, o, R, h⟩ => h.elim⟩
theorem cs_pass : CS X w E fr (.Pass pos) (fun r => .ret (.nx r)) := ⟨psImp ps_pass fun D σ H ⟨H0, Z0, r, Z, o, R, h⟩ => h σ H Z o R (Sub.refl _)⟩
theorem cs_break : CS X w E fr (.Break pos) (fun r => .ret (.bk r)) := ⟨psImp ps_break fun D σ H ⟨H0, Z0, r, Z, o, R, h⟩ => h σ H Z o R (Sub.refl _)⟩
theorem cs_continue : CS X w E fr (.Continue pos) (fun r => .ret (.ct r)) := ⟨psImp ps_continue fun D σ H ⟨H0, Z0, r, Z, o, R, h⟩ => h σ H Z o R (Sub.refl _)⟩

/-- an expression first, in a statement -/
theorem evSeqS {k : T → G Ctl} {Q : VK} (R : EnvR X.km w H0 Z0 r σ H Z o) (h : (ca r >>= k).wp (PostS X.km w fr H0 Z0 Z D) (PostX X.km w E H0 Z0))
    (fin : ∀ x H1 Z1 a, EnvR X.km w H0 Z0 r σ H1 Z1 o → Grow w H Z H1 Z1 → Tr X.K X.mg w Z1 a x → (k a).wp (PostS X.km w fr H0 Z0 Z1 D) (PostX X.km w E H0 Z0) → Q x H1) : EvE X.km w E ca σ H Q :=
  evSeq (P := fun _ Z => PostS X.km w fr H0 Z0 Z D) (PX := fun _ => True) R (fun g => PostS.weak g.zz) h fin
theorem evSeqST {tc : List Sl → G Bool} {k : Bool → G Ctl} {Q : Bool → Hp → Prop} (R : EnvR X.km w H0 Z0 r σ H Z o) (h : (tc r >>= k).wp (PostS X.km w fr H0 Z0 Z D) (PostX X.km w E H0 Z0))
    (fin : ∀ H1 Z1 a, EnvR X.km w H0 Z0 r σ H1 Z1 o → Grow w H Z H1 Z1 → (k a).wp (PostS X.km w fr H0 Z0 Z1 D) (PostX X.km w E H0 Z0) → Q a H1) : EvT X.km w E tc σ H Q :=
  evSeqT (P := fun _ Z => PostS X.km w fr H0 Z0 Z D) R (fun g => PostS.weak g.zz) h fin

/-- an expression whose value is dropped -/
def cDrop (ca : EC) : SC := fun r => ca r >>= fun _ => .ret (.nx r)
theorem cs_expr (he : CE X w E e ca) (hs : swapsWith e none pos.line X.env = pure false := by rfl) : CS X w E fr (.Expr e pos) (cDrop ca) := by
  refine ⟨psImp (ps_expr he.pe hs) fun D σ H h => ?_⟩
  obtain ⟨H0, Z0, r, Z, o, R, h⟩ := h
  exact evSeqS R h fun x H1 Z1 a R1 g1 t1 h1 => h1 σ H1 Z1 o R1 (Sub.refl _)
/-- return -/
def cRet (ca : EC) : SC := fun r => ca r >>= fun t => .ret (.rt t)
theorem cs_ret (he : CE X w E e ca) : CS X w E false (.Return (some e) pos) (cRet ca) := by
  refine ⟨psImp (ps_ret he.pe) fun D σ H h => ?_⟩
  obtain ⟨H0, Z0, r, Z, o, R, h⟩ := h
  refine evSeqS R h fun x H1 Z1 a R1 g1 t1 h1 => ?_
  have q : PostR X.km w false H0 Z0 a D.rt := h1
  exact q x H1 Z1 R1.gr t1
theorem cs_retF (he : CF X w E e ca) : CS X w E true (.Return (some e) pos) (cRet ca) := by
  refine ⟨psImp (ps_ret he.pe) fun D σ H h => ?_⟩
  obtain ⟨H0, Z0, r, Z, o, R, h⟩ := h
  refine ⟨H0, Z0, r, Z, o, R, G.wp_mono (G.wp_bind.mp h) (fun t ht p oo H' Z' g rt f => ?_) fun _ x => x⟩
  have q : PostR X.km w true H0 Z0 t D.rt := ht
  refine q p oo H' Z' (R.gr.trans g) rt fun a ha => ⟨?_, (f a ha).2⟩
  cases e : H0 a with
  | none => rfl
  | some u =>
    have z := (f a ha).1
    rw [R.gr.hh a u e (f a ha).2.2] at z
    cases z
theorem cs_retN : CS X w E false (.Return none pos) (fun _ => .ret (.rt .non)) := ⟨psImp ps_retN fun D σ H ⟨H0, Z0, r, Z, o, R, h⟩ => h _ H Z R.gr .non⟩
/-- return x, x's root its own -/
def cRetO (i : Nat) : SC := fun r => match r[i]? with
  | some (.ow t) => .ret (.rt t)
  | _ => .stuck
theorem cs_retO (i : Nat) {x : Str} {p' : Pos} (hN : X.N[i]? = some x := by rfl) (hv : Vis X.env.scope x := by first | exact Or.inl rfl | exact Or.inr (Or.inl rfl) | exact Or.inr (Or.inr rfl)) (hd : (x == ("__debug__" : Str)) = false := by decide)
    (hcd : (x == ("__classdict__" : Str)) = false := by decide) : CS X w E true (.Return (some (.Name x p')) pos) (cRetO i) := by
  refine ⟨psImp (ps_ret (pe_var hN hv hd hcd)) fun D σ H h => ?_⟩
  obtain ⟨H0, Z0, r, Z, o, R, h⟩ := h
  unfold cRetO at h
  cases e : r[i]? with
  | none => rw [e] at h; exact h.elim
  | some s =>
    rw [e] at h
    cases s with
    | un => exact h.elim
    | fz t => exact h.elim
    | me t => exact h.elim
    | dp t => exact h.elim
    | ow t =>
      have hi : i < σ.length := by
        have := (List.getElem?_eq_some_iff.mp e).1
        rw [R.len] at this; exact this
      obtain ⟨p, ev, rt⟩ := R.sl i _ _ e (List.getElem?_eq_getElem hi)
      refine ⟨.ref p, (List.getElem?_eq_getElem hi).trans (congrArg some ev), ?_⟩
      have q : PostR X.km w true H0 Z0 t D.rt := h
      exact q p (o i) H Z R.gr rt fun a ha => R.fr i a ha
/-- if -/
def cIfS (tc : List Sl → G Bool) (c d : SC) : SC := fun r => tc r >>= fun p => if p then c r else d r
theorem cs_if {ce : Expr} {s1 s2 : List Stmt} {tc : List Sl → G Bool} (hc : CT X w E ce tc) (h1 : CSs X w E fr s1 c) (h2 : CSs X w E fr s2 d) : CS X w E fr (.If ce s1 s2 pos) (cIfS tc c d) := by
  refine ⟨psImp (ps_if hc.pt h1.ps h2.ps) fun D σ H h => ?_⟩
  obtain ⟨H0, Z0, r, Z, o, R, h⟩ := h
  refine evSeqST R h fun H1 Z1 p R1 g1 h1 => ?_
  cases p with
  | false => exact iteF ⟨H0, Z0, r, Z1, o, R1, h1⟩
  | true => exact iteT ⟨H0, Z0, r, Z1, o, R1, h1⟩

/-! ### stores -/
theorem EnvR.setF (R : EnvR X.km w H0 Z0 r σ H Z o) (i : Nat) {t : T} {v : V} (h : Tr X.K X.mg w Z t v) : EnvR X.km w H0 Z0 (r.set i (.fz t)) (σ.set i (some v)) H Z (fun j => if j = i then [] else o j) := by
  refine ⟨R.gr, by rw [List.length_set, List.length_set]; exact R.len, fun j s x h1 h2 => ?_, fun j hj => ?_, fun j k a h1 h2 => ?_, fun j a ha => ?_⟩
  · by_cases e : j = i
    · subst e
      have hj : j < r.length := by
        have := (List.getElem?_eq_some_iff.mp h1).1
        rwa [List.length_set] at this
      rw [List.getElem?_set_self hj] at h1
      rw [List.getElem?_set_self (R.len ▸ hj)] at h2
      cases h1; cases h2
      exact ⟨if_pos rfl, v, rfl, h⟩
    · rw [List.getElem?_set_ne (Ne.symm e)] at h1 h2
      simp only [if_neg e]
      exact R.sl j s x h1 h2
  · by_cases e : j = i
    · simp [e]
    · rw [List.length_set] at hj; simp only [if_neg e]; exact R.out j hj
  · by_cases e1 : j = i
    · simp [e1] at h1
    · by_cases e2 : k = i
      · simp [e2] at h2
      · simp only [if_neg e1] at h1; simp only [if_neg e2] at h2; exact R.dis j k a h1 h2
  · by_cases e1 : j = i
    · simp [e1] at ha
    · simp only [if_neg e1] at ha; exact R.fr j a ha
theorem EnvR.setO (R : EnvR X.km w H0 Z0 r σ H Z o) (i : Nat) {t : T} {p : Addr} {oo : List Addr} (hi : i < r.length) (h : Root X.K X.mg w Z H t p oo) (f : ∀ a ∈ oo, H0 a = none ∧ Z a = none ∧ a ∉ w.W) (dj : ∀ j a, a ∈ o j → a ∉ oo) :
    EnvR X.km w H0 Z0 (r.set i (.ow t)) (σ.set i (some (.ref p))) H Z (fun j => if j = i then oo else o j) := by
  refine ⟨R.gr, by rw [List.length_set, List.length_set]; exact R.len, fun j s x h1 h2 => ?_, fun j hj => ?_, fun j k a h1 h2 => ?_, fun j a ha => ?_⟩
  · by_cases e : j = i
    · subst e
      have hj : j < r.length := by
        have := (List.getElem?_eq_some_iff.mp h1).1
        rwa [List.length_set] at this
      rw [List.getElem?_set_self hj] at h1
      rw [List.getElem?_set_self (R.len ▸ hj)] at h2
      cases h1; cases h2
      exact ⟨p, rfl, by simpa using h⟩
    · rw [List.getElem?_set_ne (Ne.symm e)] at h1 h2
      simp only [if_neg e]
      exact R.sl j s x h1 h2
  · rw [List.length_set] at hj
    have e : j ≠ i := by omega
    simp only [if_neg e]; exact R.out j hj
  · by_cases e1 : j = i <;> by_cases e2 : k = i
    · rw [e1, e2]
    · rw [e1] at h1; simp only [if_true] at h1; simp only [if_neg e2] at h2; exact absurd h1 (dj k a h2)
    · rw [e2] at h2; simp only [if_true] at h2; simp only [if_neg e1] at h1; exact absurd h2 (dj j a h1)
    · simp only [if_neg e1] at h1; simp only [if_neg e2] at h2; exact R.dis j k a h1 h2
  · by_cases e1 : j = i
    · rw [e1] at ha; simp only [if_true] at ha; exact f a ha
    · simp only [if_neg e1] at ha; exact R.fr j a ha
theorem Fresh.env {Z' : Hp} {oo : List Addr} (R : EnvR X.km w H0 Z0 r σ H Z o) (f : Fresh w H Z' oo) : (∀ a ∈ oo, H0 a = none ∧ Z' a = none ∧ a ∉ w.W) ∧ ∀ j a, a ∈ o j → a ∉ oo := by
  refine ⟨fun a ha => ⟨?_, (f a ha).2⟩, fun j a ha hb => R.tr j a ha (f a hb).1⟩
  cases e : H0 a with
  | none => rfl
  | some u =>
    have z := (f a ha).1
    rw [R.gr.hh a u e (f a ha).2.2] at z
    cases z
/-- x = e -/
def cSet (i : Nat) (ca : EC) : SC := fun r => ca r >>= fun t => .ret (.nx (r.set i (.fz t)))
def cSetO (i : Nat) (ca : EC) : SC := fun r => ca r >>= fun t => .ret (.nx (r.set i (.ow t)))
theorem cs_set (i : Nat) {x : Str} {p' : Pos} (hN : X.N.Nodup) (he : CE X w E e ca) (hi : X.N[i]? = some x := by rfl) (hx : Loc X.env.scope x := by first | exact Or.inl rfl | exact Or.inr rfl)
    (hs : swapsWith e (some (.Name x p')) pos.line X.env = pure false := by rfl) (hf : X.fn x = true ∨ X.env.scope.names.lookup x = some .local := by first | exact .inl rfl | exact .inr rfl | assumption) : CS X w E fr (.Assign [.Name x p'] e pos) (cSet i ca) := by
  refine ⟨psImp (ps_set hN hi hx he.pe hs hf) fun D σ H h => ?_⟩
  obtain ⟨H0, Z0, r, Z, o, R, h⟩ := h
  exact evSeqS R h fun x H1 Z1 a R1 g1 t1 h1 => h1 _ H1 Z1 _ (R1.setF i t1) (Sub.refl _)
theorem cs_setO (i : Nat) {x : Str} {p' : Pos} (hN : X.N.Nodup) (he : CF X w E e ca) (hi : X.N[i]? = some x := by rfl) (hx : Loc X.env.scope x := by first | exact Or.inl rfl | exact Or.inr rfl)
    (hs : swapsWith e (some (.Name x p')) pos.line X.env = pure false := by rfl) (hf : X.fn x = true ∨ X.env.scope.names.lookup x = some .local := by first | exact .inl rfl | exact .inr rfl | assumption) : CS X w E fr (.Assign [.Name x p'] e pos) (cSetO i ca) := by
  refine ⟨⟨fun pins s σ H D I h => ?_⟩⟩
  have hl := I.len
  refine (ps_set hN hi hx he.pe hs hf).run pins s σ H D I ?_
  obtain ⟨H0, Z0, r, Z, o, R, h⟩ := h
  refine ⟨H0, Z0, r, Z, o, R, G.wp_mono (G.wp_bind.mp h) (fun t ht p oo H' Z' g rt f => ?_) fun _ x => x⟩
  have hir : i < r.length := by rw [R.len, hl]; exact (List.getElem?_eq_some_iff.mp hi).1
  obtain ⟨f1, f2⟩ := Fresh.env R f
  exact ht _ H' Z' _ ((R.grow g).setO i hir rt f1 f2) g.zz

/-! ### a slot's own thing is frozen -/
def frzS (i : Nat) (r : List Sl) : List Sl := match r[i]? with
  | some (.ow t) => r.set i (.fz t)
  | some (.dp kts) => r.set i (.fz (.dic kts))
  | _ => r
theorem EnvR.frzTo (R : EnvR X.km w H0 Z0 r σ H Z o) {i : Nat} (hr : i < r.length) {p : Addr} (ev : σ[i]'(R.len ▸ hr) = some (.ref p)) {t : T}
    (F : Fz (fun H2 => ∃ Z2, Grow w H0 Z0 H2 Z2 ∧ Sub Z Z2 ∧ Tr X.K X.mg w Z2 t (.ref p) ∧ (∀ a, a ∉ o i → Z2 a = Z a) ∧ ∀ a, a ∉ o i → H2 a = H a) H) :
    Fz (fun H2 => ∃ Z' o', EnvR X.km w H0 Z0 (r.set i (.fz t)) σ H2 Z' o' ∧ Sub Z Z' ∧ ∀ a ∈ w.W, H2 a = H a) H := by
  have hi : i < σ.length := R.len ▸ hr
  refine F.imp fun H2 ⟨Z2, g2, s2, tr, out, outH⟩ => ?_
  have keep : ∀ j a, a ∈ o j → j ≠ i → Z2 a = none := fun j a ha ne => by
    rw [out a (fun hb => ne (R.dis j i a ha hb))]
    exact (R.fr j a ha).2.1
  refine ⟨Z2, fun j => if j = i then [] else o j, ?_, s2, fun a ha => outH a (fun hb => (R.fr i a hb).2.2 ha)⟩
  refine ⟨g2, by rw [List.length_set]; exact R.len, fun j s x h1 h2 => ?_, fun j hj => ?_, fun j k a h1 h2 => ?_, fun j a ha => ?_⟩
  · by_cases q : j = i
    · subst q
      rw [List.getElem?_set_self hr] at h1
      rw [List.getElem?_eq_getElem hi] at h2
      cases h1; cases h2
      exact ⟨if_pos rfl, _, ev, tr⟩
    · rw [List.getElem?_set_ne (Ne.symm q)] at h1
      simp only [if_neg q]
      exact (R.sl j s x h1 h2).move s2 fun a ha u h => by rw [outH a (fun hb => q (R.dis j i a ha hb))]; exact h
  · by_cases q : j = i
    · simp [q]
    · rw [List.length_set] at hj; simp only [if_neg q]; exact R.out j hj
  · by_cases e1 : j = i
    · simp [e1] at h1
    · by_cases e2 : k = i
      · simp [e2] at h2
      · simp only [if_neg e1] at h1; simp only [if_neg e2] at h2; exact R.dis j k a h1 h2
  · by_cases e1 : j = i
    · simp [e1] at ha
    · simp only [if_neg e1] at ha; exact ⟨(R.fr j a ha).1, keep j a ha e1, (R.fr j a ha).2.2⟩
/-- several own things at once -/
def Zq (qs : List Addr) (H Z : Hp) : Hp := fun a => if a ∈ qs then H a else Z a
theorem Grow.frzs {w : Wd} {H Z H' Z' : Hp} (g : Grow w H Z H' Z') {qs : List Addr} (f : ∀ a ∈ qs, H a = none ∧ Z' a = none ∧ a ∉ w.W) : Grow w H Z H' (Zq qs H' Z') := by
  refine ⟨⟨fun a o e => ?_, fun a ha => ?_, g.good.wi⟩, fun a o e => ?_, fun a o e => ?_, g.hh⟩
  · unfold Zq at e
    split at e
    · exact e
    · exact g.good.zh a o e
  · unfold Zq
    rw [if_neg (fun hq => (f a hq).2.2 ha)]; exact g.good.zw a ha
  · have z := g.zz a o e
    unfold Zq
    rw [if_neg (fun hq => by rw [(f a hq).2.1] at z; cases z)]; exact z
  · unfold Zq at e
    split at e
    · rename_i hq; exact .inr (f a hq).1
    · exact g.new a o e
theorem Zq.sub {qs : List Addr} {H Z : Hp} (f : ∀ a ∈ qs, Z a = none) : Sub Z (Zq qs H Z) := fun a o e => by
  unfold Zq
  rw [if_neg (fun hq => by rw [f a hq] at e; cases e)]; exact e
theorem TrD.toTrd {K : PySem.W.Frag} {mg : Str → Option Value} {w : Wd} {Z H Z2 : Hp} (s : Sub Z Z2) : ∀ {kts : List (T × T)} {kvs : List (Key × V)} {qs : List Addr}, TrD K mg w Z H kts kvs qs → (∀ a ∈ qs, Z2 a = H a) → Trd K mg w Z2 kts kvs
  | _, _, _, .nil, _ => .nil
  | _, _, _, .cons k h l t r, f => .cons k (.lst (by rw [f _ (by simp)]; exact h) l (t.mono s)) (TrD.toTrd s r fun a ha => f a (by simp [ha]))
theorem Grow.frozenD {X : Km} {w : Wd} {H Z H' Z' : Hp} {kts : List (T × T)} {p : Addr} {o : List Addr} (g : Grow w H Z H' Z') (r : RootD X.K X.mg w Z' H' kts p o) (f : Fresh w H Z' o) :
    Fz (fun H2 => ∃ Z2, Grow w H Z H2 Z2 ∧ Sub Z' Z2 ∧ Tr X.K X.mg w Z2 (.dic kts) (.ref p) ∧ (∀ a, a ∉ o → Z2 a = Z' a) ∧ ∀ a, a ∉ o → H2 a = H' a) H' := by
  obtain ⟨qs, kvs, rfl, nd, hp, hl, tr⟩ := r
  have hpq : p ∉ qs := (List.nodup_cons.mp nd).1
  have s1 : Sub Z' (Zq qs H' Z') := Zq.sub fun a ha => (f a (by simp [ha])).2.1
  have z1 : Zq qs H' Z' p = none := by unfold Zq; rw [if_neg hpq]; exact (f p (by simp)).2.1
  have g1 := g.frzs (qs := qs) fun a ha => f a (by simp [ha])
  refine (g1.frozen (t := .dic kts) (p := p) (o := [p]) ⟨rfl, kvs, hp, hl, tr.toTrd s1 fun a ha => by unfold Zq; rw [if_pos ha]⟩ fun a ha => ?_).imp fun H2 ⟨Z2, g2, s2, t2, out, outH⟩ => ?_
  · simp at ha; subst ha
    exact ⟨(f a (by simp)).1, z1, (f a (by simp)).2.2⟩
  · refine ⟨Z2, g2, s1.trans s2, t2, fun a ha => ?_, fun a ha => outH a (by simp at ha ⊢; exact ha.1)⟩
    simp at ha
    rw [out a (by simp; exact ha.1)]
    unfold Zq
    rw [if_neg ha.2]
theorem EnvR.frz (R : EnvR X.km w H0 Z0 r σ H Z o) (i : Nat) : Fz (fun H2 => ∃ Z' o', EnvR X.km w H0 Z0 (frzS i r) σ H2 Z' o' ∧ Sub Z Z' ∧ ∀ a ∈ w.W, H2 a = H a) H := by
  unfold frzS
  cases e : r[i]? with
  | none => exact .inl ⟨Z, o, R, Sub.refl _, fun _ _ => rfl⟩
  | some s =>
    cases s with
    | un => exact .inl ⟨Z, o, R, Sub.refl _, fun _ _ => rfl⟩
    | fz t => exact .inl ⟨Z, o, R, Sub.refl _, fun _ _ => rfl⟩
    | me t => exact .inl ⟨Z, o, R, Sub.refl _, fun _ _ => rfl⟩
    | ow t =>
      have hr : i < r.length := (List.getElem?_eq_some_iff.mp e).1
      have hi : i < σ.length := R.len ▸ hr
      obtain ⟨p, ev, rt⟩ := R.sl i _ _ e (List.getElem?_eq_getElem hi)
      exact R.frzTo hr ev (R.gr.frozen rt (fun a ha => R.fr i a ha))
    | dp kts =>
      have hr : i < r.length := (List.getElem?_eq_some_iff.mp e).1
      have hi : i < σ.length := R.len ▸ hr
      obtain ⟨p, ev, rt⟩ := R.sl i _ _ e (List.getElem?_eq_getElem hi)
      exact R.frzTo hr ev (R.gr.frozenD rt (fun a ha => R.fr i a ha))
def cFrz (i : Nat) (c : SC) : SC := fun r => c (frzS i r)
theorem EvS.frz {i : Nat} (h : EvS X.km w E fr (cFrz i c) D σ H) : Fz (EvS X.km w E fr c D σ) H := by
  obtain ⟨H0, Z0, r, Z, o, R, h⟩ := h
  exact (R.frz i).imp fun H2 ⟨Z', o', R', s, _⟩ => ⟨H0, Z0, _, Z', o', R', G.wp_mono h (fun k q => PostS.weak s q) fun _ x => x⟩
theorem ps_lk {st : Stmt} {t : TS} (h : PS X st t) : PS X st (fun D σ H => Fz (t D σ) H) := by
  refine ⟨fun pins s σ H D I hw => ?_⟩
  rcases hw with q | ⟨d, u, hd, mu, q⟩
  · exact h.run pins s σ H D I q
  · obtain ⟨od, I2⟩ := I.lock hd mu
    exact h.run pins s σ _ D I2 (q od)
theorem pss_lk {sts : List Stmt} {t : TS} (h : PSs X sts t) : PSs X sts (fun D σ H => Fz (t D σ) H) := by
  refine ⟨fun pins s σ H D I hw => ?_⟩
  rcases hw with q | ⟨d, u, hd, mu, q⟩
  · exact h.run pins s σ H D I q
  · obtain ⟨od, I2⟩ := I.lock hd mu
    exact h.run pins s σ _ D I2 (q od)
/-- the answer may be locked -/
theorem pss_lkR {sts : List Stmt} {t : TS} (h : PSs X sts t) : PSs X sts (fun D σ H => t { D with rt := fun v H1 => Fz (D.rt v) H1 } σ H) := by
  refine ⟨fun pins s σ H D I hw => ?_⟩
  refine thn (h.run pins s σ H _ I hw) fun f s1 q => ?_
  cases f with
  | next => exact q
  | brk => exact q
  | cont => exact q
  | ret v =>
    obtain ⟨x, σ', H', I2, r, q⟩ := q
    rcases q with q | ⟨d, u, hd, mu, q⟩
    · exact ⟨x, σ', H', I2, r, q⟩
    · obtain ⟨od, I3⟩ := I2.lock hd mu
      exact ⟨x, σ', _, I3, r, q od⟩
theorem CS.frz (i : Nat) (h : CS X w E fr st c) : CS X w E fr st (cFrz i c) := ⟨psImp (ps_lk h.ps) fun _ _ _ q => q.frz⟩
theorem CSs.frz (i : Nat) (h : CSs X w E fr sts c) : CSs X w E fr sts (cFrz i c) := ⟨pssImp (pss_lk h.ps) fun _ _ _ q => q.frz⟩
/-- a def with frozen answers, by a body with new ones -/
theorem CSs.clean (h : CSs X w E true sts c) : CSs X w E false sts c := ⟨pssImp (pss_lkR h.ps) fun D σ H ⟨H0, Z0, r, Z, o, R, h⟩ => ⟨H0, Z0, r, Z, o, R, G.wp_mono h (fun k q => by
  cases k with
  | nx r => exact q
  | bk r => exact q
  | ct r => exact q
  | rt t =>
    have q' : PostR X.km w false H0 Z0 t D.rt := q
    have goal : PostR X.km w true H0 Z0 t (fun v H1 => Fz (D.rt v) H1) := fun p oo H Z g rt f => (g.frozen rt f).imp fun H2 ⟨Z2, g2, _, tr, _⟩ => q' _ H2 Z2 g2 tr
    exact goal) fun _ x => x⟩⟩

/-! ### targets: S the slots that are stored -/
abbrev GC := T → List Sl → G (List Sl)
def Off (S : List Nat) (σ σ' : L2.St) : Prop := σ'.length = σ.length ∧ ∀ j, j ∉ S → σ'[j]? = σ[j]?
theorem Off.refl (S : List Nat) (σ : L2.St) : Off S σ σ := ⟨rfl, fun _ _ => rfl⟩
theorem Off.set (i : Nat) (σ : L2.St) (v : Option V) : Off [i] σ (σ.set i v) := ⟨List.length_set, fun j hj => List.getElem?_set_ne (fun e => hj (by simp [e]))⟩
theorem Off.trans {S S' : List Nat} {a b c : L2.St} (h : Off S a b) (h' : Off S' b c) : Off (S ++ S') a c := ⟨h'.1.trans h.1, fun j hj => by
  simp only [List.mem_append, not_or] at hj
  exact (h'.2 j hj.2).trans (h.2 j hj.1)⟩
def EvG (X : Km) (w : Wd) (E : XK) (S : List Nat) (g : GC) : TG := fun v σ H Q => ∃ H0 Z0 r Z o t, EnvR X.km w H0 Z0 r σ H Z o ∧ Tr X.K X.mg w Z t v ∧ (g t r).wp (fun r' => ∀ σ' H' Z' o', EnvR X.km w H0 Z0 r' σ' H' Z' o' → Grow w H Z H' Z' → Off S σ σ' → Q σ' H') (PostX X.km w E H0 Z0)
structure CG (X : Cx) (w : Wd) (E : XK) (tg : Expr) (S : List Nat) (g : GC) : Prop where
  pg : PG X tg (EvG X.km w E S g)
theorem pgImp {tg : Expr} {t t' : TG} (h : PG X tg t) (f : ∀ v σ H Q, t' v σ H Q → t v σ H Q) : PG X tg t' := ⟨fun pins s σ H v u Q I r hw => h.run pins s σ H v u Q I r (f v σ H Q hw)⟩
def gcName (i : Nat) : GC := fun t r => .ret (r.set i (.fz t))
theorem cg_name (i : Nat) {x : Str} (hN : X.N.Nodup) (hi : X.N[i]? = some x := by rfl) (hx : Loc X.env.scope x := by first | exact Or.inl rfl | exact Or.inr rfl) (hf : X.fn x = true ∨ X.env.scope.names.lookup x = some .local := by first | exact .inl rfl | exact .inr rfl | assumption) : CG X w E (.Name x pos) [i] (gcName i) :=
  ⟨pgImp (pg_name hN hi hx hf) fun v σ H Q ⟨H0, Z0, r, Z, o, t, R, tr, h⟩ => h _ H Z _ (R.setF i tr) (Grow.refl R.good) (Off.set i σ _)⟩
abbrev GCs := List T → List Sl → G (List Sl)
def EvGs (X : Km) (w : Wd) (E : XK) (S : List Nat) (g : GCs) : TGs := fun vs σ H Q => ∃ H0 Z0 r Z o ts, EnvR X.km w H0 Z0 r σ H Z o ∧ Trs X.K X.mg w Z ts vs ∧ (g ts r).wp (fun r' => ∀ σ' H' Z' o', EnvR X.km w H0 Z0 r' σ' H' Z' o' → Grow w H Z H' Z' → Off S σ σ' → Q σ' H') (PostX X.km w E H0 Z0)
structure CGs (X : Cx) (w : Wd) (E : XK) (tgs : List Expr) (S : List Nat) (g : GCs) : Prop where
  pg : PGs X tgs (EvGs X.km w E S g)
theorem pgsImp {tg : List Expr} {t t' : TGs} (h : PGs X tg t) (f : ∀ v σ H Q, t' v σ H Q → t v σ H Q) : PGs X tg t' := ⟨fun pins s σ H v u Q I r hw => h.run pins s σ H v u Q I r (f v σ H Q hw)⟩
def gcsNil : GCs := fun ts r => match ts with | [] => .ret r | _ => .stuck
def gcsCons (g : GC) (gs : GCs) : GCs := fun ts r => match ts with | t :: ts => g t r >>= gs ts | [] => .stuck
theorem cgs_nil : CGs X w E [] [] gcsNil := ⟨pgsImp pgs_nil fun vs σ H Q ⟨H0, Z0, r, Z, o, ts, R, tr, h⟩ => by
  cases tr with
  | nil => exact ⟨rfl, h σ H Z o R (Grow.refl R.good) (Off.refl _ _)⟩
  | cons => exact h.elim⟩
theorem cgs_cons {tg : Expr} {tgs : List Expr} {S S' : List Nat} {g : GC} {gs : GCs} (h1 : CG X w E tg S g) (h2 : CGs X w E tgs S' gs) (hs : (assignEach (tg :: tgs) X.env).map (·.2) = assign tg X.env :: (assignEach tgs X.env).map (·.2) := by rfl) : CGs X w E (tg :: tgs) (S ++ S') (gcsCons g gs) :=
  ⟨pgsImp (pgs_cons h1.pg h2.pg hs) fun vs σ H Q ⟨H0, Z0, r, Z, o, ts, R, tr, h⟩ => by
    cases tr with
    | nil => exact h.elim
    | cons t1 t2 =>
      refine ⟨_, _, rfl, H0, Z0, r, Z, o, _, R, t1, G.wp_mono (G.wp_bind.mp h) (fun r1 h1 σ1 H1 Z1 o1 R1 g1 f1 => ?_) fun _ x => x⟩
      exact ⟨H0, Z0, r1, Z1, o1, _, R1, t2.mono g1.zz, G.wp_mono h1 (fun r2 h2 σ2 H2 Z2 o2 R2 g2 f2 => h2 σ2 H2 Z2 o2 R2 (g1.trans g2) (f1.trans f2)) fun _ x => x⟩⟩
def gcTup (n : Nat) (gs : GCs) : GC := fun t r => match t with
  | .tup ts => if ts.length = n then gs ts r else .stuck
  | .lst ts => if ts.length = n then gs ts r else .stuck
  | _ => .stuck
/-- a tuple or a list is taken apart -/
def gTL (K : PySem.W.Frag) (n : Nat) (t : TGs) : TG := fun v σ H Q => ∃ a xs, v = .ref a ∧ (SqT K H a xs ∨ SqL K H a xs) ∧ xs.length = n ∧ t xs σ H Q
theorem pg_tl {es : List Expr} {k : Nat} {t : TGs} {n : Nat} (hc : X.calm = true) (h : PGs X es t)
    (hn : (assignEach es X.env).length = n := by rfl) (hst : (assignEach es X.env).findIdx? (·.1) = none := by rfl) : PG X (.Tuple es k pos) (gTL X.K n t) :=
  ⟨fun pins s σ H v u Q I r hw => by
    obtain ⟨a, xs, e1, hq | hq, hl, hw⟩ := hw
    · exact (pg_tup hc h hn hst).run pins s σ H v u Q I r ⟨a, xs, e1, hq, hl, hw⟩
    · exact (pg_unl hc h hn hst).run pins s σ H v u Q I r ⟨a, xs, e1, hq, hl, hw⟩⟩
theorem Good.sqT {K : PySem.W.Frag} (g : Good w H Z) {a : Addr} {xs : List V} (h : SqT K Z a xs) : SqT K H a xs := Sub.sqT g.zh h
theorem Good.sqL {K : PySem.W.Frag} (g : Good w H Z) {a : Addr} {xs : List V} (h : SqL K Z a xs) : SqL K H a xs := Sub.sqL g.zh h
theorem cg_tup {tgs : List Expr} {k : Nat} {S : List Nat} {gs : GCs} {n : Nat} (h : CGs X w E tgs S gs) (hc : X.calm = true := by rfl) (hn : (assignEach tgs X.env).length = n := by rfl) (hst : (assignEach tgs X.env).findIdx? (·.1) = none := by rfl) : CG X w E (.Tuple tgs k pos) S (gcTup n gs) :=
  ⟨pgImp (pg_tl hc h.pg hn hst) fun v σ H Q ⟨H0, Z0, r, Z, o, t, R, tr, h⟩ => by
    cases tr with
    | @tup ts p vs hq hz hts =>
      have h' : (if ts.length = n then gs ts r else .stuck).wp _ _ := h
      by_cases e : ts.length = n
      · rw [if_pos e] at h'
        exact ⟨p, vs, rfl, .inl (R.good.sqT hq), by rw [← hts.length, e], H0, Z0, r, Z, o, ts, R, hts, h'⟩
      · rw [if_neg e] at h'; exact h'.elim
    | @lst ts p vs hq hz hts =>
      have h' : (if ts.length = n then gs ts r else .stuck).wp _ _ := h
      by_cases e : ts.length = n
      · rw [if_pos e] at h'
        exact ⟨p, vs, rfl, .inr (SqL.of (R.good.zh _ _ hq)), by rw [← hts.length, e], H0, Z0, r, Z, o, ts, R, hts, h'⟩
      · rw [if_neg e] at h'; exact h'.elim
    | _ => exact h.elim⟩
/-- target = e -/
def cAsg (g : GC) (ca : EC) : SC := fun r => ca r >>= fun t => g t r >>= fun r' => .ret (.nx r')
theorem cs_asg {tg : Expr} {S : List Nat} {g : GC} (he : CE X w E e ca) (hg : CG X w E tg S g) (hs : swapsWithSole [tg] e pos.line X.env = pure false := by rfl) (hw : swappedStores [tg] e X.env = pure none := by rfl)
    (h1 : (assignEach [tg] X.env).map (·.2) = [assign tg X.env] := by rfl) : CS X w E fr (.Assign [tg] e pos) (cAsg g ca) := by
  refine ⟨psImp (ps_asg he.pe hg.pg hs hw h1) fun D σ H h => ?_⟩
  obtain ⟨H0, Z0, r, Z, o, R, h⟩ := h
  refine evSeqS R h fun x H1 Z1 a R1 g1 t1 h1 => ?_
  exact ⟨H0, Z0, r, Z1, o, a, R1, t1, G.wp_mono (G.wp_bind.mp h1) (fun r' h2 σ' H' Z' o' R' g' _ => h2 σ' H' Z' o' R' g'.zz) fun _ x => x⟩
end
end TL
end s_TL4
section s_TL5
set_option Elab.async false
set_option linter.all false
set_option maxRecDepth 100000
set_option maxHeartbeats 4000000
/-! TL5: what is walked, for, while, comprehensions -/
namespace TL
open PySem PySem.Spec PyProof.Rows L2
def IterOk (X : Km) (w : Wd) (J : It) (ts : List T) (Zs : Hp) : Prop := ∀ (i : Nat) H Z, Sub Zs Z → Good w H Z →
  (∀ t, ts[i]? = some t → J.go i H ∧ ∀ x H', J.yld i H x H' → ∃ Z', Grow w H Z H' Z' ∧ Tr X.K X.mg w Z' t x) ∧ (ts.length = i → J.stop i H)
def EvI (X : Km) (w : Wd) (E : XK) (c : List Sl → G (List T)) : TI := fun σ H R => ∃ H0 Z0 r Z o, EnvR X.km w H0 Z0 r σ H Z o ∧
  (c r).wp (fun ts => ∀ J H' Z', Grow w H Z H' Z' → ts.length ≤ sizeLine → IterOk X.km w J ts Z' → R J H') (PostX X.km w E H0 Z0)
structure CI (X : Cx) (w : Wd) (E : XK) (tg iter : Expr) (c : List Sl → G (List T)) : Prop where
  pi : PI X tg iter (EvI X.km w E c)
section
variable {X : Cx} {w : Wd} {E : XK} {fr : Bool} {tg iter l e : Expr} {body : List Stmt} {pos : Pos} {ca : EC} {ci : List Sl → G (List T)} {g : GC} {S : List Nat} {c : SC}
variable {H0 Z0 H Z Z1 : Hp} {r : List Sl} {σ : L2.St} {o : Nat → List Addr} {D : Ends}
theorem piImp {t t' : TI} (h : PI X tg iter t) (f : ∀ σ H R, t' σ H R → t σ H R) : PI X tg iter t' := ⟨fun pins s σ H R I hw => h.run pins s σ H R I (f σ H R hw)⟩
theorem iter_list {a : Addr} {ts : List T} {vs : List V} {Zs : Hp} (h : Zs a = some (.lst vs)) (tr : Trs X.K X.mg w Zs ts vs) : IterOk X.km w (Itl X.K a) ts Zs := fun i H Z s g => by
  have q : SqL X.K H a vs := SqL.of (g.zh _ _ (s _ _ h))
  refine ⟨fun t ht => ?_, fun hl => ⟨vs, q, by rw [← tr.length]; exact Nat.le_of_eq hl⟩⟩
  obtain ⟨v, hv, tv⟩ := tr.get ht
  refine ⟨⟨vs, v, q, hv⟩, fun x H' y => ?_⟩
  obtain ⟨rfl, y⟩ := y
  have e := y vs q
  rw [hv] at e
  cases e
  exact ⟨Z, Grow.refl g, tv.mono s⟩
theorem iter_tup {a : Addr} {ts : List T} {vs : List V} {Zs : Hp} (h : SqT X.K Zs a vs) (tr : Trs X.K X.mg w Zs ts vs) : IterOk X.km w (Itt X.K a) ts Zs := fun i H Z s g => by
  have q : SqT X.K H a vs := g.sqT (s.sqT h)
  refine ⟨fun t ht => ?_, fun hl => ⟨vs, q, by rw [← tr.length]; exact Nat.le_of_eq hl⟩⟩
  obtain ⟨v, hv, tv⟩ := tr.get ht
  refine ⟨⟨vs, v, q, hv⟩, fun x H' y => ?_⟩
  obtain ⟨rfl, y⟩ := y
  have e := y vs q
  rw [hv] at e
  cases e
  exact ⟨Z, Grow.refl g, tv.mono s⟩
/-- a list or a tuple, whichever it is -/
def iSeq (K : PySem.W.Frag) (tl : TE) : TI := fun σ H R => tl σ H fun x H1 => ∃ a, x = .ref a ∧ (((∃ xs, SqL K H1 a xs) ∧ R (Itl K a) H1) ∨ ((∃ xs, SqT K H1 a xs) ∧ R (Itt K a) H1))
theorem pi_seq {tl : TE} (hl : PE X l tl) : PI X tg l (iSeq X.K tl) := by
  refine ⟨fun pins s σ H R I h => ?_⟩
  refine thn (hl.run pins s σ H _ I h) fun v s1 ⟨x, H1, I1, r1, q1⟩ => ?_
  obtain ⟨a, e, q⟩ := q1
  subst e
  cases r1
  rcases q with ⟨⟨xs, hq⟩, q⟩ | ⟨⟨xs, hq⟩, q⟩
  · obtain ⟨its, rv, p, hz⟩ := I1.list hq
    refine wpAny_pyIter_list p.isList ?_
    refine ⟨s1.heap.objs.size, [s1.heap.objs.size], _, _, H1, rfl, I1.kept (t' := s1.toks) fun b o e => Heap.get?_push_of_some _ e, turn_list a _, ⟨_, Heap.get?_push_size _ rfl, rfl, rfl⟩, fun b hb => ?_, q⟩
    have e : b = s1.heap.objs.size := by simpa using hb
    subst e
    exact I1.fpOk (Nat.le_refl _) (I1.hok.fresh (Nat.le_refl _))
  · obtain ⟨its, rv, p, hz⟩ := I1.tuple hq
    refine wpAny_pyIter_tuple (show s1.heap.IsTuple a its.toArray from p) ?_
    refine ⟨s1.heap.objs.size, [s1.heap.objs.size], _, _, H1, rfl, I1.kept (t' := s1.toks) fun b o e => Heap.get?_push_of_some _ e, turn_tuple a _, ⟨_, Heap.get?_push_size _ rfl, rfl, rfl⟩, fun b hb => ?_, q⟩
    have e : b = s1.heap.objs.size := by simpa using hb
    subst e
    exact I1.fpOk (Nat.le_refl _) (I1.hok.fresh (Nat.le_refl _))
def seqOf : T → G (List T)
  | .lst ts => .ret ts
  | .tup ts => .ret ts
  | _ => .stuck
theorem evSeqI {k : T → G (List T)} {P : List T → Prop} {R' : V → Hp → Prop} (R : EnvR X.km w H0 Z0 r σ H Z o) {Q : It → Hp → Prop}
    (h : (ca r >>= k).wp (fun ts => ∀ J H' Z', Grow w H Z H' Z' → ts.length ≤ sizeLine → IterOk X.km w J ts Z' → Q J H') (PostX X.km w E H0 Z0))
    (fin : ∀ x H1 Z1 a, EnvR X.km w H0 Z0 r σ H1 Z1 o → Grow w H Z H1 Z1 → Tr X.K X.mg w Z1 a x → (k a).wp (fun ts => ∀ J H' Z', Grow w H1 Z1 H' Z' → ts.length ≤ sizeLine → IterOk X.km w J ts Z' → Q J H') (PostX X.km w E H0 Z0) → R' x H1) : EvE X.km w E ca σ H R' :=
  evSeq (P := fun H Z => fun ts => ∀ J H' Z', Grow w H Z H' Z' → ts.length ≤ sizeLine → IterOk X.km w J ts Z' → Q J H') (PX := fun _ => True) R (fun g h J H' Z' g' => h J H' Z' (g.trans g')) h fin
theorem ci_seq (h : CE X w E l ca) : CI X w E tg l (fun r => ca r >>= seqOf) := by
  refine ⟨piImp (pi_seq h.pe) fun σ H R h => ?_⟩
  obtain ⟨H0, Z0, r, Z, o, R1, h⟩ := h
  refine evSeqI (P := fun _ => True) R1 h fun x H1 Z1 a R2 g1 t1 h1 => ?_
  cases t1 with
  | @lst ts p vs hq hz hts => exact ⟨p, rfl, .inl ⟨⟨vs, SqL.of (R2.good.zh _ _ hq)⟩, h1 _ H1 Z1 (Grow.refl R2.good) (by rw [hts.length]; exact hz) (iter_list hq hts)⟩⟩
  | @tup ts p vs hq hz hts => exact ⟨p, rfl, .inr ⟨⟨vs, R2.good.sqT hq⟩, h1 _ H1 Z1 (Grow.refl R2.good) (by rw [hts.length]; exact hz) (iter_tup hq hts)⟩⟩
  | _ => exact h1.elim

/-! ### for -/
def forG (g : GC) (c : SC) : List T → List Sl → G Ctl
  | [], r => .ret (.nx r)
  | t :: ts, r => g t r >>= fun r1 => c r1 >>= fun k => match k with
    | .nx r2 => forG g c ts r2
    | .ct r2 => forG g c ts r2
    | .bk r2 => .ret (.nx r2)
    | .rt t => .ret (.rt t)
def cFor (ci : List Sl → G (List T)) (g : GC) (c : SC) : SC := fun r => ci r >>= fun ts => forG g c ts r
theorem cs_for (hp : PassesOwn (model X.prog X.w) X.A X.env X.xe) (hi : CI X w E tg iter ci) (hg : CG X w E tg S g) (hb : CSs X w E fr body c) (hc : X.calm = true := by rfl) (hs : ∀ x, foldedSetIterable iter X.env x = pure x := by intro _; rfl) :
    CS X w E fr (.For tg iter body [] pos) (cFor ci g c) := by
  refine ⟨psImp (ps_for hp hc hi.pi hg.pg hb.ps hs) fun D σ H h => ?_⟩
  obtain ⟨H0, Z0, r, Z, o, R, h⟩ := h
  refine ⟨H0, Z0, r, Z, o, R, G.wp_mono (G.wp_bind.mp h) (fun ts ht J H1 Z1 g1 hz iok => ?_) fun _ x => x⟩
  refine ⟨fun i m σ H => m = ts.length - i ∧ i ≤ ts.length ∧ ∃ r Z2 o, EnvR X.km w H0 Z0 r σ H Z2 o ∧ Sub Z1 Z2 ∧ (forG g c (ts.drop i) r).wp (PostS X.km w fr H0 Z0 Z D) (PostX X.km w E H0 Z0),
    ⟨ts.length, by simp, Nat.zero_le _, r, Z1, o, R.grow g1, Sub.refl _, ht⟩, ?_⟩
  rintro i m σ2 H2 ⟨rfl, hi, r2, Z2, o2, R2, s2, h2⟩
  obtain ⟨go, stop⟩ := iok i H2 Z2 s2 R2.good
  by_cases hlt : i < ts.length
  · obtain ⟨hgo, yld⟩ := go _ (List.getElem?_eq_getElem hlt)
    rw [List.drop_eq_getElem_cons hlt] at h2
    refine .inr ⟨hgo, fun σ' H' => ∃ r Z' o, EnvR X.km w H0 Z0 r σ' H' Z' o ∧ Sub Z1 Z' ∧ (forG g c (ts.drop (i + 1)) r).wp (PostS X.km w fr H0 Z0 Z D) (PostX X.km w E H0 Z0), fun σ' H' n => ⟨ts.length - (i + 1), by omega, rfl, hlt, n⟩, fun x H3 y => ?_⟩
    obtain ⟨Z3, g3, t3⟩ := yld x H3 y
    refine ⟨H0, Z0, r2, Z3, o2, _, R2.grow g3, t3, G.wp_mono (G.wp_bind.mp h2) (fun r4 h4 σ4 H4 Z4 o4 R4 g4 _ => ?_) fun _ x => x⟩
    refine ⟨H0, Z0, r4, Z4, o4, R4, G.wp_mono (G.wp_bind.mp h4) (fun k hk => ?_) fun _ x => x⟩
    have s4 : Sub Z1 Z4 := (s2.trans g3.zz).trans g4.zz
    cases k with
    | nx r5 => exact fun σ5 H5 Z5 o5 R5 s5 => ⟨r5, Z5, o5, R5, s4.trans s5, hk⟩
    | ct r5 => exact fun σ5 H5 Z5 o5 R5 s5 => ⟨r5, Z5, o5, R5, s4.trans s5, hk⟩
    | bk r5 => exact fun σ5 H5 Z5 o5 R5 s5 => hk σ5 H5 Z5 o5 R5 ((g1.zz.trans s4).trans s5)
    | rt t => exact hk
  · have e : i = ts.length := by omega
    subst e
    rw [List.drop_length] at h2
    exact .inl ⟨stop rfl, h2 σ2 H2 Z2 o2 R2 (g1.zz.trans s2)⟩

/-! ### while -/
def whileG (tc : List Sl → G Bool) (c : SC) : Nat → List Sl → G Ctl
  | 0, _ => .stuck
  | n + 1, r => tc r >>= fun b => if b then (c r >>= fun k => match k with
    | .nx r2 => whileG tc c n r2
    | .ct r2 => whileG tc c n r2
    | .bk r2 => .ret (.nx r2)
    | .rt t => .ret (.rt t)) else .ret (.nx r)
theorem cs_while (n : Nat) {ce : Expr} {tc : List Sl → G Bool} (hp : PassesOwn (model X.prog X.w) X.A X.env X.xe) (hc : CT X w E ce tc) (hb : CSs X w E fr body c) : CS X w E fr (.While ce body [] pos) (whileG tc c n) := by
  refine ⟨psImp (ps_while hp hc.pt hb.ps) fun D σ H h => ?_⟩
  obtain ⟨H0, Z0, r, Z, o, R, h⟩ := h
  refine ⟨fun m σ H => ∃ r Z2 o, EnvR X.km w H0 Z0 r σ H Z2 o ∧ Sub Z Z2 ∧ (whileG tc c m r).wp (PostS X.km w fr H0 Z0 Z D) (PostX X.km w E H0 Z0), ⟨n, r, Z, o, R, Sub.refl _, h⟩, ?_⟩
  rintro m σ2 H2 ⟨r2, Z2, o2, R2, s2, h2⟩
  cases m with
  | zero => exact h2.elim
  | succ m =>
    refine ⟨H0, Z0, r2, Z2, o2, R2, G.wp_mono (G.wp_bind.mp h2) (fun b hb H3 Z3 g3 => ?_) fun _ x => x⟩
    cases b with
    | false => exact iteF (hb σ2 H3 Z3 o2 (R2.grow g3) (s2.trans g3.zz))
    | true =>
      refine iteT ⟨fun σ' H' => ∃ r Z2 o, EnvR X.km w H0 Z0 r σ' H' Z2 o ∧ Sub Z Z2 ∧ (whileG tc c m r).wp (PostS X.km w fr H0 Z0 Z D) (PostX X.km w E H0 Z0), fun σ' H' q => ⟨m, Nat.lt_succ_self _, q⟩, ?_⟩
      have hb' : (c r2 >>= fun k => match k with
        | .nx r2 => whileG tc c m r2
        | .ct r2 => whileG tc c m r2
        | .bk r2 => .ret (.nx r2)
        | .rt t => .ret (.rt t)).wp (PostS X.km w fr H0 Z0 Z D) (PostX X.km w E H0 Z0) := hb
      refine ⟨H0, Z0, r2, Z3, o2, R2.grow g3, G.wp_mono (G.wp_bind.mp hb') (fun k hk => ?_) fun _ x => x⟩
      have s4 : Sub Z Z3 := s2.trans g3.zz
      cases k with
      | nx r5 => exact fun σ5 H5 Z5 o5 R5 s5 => ⟨r5, Z5, o5, R5, s4.trans s5, hk⟩
      | ct r5 => exact fun σ5 H5 Z5 o5 R5 s5 => ⟨r5, Z5, o5, R5, s4.trans s5, hk⟩
      | bk r5 => exact fun σ5 H5 Z5 o5 R5 s5 => hk σ5 H5 Z5 o5 R5 (s4.trans s5)
      | rt t => exact hk
end
end TL
end s_TL5
section s_TL6
set_option Elab.async false
set_option linter.all false
set_option maxRecDepth 100000
set_option maxHeartbeats 4000000
/-! TL6: comprehensions -/
namespace TL
open PySem PySem.Spec PyProof.Rows L2
/-- nothing may be raised here -/
def G.nox {α : Type} : G α → G α
  | .ret a => .ret a
  | .exc _ => .stuck
  | .stuck => .stuck
  | .pick n k => .pick n fun i => (k i).nox
  | .any k => .any fun l => (k l).nox
theorem G.wp_nox {α : Type} {m : G α} {Q : α → Prop} {E E' : T → Prop} (h : m.nox.wp Q E) : m.wp Q E' := by
  induction m with
  | ret a => exact h
  | exc e => exact h.elim
  | stuck => exact h
  | pick n k ih => exact fun i hi => ih i (h i hi)
  | any k ih => exact fun l => ih l (h l)
def compG (g : GC) (tt : List Sl → G Bool) (te : EC) : List T → List Sl → G (List T)
  | [], _ => .ret []
  | t :: ts, r => (g t r).nox >>= fun r1 => (tt r1).nox >>= fun b => if b then ((te r1).nox >>= fun y => compG g tt te ts r >>= fun ys => .ret (y :: ys)) else compG g tt te ts r
def wipeR (r : List Sl) : List Nat → List Sl
  | [] => r
  | v :: vs => (wipeR r vs).set v .un
def cComp (ci : List Sl → G (List T)) (g : GC) (tt : List Sl → G Bool) (te : EC) (vs : List Nat) : EC := fun r => ci r >>= fun ts => compG g tt te ts (wipeR r vs) >>= fun ys => .ret (.lst ys)
structure CTs (X : Cx) (w : Wd) (E : XK) (ifs : List Expr) (c : List Sl → G Bool) : Prop where
  pt : PTs X ifs (EvT X.km w E c)
section
variable {X : Cx} {w : Wd} {E : XK} {fr : Bool} {tg iter l e elt : Expr} {ifs : List Expr} {pos : Pos} {ca te : EC} {ci : List Sl → G (List T)} {g : GC} {S : List Nat} {tt : List Sl → G Bool}
variable {H0 Z0 H Z Z1 : Hp} {r : List Sl} {σ σ' : L2.St} {o : Nat → List Addr}
theorem ptsImp {t t' : TT} (h : PTs X ifs t) (f : ∀ σ H Q, t' σ H Q → t σ H Q) : PTs X ifs t' := ⟨fun pins s σ H Q I hw => h.run pins s σ H Q I (f σ H Q hw)⟩
theorem cts_nil : CTs X w E [] (fun _ => .ret true) := ⟨ptsImp pts_nil fun σ H Q ⟨H0, Z0, r, Z, o, R, h⟩ => h H Z (Grow.refl R.good)⟩
theorem cts_one (h : CT X w E e tt) : CTs X w E [e] tt := ⟨pts_one h.pt⟩
/-- a slot is forgotten -/
theorem EnvR.unset (R : EnvR X.km w H0 Z0 r σ H Z o) (i : Nat) : EnvR X.km w H0 Z0 (r.set i .un) (σ.set i none) H Z (fun j => if j = i then [] else o j) := by
  refine ⟨R.gr, by rw [List.length_set, List.length_set]; exact R.len, fun j s x h1 h2 => ?_, fun j hj => ?_, fun j k a h1 h2 => ?_, fun j a ha => ?_⟩
  · by_cases e : j = i
    · subst e
      have hj : j < r.length := by
        have := (List.getElem?_eq_some_iff.mp h1).1
        rwa [List.length_set] at this
      rw [List.getElem?_set_self hj] at h1
      cases h1
      exact if_pos rfl
    · rw [List.getElem?_set_ne (Ne.symm e)] at h1 h2
      simp only [if_neg e]
      exact R.sl j s x h1 h2
  · by_cases e : j = i
    · simp [e]
    · rw [List.length_set] at hj; simp only [if_neg e]; exact R.out j hj
  · by_cases e1 : j = i
    · simp [e1] at h1
    · by_cases e2 : k = i
      · simp [e2] at h2
      · simp only [if_neg e1] at h1; simp only [if_neg e2] at h2; exact R.dis j k a h1 h2
  · by_cases e1 : j = i
    · simp [e1] at ha
    · simp only [if_neg e1] at ha; exact R.fr j a ha
theorem EnvR.wipe (R : EnvR X.km w H0 Z0 r σ H Z o) : ∀ vs : List Nat, ∃ o', EnvR X.km w H0 Z0 (wipeR r vs) (L2.wipe σ vs) H Z o'
  | [] => ⟨o, R⟩
  | v :: vs => let ⟨o', R'⟩ := EnvR.wipe R vs; ⟨_, R'.unset v⟩
theorem wipe_get (σ : L2.St) (j : Nat) : ∀ {vs : List Nat}, j ∉ vs → (L2.wipe σ vs)[j]? = σ[j]?
  | [], _ => rfl
  | v :: vs, h => by
    simp only [List.mem_cons, not_or] at h
    show ((L2.wipe σ vs).set v none)[j]? = _
    rw [List.getElem?_set_ne (Ne.symm h.1)]
    exact wipe_get σ j h.2
theorem wipe_in (σ : L2.St) (j : Nat) : ∀ {vs : List Nat}, j ∈ vs → j < σ.length → (L2.wipe σ vs)[j]? = some none
  | v :: vs, h, hj => by
    show ((L2.wipe σ vs).set v none)[j]? = _
    by_cases e : v = j
    · subst e; exact List.getElem?_set_self (by rw [wipe_length]; exact hj)
    · rw [List.getElem?_set_ne e]
      exact wipe_in σ j ((List.mem_cons.mp h).resolve_left (Ne.symm e)) hj
theorem wipe_off {vs : List Nat} (h : Off S (L2.wipe σ vs) σ') (hS : ∀ j ∈ S, j ∈ vs) : L2.wipe σ' vs = L2.wipe σ vs := by
  have hl : σ'.length = σ.length := by rw [h.1, wipe_length]
  apply List.ext_getElem?
  intro j
  by_cases hj : j ∈ vs
  · by_cases hlt : j < σ.length
    · rw [wipe_in σ j hj hlt, wipe_in σ' j hj (by omega)]
    · rw [List.getElem?_eq_none (by rw [wipe_length]; omega), List.getElem?_eq_none (by rw [wipe_length]; omega)]
  · rw [wipe_get σ' j hj, h.2 j (fun z => hj (hS j z))]
/-- a thing beside the slots is written -/
theorem EnvR.beside (R : EnvR X.km w H0 Z0 r σ H Z o) {a : Addr} {u : HO} (h0 : H0 a = none) (hz : Z a = none) (hw : a ∉ w.W) (ho : ∀ i, a ∉ o i) : EnvR X.km w H0 Z0 r σ (upd H a u) Z o := by
  have hs : Sub Z (upd H a u) := fun b v e => by
    have ne : b ≠ a := fun q => by rw [q, hz] at e; cases e
    rw [upd_ne ne]; exact R.good.zh b v e
  refine ⟨⟨⟨hs, R.good.zw, w.loc _ _ (fun b hb => upd_ne (fun q => hw (q ▸ hb))) R.good.wi⟩, R.gr.zz, R.gr.new, fun b v e hb => ?_⟩, R.len, fun i s x h1 h2 => (R.sl i s x h1 h2).move (Sub.refl _) fun b hb v e => ?_, R.out, R.dis, R.fr⟩
  · have ne : b ≠ a := fun q => by rw [q, h0] at e; cases e
    rw [upd_ne ne]; exact R.gr.hh b v e hb
  · have ne : b ≠ a := fun q => ho i (q ▸ hb)
    rw [upd_ne ne]; exact e
theorem Grow.beside {H' Z' : Hp} (g : Grow w H Z H' Z') {a : Addr} {u : HO} (h0 : H a = none) (hz : Z' a = none) (hw : a ∉ w.W) : Grow w H Z (upd H' a u) Z' := by
  refine ⟨⟨fun b v e => ?_, g.good.zw, w.loc _ _ (fun b hb => upd_ne (fun q => hw (q ▸ hb))) g.good.wi⟩, g.zz, g.new, fun b v e hb => ?_⟩
  · have ne : b ≠ a := fun q => by rw [q, hz] at e; cases e
    rw [upd_ne ne]; exact g.good.zh b v e
  · have ne : b ≠ a := fun q => by rw [q, h0] at e; cases e
    rw [upd_ne ne]; exact g.hh b v e hb
theorem Grow.free {H' Z' : Hp} (g : Grow w H Z H' Z') {a : Addr} (h : Z a = none) (hh : H a ≠ none) : Z' a = none := by
  cases e : Z' a with
  | none => rfl
  | some u =>
    rcases g.new a u e with q | q
    · rw [h] at q; cases q
    · exact absurd q hh

theorem comp_core {vs : List Nat} {Q : VK} (R : EnvR X.km w H0 Z0 r σ H Z o) (hS : ∀ j ∈ S, j ∈ vs)
    (h : (cComp ci g tt te vs r).wp (PostF X.km w H Z Q) (PostX X.km w E H0 Z0)) :
    tLc (EvI X.km w E ci) (EvG X.km w (fun _ _ _ => False) S g) (EvT X.km w (fun _ _ _ => False) tt) (EvE X.km w (fun _ _ _ => False) te) vs σ H Q := by
  refine ⟨H0, Z0, r, Z, o, R, G.wp_mono (G.wp_bind.mp h) (fun ts ht J H1 Z1 g1 hz iok D hD => ?_) fun _ x => x⟩
  have R1 := R.grow g1
  obtain ⟨oi, Ri⟩ := R1.wipe vs
  have hDz : Z1 D = none := R1.good.tracked hD
  have hDw : D ∉ w.W := fun hm => R1.good.nw hD D hm rfl
  have hD0 : H0 D = none := by
    cases e : H0 D with
    | none => rfl
    | some u => have z := R1.gr.hh D u e hDw; rw [hD] at z; cases z
  have hDo : ∀ i, D ∉ oi i := fun i hm => Ri.tr i D hm hD
  refine ⟨fun i m H => m = ts.length - i ∧ i ≤ ts.length ∧ ∃ Z2 acc vacc, EnvR X.km w H0 Z0 (wipeR r vs) (L2.wipe σ vs) H Z2 oi ∧ Grow w H1 Z1 H Z2 ∧ H D = some (.lst vacc) ∧ Z2 D = none ∧ vacc.length ≤ i ∧ Trs X.K X.mg w Z2 acc vacc ∧
      (compG g tt te (ts.drop i) (wipeR r vs) >>= fun ys => G.ret (T.lst (acc ++ ys))).wp (PostF X.km w H1 Z1 Q) (PostX X.km w E H0 Z0),
    ⟨ts.length, by simp, Nat.zero_le _, Z1, [], [], Ri.beside hD0 hDz hDw hDo, Grow.beside (Grow.refl R1.good) hD hDz hDw, upd_same, hDz, Nat.zero_le _, .nil, G.wp_mono ht (fun t q => PostF.weak g1 q) fun _ x => x⟩, ?_⟩
  rintro i m H2 ⟨rfl, hi, Z2, acc, vacc, R2, g2, hD2, hDz2, hl2, tr2, h2⟩
  obtain ⟨go, stop⟩ := iok i H2 Z2 g2.zz R2.good
  by_cases hlt : i < ts.length
  · obtain ⟨hgo, yld⟩ := go _ (List.getElem?_eq_getElem hlt)
    rw [List.drop_eq_getElem_cons hlt] at h2
    refine .inr ⟨hgo, fun H' => ∃ Z2 acc vacc, EnvR X.km w H0 Z0 (wipeR r vs) (L2.wipe σ vs) H' Z2 oi ∧ Grow w H1 Z1 H' Z2 ∧ H' D = some (.lst vacc) ∧ Z2 D = none ∧ vacc.length ≤ i + 1 ∧ Trs X.K X.mg w Z2 acc vacc ∧
      (compG g tt te (ts.drop (i + 1)) (wipeR r vs) >>= fun ys => G.ret (T.lst (acc ++ ys))).wp (PostF X.km w H1 Z1 Q) (PostX X.km w E H0 Z0), fun H' n => ⟨ts.length - (i + 1), by omega, rfl, hlt, n⟩, fun x H3 y => ?_⟩
    obtain ⟨Z3, g3, t3⟩ := yld x H3 y
    have R3 := R2.grow g3
    have h3 := G.wp_nox (E' := PostX X.km w (fun _ _ _ => False) H0 Z0) (G.wp_bind.mp (G.wp_bind.mp h2))
    refine ⟨H0, Z0, _, Z3, oi, _, R3, t3, G.wp_mono h3 (fun r4 h4 σ4 H4 Z4 o4 R4 g4 off => ⟨wipe_off off hS, ?_⟩) fun _ x => x⟩
    have h5 := G.wp_nox (E' := PostX X.km w (fun _ _ _ => False) H0 Z0) (G.wp_bind.mp h4)
    refine ⟨H0, Z0, r4, Z4, o4, R4, G.wp_mono h5 (fun b hb H5 Z5 g5 => ?_) fun _ x => x⟩
    have g25 : Grow w H2 Z2 H5 Z5 := (g3.trans g4).trans g5
    cases b with
    | false =>
      refine iteF ⟨Z5, acc, vacc, R2.grow g25, g2.trans g25, g25.hh D _ hD2 hDw, g25.free hDz2 (by rw [hD2]; simp), by omega, tr2.mono g25.zz, G.wp_bind.mpr hb⟩
    | true =>
      refine iteT ?_
      have h6 := G.wp_nox (E' := PostX X.km w (fun _ _ _ => False) H0 Z0) (G.wp_bind.mp hb)
      refine ⟨H0, Z0, r4, Z5, o4, R4.grow g5, G.wp_mono h6 (fun t ht' v H6 Z6 g6 t6 => ?_) fun _ x => x⟩
      have g26 : Grow w H2 Z2 H6 Z6 := g25.trans g6
      have hD6 : H6 D = some (.lst vacc) := g26.hh D _ hD2 hDw
      have hDz6 : Z6 D = none := g26.free hDz2 (by rw [hD2]; simp)
      refine ⟨vacc, hD6, by omega, Z6, acc ++ [t], vacc ++ [v], (R2.grow g26).beside hD0 hDz6 hDw hDo, (g2.trans g26).beside hD hDz6 hDw, upd_same, hDz6, by simp; omega, (tr2.mono g26.zz).append (.cons t6 .nil), ?_⟩
      refine G.wp_bind.mpr (G.wp_mono (G.wp_bind.mp ht') (fun ys hy => ?_) fun _ x => x)
      have e : acc ++ [t] ++ ys = acc ++ t :: ys := by simp
      rw [e]
      exact hy
  · have e : i = ts.length := by omega
    subst e
    rw [List.drop_length] at h2
    refine .inl ⟨stop rfl, ?_⟩
    have h3 : PostF X.km w H1 Z1 Q (T.lst (acc ++ [])) := h2
    rw [List.append_nil] at h3
    refine h3 D [D] H2 Z2 g2 ⟨rfl, vacc, hD2, Nat.le_trans hl2 hz, tr2⟩ fun a ha => ?_
    simp at ha; subst ha
    exact ⟨hD, hDz2, hDw⟩
theorem cf_comp {scope : Scope} {own : List (Str × Nat)} (hN : X.N.Nodup) (hi : CI X w E tg iter ci) (ok : BlkOk X.N X.env.scope scope own)
    (hg : ∀ (s : Shared) (H : Hp) (C : Addr) (cl : List (Str × Addr)) (fp : List Addr), CG (X.blk s H scope (compEnvC scope cl C X.env) fp) w (fun _ _ _ => False) tg S g) (ht : ∀ (s : Shared) (H : Hp) (C : Addr) (cl : List (Str × Addr)) (fp : List Addr), CTs (X.blk s H scope (compEnvC scope cl C X.env) fp) w (fun _ _ _ => False) ifs tt)
    (he : ∀ (s : Shared) (H : Hp) (C : Addr) (cl : List (Str × Addr)) (fp : List Addr), CE (X.blk s H scope (compEnvC scope cl C X.env) fp) w (fun _ _ _ => False) elt te) (hc : X.calm = true := by rfl) (hs : ∀ x, foldedSetIterable iter X.env x = pure x := by intro _; rfl)
    (hS : ∀ j ∈ S, j ∈ own.map (·.2) := by decide) : CF X w E (.ListComp elt [⟨tg, iter, ifs, 0⟩] scope pos) (cComp ci g tt te (own.map (·.2))) :=
  ⟨peImp (pe_lc hc hN hi.pi ok (fun s H C cl fp => (hg s H C cl fp).pg) (fun s H C cl fp => (ht s H C cl fp).pt) (fun s H C cl fp => (he s H C cl fp).pe) hs) fun σ H Q ⟨H0, Z0, r, Z, o, R, h⟩ => comp_core R hS h⟩
/-- name = [..] -/
theorem cs_setComp {i : Nat} {y : Str} {py spos : Pos} {scope : Scope} {own : List (Str × Nat)} (hN : X.N.Nodup) (hsw : swapsWith (.ListComp elt [⟨tg, iter, ifs, 0⟩] scope pos) (some (.Name y py)) spos.line X.env = pure true) (hi : CI X w E tg iter ci) (ok : BlkOk X.N X.env.scope scope own)
    (hg : ∀ (s : Shared) (H : Hp) (C : Addr) (cl : List (Str × Addr)) (fp : List Addr), CG (X.blk s H scope (compEnvC scope cl C X.env) fp) w (fun _ _ _ => False) tg S g) (ht : ∀ (s : Shared) (H : Hp) (C : Addr) (cl : List (Str × Addr)) (fp : List Addr), CTs (X.blk s H scope (compEnvC scope cl C X.env) fp) w (fun _ _ _ => False) ifs tt)
    (he : ∀ (s : Shared) (H : Hp) (C : Addr) (cl : List (Str × Addr)) (fp : List Addr), CE (X.blk s H scope (compEnvC scope cl C X.env) fp) w (fun _ _ _ => False) elt te) (hy : X.N[i]? = some y := by rfl) (hyl : X.env.scope.names.lookup y = some .local := by rfl) (hc : X.calm = true := by rfl) (hs : ∀ x, foldedSetIterable iter X.env x = pure x := by intro _; rfl)
    (hS : ∀ j ∈ S, j ∈ own.map (·.2) := by decide) : CS X w E fr (.Assign [.Name y py] (.ListComp elt [⟨tg, iter, ifs, 0⟩] scope pos) spos) (cSetO i (cComp ci g tt te (own.map (·.2)))) := by
  refine ⟨⟨fun pins s σ H D I h => ?_⟩⟩
  have hl := I.len
  refine (ps_setLc (te := EvE X.km w (fun _ _ _ => False) te) (tt := EvT X.km w (fun _ _ _ => False) tt) (g := EvG X.km w (fun _ _ _ => False) S g) hc hN hy hyl hsw hi.pi ok (fun s H C cl fp => (hg s H C cl fp).pg) (fun s H C cl fp => (ht s H C cl fp).pt) (fun s H C cl fp => (he s H C cl fp).pe) hs).run pins s σ H D I ?_
  obtain ⟨H0, Z0, r, Z, o, R, h⟩ := h
  refine comp_core R hS (G.wp_mono (G.wp_bind.mp h) (fun t ht p oo H' Z' g rt f => ?_) fun _ x => x)
  have hir : i < r.length := by rw [R.len, hl]; exact (List.getElem?_eq_some_iff.mp hy).1
  obtain ⟨f1, f2⟩ := Fresh.env R f
  exact ht _ H' Z' _ ((R.grow g).setO i hir rt f1 f2) g.zz
end
end TL
end s_TL6
section s_TL7
set_option Elab.async false
set_option linter.all false
set_option maxRecDepth 100000
set_option maxHeartbeats 4000000
/-! TL7: defs whose callers' guards are known (repr asks that), from a body's computation to a promise -/
namespace TL
open PySem PySem.Spec PyProof.Rows L2
/-- a def's promise where no repr is under way around it -/
structure FnG (P : Program) (wd : World) (K : PySem.W.Frag) (mg : Str → Option Value) (base : Heap) (k : Nat) (f : Addr) (fd : FuncData) (ps : List Str) (sp : Sp) : Prop where
  len : ∀ vs H Q E, sp vs H Q E → vs.length = ps.length
  go : ∀ (A : Around) (outer : List Env) (s : Shared) (H : Hp) (args : Args) (us : List Value) (vs : List V) (Q : VK) (E : XK), A.guards = some [] → Room k A → Env0 P wd K mg base A outer s H → BindsTo s fd args (ps.zip us) →
    Vals vs us → sp vs H Q E → codeAny (model P wd) A (.call (.ref f) args) (CR (L2.CX P wd) outer P wd H s Q E) s
section
variable {P : Program} {wd : World} {K : PySem.W.Frag} {mg : Str → Option Value} {base : Heap} {j k : Nat} {f : Addr} {fd : FuncData} {ps : List Str} {sp sp' : Sp}
theorem FnG.of (F : FnOk P wd K mg base (L2.CX P wd) k f fd ps sp) : FnG P wd K mg base k f fd ps sp := ⟨F.len, fun A o s H a us vs Q E _ hr e b v h => F.run A o s H a us vs Q E hr e b v h⟩
theorem FnG.mono (F : FnG P wd K mg base j f fd ps sp) (h : j ≤ k) : FnG P wd K mg base k f fd ps sp := ⟨F.len, fun A o s H a us vs Q E g hr => F.go A o s H a us vs Q E g (hr.mono h)⟩
theorem FnG.imp (F : FnG P wd K mg base k f fd ps sp) (h : ∀ vs H Q E, sp' vs H Q E → sp vs H Q E) : FnG P wd K mg base k f fd ps sp' :=
  ⟨fun vs H Q E q => F.len vs H Q E (h _ _ _ _ q), fun A o s H a us vs Q E g hr e b v q => F.go A o s H a us vs Q E g hr e b v (h _ _ _ _ q)⟩
/-- from a body: as HandS's rule for a def, the guards told -/
theorem fnG_of {x qual : Str} {st : Stmt} {N : List Str} (F : Fun K x qual st f fd) (S : FnScope N ps (defScope st)) (len : ∀ vs H Q E, sp vs H Q E → vs.length = ps.length)
    (body : ∀ (cdv : Value) (A : Around) (outer : List Env) (s : Shared) (H : Hp) (vs : List V) (Q : VK) (E : XK), A.guards = some [] → Room k (A.deeper (envOfC qual (defScope st) s.heap.objs.size f cdv)) → sp vs H Q E →
      ∃ t, PSs (cxOf (L2.CX P wd) P wd K mg base N qual (defScope st) f cdv A outer s H E) (defBody st) t ∧ t { nx := fun _ H' => Q .non H', rt := Q } (start N vs) H) : FnG P wd K mg base (k + 1) f fd ps sp := by
  obtain ⟨oc, od, kV, doc, pm, an, cdv, ct, osl, rfl, lk, hcd⟩ := F.ex
  refine ⟨len, fun A outer s H args us vs Q E gd hr e0 hb rv hsp => ?_⟩
  have hKs : K.In s.heap := e0.mod.kin.keeps fun b o e => (e0.bs b o e).1
  have nolim : s.heap.NoLimit := e0.mod.nolimit.keeps fun b o e => (e0.bs b o e).1
  have kinds : ∀ y ∈ ps.zip us, (defScope st).names.lookup y.1 = some .local ∨ ((defScope st).names.lookup y.1 = some .cell ∧ ((cellsFrom (s.heap.objs.size + 1) (defScope st).names []).lookup y.1).isSome = true) := by
    rintro ⟨n, v⟩ hy
    rcases S.par n (List.of_mem_zip hy).1 with q | q
    · exact Or.inl q
    · exact Or.inr ⟨q, PySem.W.cellsFrom_some _ _ _ (Or.inl q)⟩
  refine codeAny_call_function hr.depth (hKs _ _ lk) rfl S.co S.gen rfl (PySem.W.codeRec_of hKs hcd) (hb _ _ _ _ ?_)
  refine wpAny_newFunctionEnv_cells S.kind kinds fun env he s1 ic => ?_
  subst he
  refine ⟨nolim.keeps ic.toInCall.keep, codeAny_func ?_⟩
  obtain ⟨t, ht, hq⟩ := body cdv A outer s H vs Q E gd (hr.deeper _) hsp
  have J : Inv (cxOf (L2.CX P wd) P wd K mg base N qual (defScope st) f cdv A outer s H E) [] (start N vs) H s1 := inv_start S hr.hd e0 (len _ _ _ _ hsp) rv ic
  refine wpAny_mono (ht.run [] s1 (start N vs) H _ J hq) (fun fl s' hs => ?_) (fun _ _ h => h)
  cases fl with
  | next => exact let ⟨_, H', J', q⟩ := hs; ⟨V.non, H', J'.os, J'.bare, J'.base, J'.hok, rfl, q⟩
  | brk => exact let ⟨_, _, _, q⟩ := hs; q.elim
  | cont => exact let ⟨_, _, _, q⟩ := hs; q.elim
  | ret u => exact let ⟨v, _, H', J', rr, q⟩ := hs; ⟨v, H', J'.os, J'.bare, J'.base, J'.hok, rr, q⟩
end

section
variable {X : Cx} {w : Wd} {E : XK} {k n : Nat} {f C : Addr} {fd : FuncData} {ps : List Str} {sp : Sp} {x m : Str} {p pos apos : Pos} {e o : Expr} {es : List Expr} {cs : List Sl → G (List T)} {ca : EC} {F : List T → G T}
/-- the callee runs -/
theorem runG {pins : List (Addr × Obj)} {σ : L2.St} {H : Hp} {s : Shared} {Q : VK} {us : List Value} {vs : List V} (Fk : FnG X.prog X.w X.K X.mg X.base k f fd ps sp) (gd : X.A.guards = some []) (hr : Room k X.A) (hb : Binds X.K fd ps []) (hx : Passes (L2.CX X.prog X.w) X E)
    (I : Inv X pins σ H s) (r : Vals vs us) (h : sp vs H Q E) : wpAny (model X.prog X.w) X.A (call (.ref f) us) (EP X pins σ Q) X.xe s := by
  have hl : (us ++ []).length = ps.length := by rw [List.append_nil, ← r.length]; exact Fk.len _ _ _ _ h
  have hbs := hb s us I.kIn hl
  rw [List.append_nil] at hbs
  refine wpAny_call (codeAny_mono (Fk.go X.A X.stack s H ⟨us, []⟩ us vs Q E gd hr I.env0 hbs r h) fun res s' hq => ?_)
  rcases res with e | (_ | _ | _ | u)
  · exact hx pins σ H s e s' I hq
  · exact False.elim hq
  · exact False.elim hq
  · exact False.elim hq
  · exact I.after hq
theorem peG (Fk : FnG X.prog X.w X.K X.mg X.base k f fd ps sp) (gd : X.A.guards = some []) (hr : Room k X.A) (hg : Gl X x) (hm : X.mg x = some (.ref f)) (hk : PySem.W.keepIn X.K (.ref f) = true) (hb : Binds X.K fd ps []) (hx : Passes (L2.CX X.prog X.w) X E) {t : TA}
    (ha : PA X (e :: es) t) (hdb : (x == ("__debug__" : Str)) = false := by decide) (he : starEach (e :: es) X.env = (false, eval e X.env) :: starEach es X.env := by rfl) (hpl : (backTo pos (starEach es X.env)).any (·.1) = false := by rfl) :
    PE X (.Call (.Name x p) (e :: es) [] pos) (fun σ H Q => t σ H fun vs H1 => sp vs H1 Q E) := by
  refine ⟨fun pins s σ H Q I h => wpAny_Call_Name_kw (ld_glob I hg hm ?_ hdb)⟩
  exact PySem.W.callWith_K (h₀ := X.base) I.ok.mod.kin hk (thn (ha.run pos pins s σ H _ I h) fun us s1 ⟨vs, H1, I1, r, q⟩ => ⟨I1.kIn, runG Fk gd hr hb hx I1 r q⟩) he hpl
theorem peG0 (Fk : FnG X.prog X.w X.K X.mg X.base k f fd ps sp) (gd : X.A.guards = some []) (hr : Room k X.A) (hg : Gl X x) (hm : X.mg x = some (.ref f)) (hk : PySem.W.keepIn X.K (.ref f) = true) (hb : Binds X.K fd ps []) (hx : Passes (L2.CX X.prog X.w) X E) (hdb : (x == ("__debug__" : Str)) = false := by decide) :
    PE X (.Call (.Name x p) [] [] pos) (fun σ H Q => sp [] H Q E) := by
  refine ⟨fun pins s σ H Q I h => wpAny_Call_Name_kw (ld_glob I hg hm ?_ hdb)⟩
  exact PySem.W.callWith_K0 I.kIn hk (runG (us := []) Fk gd hr hb hx I .nil h)
theorem evCall {H : Hp} {σ : L2.St} {Q : VK} (hl : Len cs n) (h : EvE X.km w E (cCall F cs) σ H Q) : EvA X.km w E cs σ H fun vs H1 => SpT X.K X.mg n F vs H1 Q E := by
  obtain ⟨H0, Z0, r, Z, o, R, h⟩ := h
  have h' : (cs r >>= fun ts => if ts.length = n then F ts else .stuck).wp (Post X.km w H Z Q) (PostX X.km w E H0 Z0) :=
    G.wp_bind.mpr (G.wp_mono (hl r _ _ (G.wp_bind.mp h)) (fun ts q => by rw [if_pos q.1]; exact q.2) fun _ x => x)
  refine evSeqA (P := fun H Z => Post X.km w H Z Q) R (fun g => Post.weak g) h' fun xs H1 Z1 ts R1 g1 t1 h1 => ?_
  by_cases e : ts.length = n
  · rw [if_pos e] at h1
    exact ⟨w, ts, Z1, by rw [← t1.length, e], R1.good, t1, G.wp_mono h1 (fun t ht v H' Z' g tr => ht v H' Z' g tr) fun ex hx cls d H' Z' g q => hx cls d H' Z' (R1.gr.trans g) q⟩
  · rw [if_neg e] at h1; exact h1.elim
theorem evCallF {H : Hp} {σ : L2.St} {Q : VK} (hl : Len cs n) (h : EvF X.km w E (cCall F cs) σ H Q) : EvA X.km w E cs σ H fun vs H1 => SpF X.K X.mg n F vs H1 Q E := by
  obtain ⟨H0, Z0, r, Z, o, R, h⟩ := h
  have h' : (cs r >>= fun ts => if ts.length = n then F ts else .stuck).wp (PostF X.km w H Z Q) (PostX X.km w E H0 Z0) :=
    G.wp_bind.mpr (G.wp_mono (hl r _ _ (G.wp_bind.mp h)) (fun ts q => by rw [if_pos q.1]; exact q.2) fun _ x => x)
  refine evSeqA (P := fun H Z => PostF X.km w H Z Q) R (fun g => PostF.weak g) h' fun xs H1 Z1 ts R1 g1 t1 h1 => ?_
  by_cases e : ts.length = n
  · rw [if_pos e] at h1
    exact ⟨w, ts, Z1, by rw [← t1.length, e], R1.good, t1, G.wp_mono h1 (fun t ht p o H' Z' g rt f => ht p o H' Z' g rt f) fun ex hx cls d H' Z' g q => hx cls d H' Z' (R1.gr.trans g) q⟩
  · rw [if_neg e] at h1; exact h1.elim
theorem ce_callG (Fk : FnG X.prog X.w X.K X.mg X.base k f fd ps (SpT X.K X.mg n F)) (gd : X.A.guards = some []) (hr : Room k X.A) (hx : Passes (L2.CX X.prog X.w) X E) (hg : Gl X x) (hm : X.mg x = some (.ref f)) (hk : PySem.W.keepIn X.K (.ref f) = true) (hb : Binds X.K fd ps [])
    (ha : CA X w E (e :: es) cs) (hl : Len cs n) (hdb : (x == ("__debug__" : Str)) = false := by decide) (he : starEach (e :: es) X.env = (false, eval e X.env) :: starEach es X.env := by rfl) (hpl : (backTo pos (starEach es X.env)).any (·.1) = false := by rfl) :
    CE X w E (.Call (.Name x p) (e :: es) [] pos) (cCall F cs) := ⟨peImp (peG Fk gd hr hg hm hk hb hx ha.pa hdb he hpl) fun σ H Q h => evCall hl h⟩
theorem cf_callG (Fk : FnG X.prog X.w X.K X.mg X.base k f fd ps (SpF X.K X.mg n F)) (gd : X.A.guards = some []) (hr : Room k X.A) (hx : Passes (L2.CX X.prog X.w) X E) (hg : Gl X x) (hm : X.mg x = some (.ref f)) (hk : PySem.W.keepIn X.K (.ref f) = true) (hb : Binds X.K fd ps [])
    (ha : CA X w E (e :: es) cs) (hl : Len cs n) (hdb : (x == ("__debug__" : Str)) = false := by decide) (he : starEach (e :: es) X.env = (false, eval e X.env) :: starEach es X.env := by rfl) (hpl : (backTo pos (starEach es X.env)).any (·.1) = false := by rfl) :
    CF X w E (.Call (.Name x p) (e :: es) [] pos) (cCall F cs) := ⟨peImp (peG Fk gd hr hg hm hk hb hx ha.pa hdb he hpl) fun σ H Q h => evCallF hl h⟩
theorem ce_callG0 (Fk : FnG X.prog X.w X.K X.mg X.base k f fd ps (SpT X.K X.mg 0 F)) (gd : X.A.guards = some []) (hr : Room k X.A) (hx : Passes (L2.CX X.prog X.w) X E) (hg : Gl X x) (hm : X.mg x = some (.ref f)) (hk : PySem.W.keepIn X.K (.ref f) = true) (hb : Binds X.K fd ps [])
    (hdb : (x == ("__debug__" : Str)) = false := by decide) : CE X w E (.Call (.Name x p) [] [] pos) (cCall F caNil) :=
  ⟨peImp (peG0 Fk gd hr hg hm hk hb hx hdb) fun σ H Q h => by
    have q := evCall (n := 0) len_nil h
    obtain ⟨H0, Z0, r, Z, o, R, q⟩ := q
    exact q [] H Z (Grow.refl R.good) .nil⟩
theorem cf_callG0 (Fk : FnG X.prog X.w X.K X.mg X.base k f fd ps (SpF X.K X.mg 0 F)) (gd : X.A.guards = some []) (hr : Room k X.A) (hx : Passes (L2.CX X.prog X.w) X E) (hg : Gl X x) (hm : X.mg x = some (.ref f)) (hk : PySem.W.keepIn X.K (.ref f) = true) (hb : Binds X.K fd ps [])
    (hdb : (x == ("__debug__" : Str)) = false := by decide) : CF X w E (.Call (.Name x p) [] [] pos) (cCall F caNil) :=
  ⟨peImp (peG0 Fk gd hr hg hm hk hb hx hdb) fun σ H Q h => by
    have q := evCallF (n := 0) len_nil h
    obtain ⟨H0, Z0, r, Z, o, R, q⟩ := q
    exact q [] H Z (Grow.refl R.good) .nil⟩
end

/-! ### a def by its body's computation -/
def runB (c : SC) (m : Nat) (ts : List T) : G T := c (ts.map .fz ++ List.replicate (m - ts.length) .un) >>= fun k => match k with
  | .rt t => .ret t
  | .nx _ => .ret .non
  | _ => .stuck
/-- .. that always says what it returns -/
def runR (c : SC) (m : Nat) (ts : List T) : G T := c (ts.map .fz ++ List.replicate (m - ts.length) .un) >>= fun k => match k with
  | .rt t => .ret t
  | _ => .stuck
theorem env_start {M : Km} {w : Wd} {H Z : Hp} {ts : List T} {vs : List V} {N : List Str} (g : Good w H Z) (tr : Trs M.K M.mg w Z ts vs) (hl : vs.length ≤ N.length) : EnvR M w H Z (ts.map .fz ++ List.replicate (N.length - ts.length) .un) (L2.start N vs) H Z (fun _ => []) := by
  have el := tr.length
  refine ⟨Grow.refl g, ?_, fun i s x h1 h2 => ?_, fun _ _ => rfl, fun i j a ha _ => (nomatch ha), fun i a ha => (nomatch ha)⟩
  · unfold L2.start
    rw [List.length_append, List.length_append, List.length_map, List.length_map, List.length_replicate, List.length_replicate, el]
  · unfold L2.start at h2
    by_cases hi : i < ts.length
    · rw [List.getElem?_append_left (by simpa using hi), List.getElem?_map] at h1
      rw [List.getElem?_append_left (by rw [List.length_map]; omega), List.getElem?_map] at h2
      cases e : ts[i]? with
      | none => rw [e] at h1; cases h1
      | some t =>
        obtain ⟨v, hv, tv⟩ := tr.get e
        rw [e] at h1; rw [hv] at h2
        cases h1; cases h2
        exact ⟨rfl, v, rfl, tv⟩
    · rw [List.getElem?_append_right (by rw [List.length_map]; omega), List.getElem?_replicate] at h1
      split at h1
      · cases h1; exact rfl
      · cases h1
section
variable {P : Program} {wd : World} {K : PySem.W.Frag} {mg : Str → Option Value} {base : Heap} {k : Nat} {f : Addr} {fd : FuncData} {ps N : List Str} {x qual : Str} {st : Stmt} {c : SC}
theorem fnT (F : Fun K x qual st f fd) (S : FnScope N ps (defScope st))
    (body : ∀ (w : Wd) (cdv : Value) (A : Around) (outer : List Env) (s : Shared) (H : Hp) (E : XK), (A.deeper (envOfC qual (defScope st) s.heap.objs.size f cdv)).guards = some [] → Room k (A.deeper (envOfC qual (defScope st) s.heap.objs.size f cdv)) →
      Passes (L2.CX P wd) (cxOf (L2.CX P wd) P wd K mg base N qual (defScope st) f cdv A outer s H E) E →
      CSs (cxOf (L2.CX P wd) P wd K mg base N qual (defScope st) f cdv A outer s H E) w E false (defBody st) c) : FnG P wd K mg base (k + 1) f fd ps (SpT K mg ps.length (runB c N.length)) := by
  have hpl : ps.length ≤ N.length := by have := congrArg List.length S.pre; rw [List.length_take] at this; omega
  refine fnG_of F S (fun vs H Q E h => let ⟨_, _, _, h, _⟩ := h; h) fun cdv A outer s H vs Q E gd hr h => ?_
  obtain ⟨w, ts, Z, hl, g, tr, hw⟩ := h
  refine ⟨_, (body w cdv A outer s H E gd hr (passes_call (takes_of rfl rfl rfl rfl) fun _ _ _ _ q => q)).ps, ?_⟩
  refine ⟨H, Z, _, Z, fun _ => [], env_start g tr (by omega), G.wp_mono (G.wp_bind.mp hw) (fun kk hk => ?_) fun ex hx cls d H' Z' gg q => hx cls d H' Z' gg q⟩
  cases kk with
  | nx r => exact fun σ' H' Z' o' R' s' => hk _ H' Z' R'.gr .non
  | bk r => exact hk.elim
  | ct r => exact hk.elim
  | rt t =>
    have goal : PostR ⟨K, mg⟩ w false H Z t Q := fun v H' Z' gg tt => hk v H' Z' gg tt
    exact goal
theorem fnF (F : Fun K x qual st f fd) (S : FnScope N ps (defScope st))
    (body : ∀ (w : Wd) (cdv : Value) (A : Around) (outer : List Env) (s : Shared) (H : Hp) (E : XK), (A.deeper (envOfC qual (defScope st) s.heap.objs.size f cdv)).guards = some [] → Room k (A.deeper (envOfC qual (defScope st) s.heap.objs.size f cdv)) →
      Passes (L2.CX P wd) (cxOf (L2.CX P wd) P wd K mg base N qual (defScope st) f cdv A outer s H E) E →
      CSs (cxOf (L2.CX P wd) P wd K mg base N qual (defScope st) f cdv A outer s H E) w E true (defBody st) c) : FnG P wd K mg base (k + 1) f fd ps (SpF K mg ps.length (runR c N.length)) := by
  have hpl : ps.length ≤ N.length := by have := congrArg List.length S.pre; rw [List.length_take] at this; omega
  refine fnG_of F S (fun vs H Q E h => let ⟨_, _, _, h, _⟩ := h; h) fun cdv A outer s H vs Q E gd hr h => ?_
  obtain ⟨w, ts, Z, hl, g, tr, hw⟩ := h
  refine ⟨_, (body w cdv A outer s H E gd hr (passes_call (takes_of rfl rfl rfl rfl) fun _ _ _ _ q => q)).ps, ?_⟩
  refine ⟨H, Z, _, Z, fun _ => [], env_start g tr (by omega), G.wp_mono (G.wp_bind.mp hw) (fun kk hk => ?_) fun ex hx cls d H' Z' gg q => hx cls d H' Z' gg q⟩
  cases kk with
  | nx r => exact hk.elim
  | bk r => exact hk.elim
  | ct r => exact hk.elim
  | rt t =>
    have goal : PostR ⟨K, mg⟩ w true H Z t Q := fun p o H' Z' gg rt f => hk p o H' Z' gg rt f
    exact goal
end
end TL
end s_TL7
section s_TL8
set_option Elab.async false
set_option linter.all false
set_option maxRecDepth 100000
set_option maxHeartbeats 4000000
/-! TL8: operators, comparisons, items, slices, lengths -/
namespace TL
open PySem PySem.Spec PyProof.Rows L2
/-! ### data as the library compares it -/
mutual
def toPy : T → Option PyData
  | .non => some .none
  | .bl b => some (.bool b)
  | .int i => some (.int i)
  | .str x => some (.str x)
  | .tup xs => (toPys xs).map .tuple
  | .lst xs => (toPys xs).map .list
  | _ => none
def toPys : List T → Option (List PyData)
  | [] => some []
  | t :: ts => (toPy t).bind fun d => (toPys ts).map fun ds => d :: ds
end
/-- data without dicts, not too deep -/
def okT (t : T) : Bool := match toPy t with
  | some d => SeqAt.shaped d
  | none => false
def eqT (a b : T) : Bool := match toPy a, toPy b with
  | some d, some e => PyData.eqv d e
  | _, _ => false
section
variable {K : PySem.W.Frag} {mg : Str → Option Value} {w : Wd} {Z H : Hp}
mutual
theorem Tr.dp (s : Sub Z H) : ∀ {t : T} {v : V} {d : PyData}, Tr K mg w Z t v → toPy t = some d → Dp K H v d
  | _, _, _, .non, e => by simp only [toPy, Option.some.injEq] at e; subst e; exact .non
  | _, _, _, .bl b, e => by simp only [toPy, Option.some.injEq] at e; subst e; exact .bl b
  | _, _, _, .int i, e => by simp only [toPy, Option.some.injEq] at e; subst e; exact .int i
  | _, _, _, .str x, e => by simp only [toPy, Option.some.injEq] at e; subst e; exact .str x
  | _, _, _, .tup h l r, e => by
    simp only [toPy, Option.map_eq_some_iff] at e
    obtain ⟨ds, e1, rfl⟩ := e
    exact .tup (s.sqT h) (Trs.dp s r e1)
  | _, _, _, .lst h l r, e => by
    simp only [toPy, Option.map_eq_some_iff] at e
    obtain ⟨ds, e1, rfl⟩ := e
    exact .lst (SqL.of (s _ _ h)) (Trs.dp s r e1)
  | _, _, _, .ty _, e => by simp [toPy] at e
  | _, _, _, .dic _ _ _, e => by simp [toPy] at e
  | _, _, _, .ins _ _ _ _, e => by simp [toPy] at e
  | _, _, _, .fn _, e => by simp [toPy] at e
  | _, _, _, .drw _, e => by simp [toPy] at e
  | _, _, _, .scr _ _, e => by simp [toPy] at e
theorem Trs.dp (s : Sub Z H) : ∀ {ts : List T} {vs : List V} {ds : List PyData}, Trs K mg w Z ts vs → toPys ts = some ds → DpAll K H vs ds
  | _, _, _, .nil, e => by simp only [toPys, Option.some.injEq] at e; subst e; exact .nil
  | _, _, _, .cons a b, e => by
    simp only [toPys, Option.bind_eq_some_iff, Option.map_eq_some_iff] at e
    obtain ⟨d, e1, ds, e2, rfl⟩ := e
    exact .cons (Tr.dp s a e1) (Trs.dp s b e2)
end
end
section
variable {M : Km} {X : Cx} {w : Wd} {E : XK} {k : Nat}
def fEqB (neg : Bool) : T → T → G T := fun a b => match a, b with
  | .str x, .str y => .ret (.bl (neg != decide (x = y)))
  | a, b => if okT a && okT b then .ret (.bl (neg != eqT a b)) else .stuck
abbrev fEq := fEqB false
abbrev fNe := fEqB true
theorem eqB_data {neg : Bool} {H0 Z0 : Hp} {r : List Sl} {σ : L2.St} {H Z : Hp} {o : Nat → List Addr} (R : EnvR M w H0 Z0 r σ H Z o) {a b : T} {x y : V} {Q : VK} (ta : Tr M.K M.mg w Z a x) (tb : Tr M.K M.mg w Z b y)
    (h : (if okT a && okT b then G.ret (T.bl (neg != eqT a b)) else .stuck).wp (Post M w H Z Q) (PostX M w E H0 Z0)) : ∃ d e, Dp M.K H x d ∧ Dp M.K H y e ∧ SeqAt.shaped d = true ∧ SeqAt.shaped e = true ∧ Q (.bl (neg != PyData.eqv d e)) H := by
  cases ea : toPy a with
  | none => rw [show okT a = false by unfold okT; rw [ea]] at h; exact h.elim
  | some d =>
    cases eb : toPy b with
    | none => rw [show okT b = false by unfold okT; rw [eb], Bool.and_false] at h; exact h.elim
    | some e =>
      by_cases hc : (okT a && okT b) = true
      · rw [if_pos hc] at h
        rw [Bool.and_eq_true] at hc
        have h1 : SeqAt.shaped d = true := by have := hc.1; unfold okT at this; rwa [ea] at this
        have h2 : SeqAt.shaped e = true := by have := hc.2; unfold okT at this; rwa [eb] at this
        have h3 : eqT a b = PyData.eqv d e := by unfold eqT; rw [ea, eb]
        rw [h3] at h
        exact ⟨d, e, ta.dp R.good.zh ea, tb.dp R.good.zh eb, h1, h2, h _ H Z (Grow.refl R.good) (.bl _)⟩
      · rw [if_neg hc] at h; exact h.elim
theorem t2_eq : T2 M w E (fun x y H Q => rEq x y H Q ∨ rEqD M.K x y H Q) fEq := fun H0 Z0 r σ H Z o R a b x y Q ta tb hw => by
  have data : (if okT a && okT b then G.ret (T.bl (false != eqT a b)) else .stuck).wp (Post M w H Z Q) (PostX M w E H0 Z0) → (rEq x y H Q ∨ rEqD M.K x y H Q) := fun h => by
    obtain ⟨d, e, h1, h2, h3, h4, h5⟩ := eqB_data R ta tb h
    rw [Bool.false_bne] at h5
    exact .inr ⟨d, e, h1, h2, h3, h4, h5⟩
  cases ta <;> try exact data hw
  cases tb <;> try exact data hw
  refine .inl ⟨rfl, ?_⟩
  have q := hw _ H Z (Grow.refl R.good) (.bl _)
  rw [Bool.false_bne] at q
  rw [show decide (V.str _ = V.str _) = decide (_ = _) from decide_eq_decide.mpr ⟨fun h => V.str.inj h, fun h => congrArg V.str h⟩]
  exact q
theorem t2_ne : T2 M w E (fun x y H Q => rNe x y H Q ∨ rNeD M.K x y H Q) fNe := fun H0 Z0 r σ H Z o R a b x y Q ta tb hw => by
  have data : (if okT a && okT b then G.ret (T.bl (true != eqT a b)) else .stuck).wp (Post M w H Z Q) (PostX M w E H0 Z0) → (rNe x y H Q ∨ rNeD M.K x y H Q) := fun h => by
    obtain ⟨d, e, h1, h2, h3, h4, h5⟩ := eqB_data R ta tb h
    rw [Bool.true_bne] at h5
    exact .inr ⟨d, e, h1, h2, h3, h4, h5⟩
  cases ta <;> try exact data hw
  cases tb <;> try exact data hw
  refine .inl ⟨rfl, ?_⟩
  have q := hw _ H Z (Grow.refl R.good) (.bl _)
  rw [Bool.true_bne] at q
  rw [show decide (V.str _ = V.str _) = decide (_ = _) from decide_eq_decide.mpr ⟨fun h => V.str.inj h, fun h => congrArg V.str h⟩]
  exact q
theorem o_eq (hr : Room k X.A) : OpR X (compareOp .Eq) (fun x y H Q => rEq x y H Q ∨ rEqD X.K x y H Q) := op_eq.or (op_eqD hr.units)
theorem o_ne (hr : Room k X.A) : OpR X (compareOp .NotEq) (fun x y H Q => rNe x y H Q ∨ rNeD X.K x y H Q) := op_ne.or (op_neD hr.units)

/-! ### + of ints, texts, tuples, lists -/
def fits (n : Nat) : Bool := decide (n ≤ 16777216)
theorem fits_line {n : Nat} (h : fits n = true) : n ≤ sizeLine := by rw [sizeLine_eq]; exact of_decide_eq_true h
def fAdd : T → T → G T
  | .int i, .int j => .ret (.int (i + j))
  | .str x, .str y => if fits (x.length + y.length) then .ret (.str (x ++ y)) else .stuck
  | .tup xs, .tup ys => if fits (xs.length + ys.length) then .ret (.tup (xs ++ ys)) else .stuck
  | .lst xs, .lst ys => if fits (xs.length + ys.length) then .ret (.lst (xs ++ ys)) else .stuck
  | _, _ => .stuck
def rAddT (K : PySem.W.Frag) : R2 := fun x y H Q => rI0 (fun i j => .int (i + j)) x y H Q ∨ (∃ i j, x = .str i ∧ y = .str j ∧ i.length + j.length ≤ sizeLine ∧ Q (.str (i ++ j)) H) ∨ rCatA K x y H Q ∨ rCat x y H Q
theorem o_add : OpR X (binaryOp .Add) (rAddT X.K) := op_add.or (op_add_str.or (op_catA.or op_cat))
theorem t2_add : T2 M w E (rAddT M.K) fAdd := fun H0 Z0 r σ H Z o R a b x y Q ta tb hw => by
  cases ta with
  | int i =>
    cases tb with
    | int j => exact .inl ⟨i, j, rfl, rfl, hw _ H Z (Grow.refl R.good) (.int _)⟩
    | _ => exact hw.elim
  | str z =>
    cases tb with
    | str z' =>
      by_cases e : fits (z.length + z'.length) = true
      · have hw' : (if fits (z.length + z'.length) then G.ret (T.str (z ++ z')) else .stuck).wp (Post M w H Z Q) (PostX M w E H0 Z0) := hw
        rw [if_pos e] at hw'
        exact .inr (.inl ⟨z, z', rfl, rfl, fits_line e, hw' _ H Z (Grow.refl R.good) (.str _)⟩)
      · have hw' : (if fits (z.length + z'.length) then G.ret (T.str (z ++ z')) else .stuck).wp (Post M w H Z Q) (PostX M w E H0 Z0) := hw
        rw [if_neg e] at hw'; exact hw'.elim
    | _ => exact hw.elim
  | @tup ts p vs h1 l1 r1 =>
    cases tb with
    | @tup us q ws h2 l2 r2 =>
      have hw' : (if fits (ts.length + us.length) then G.ret (T.tup (ts ++ us)) else .stuck).wp (Post M w H Z Q) (PostX M w E H0 Z0) := hw
      by_cases e : fits (ts.length + us.length) = true
      · rw [if_pos e] at hw'
        have el1 := r1.length
        have el2 := r2.length
        have hz := fits_line e
        refine .inr (.inr (.inl ⟨p, q, vs, ws, rfl, rfl, R.good.sqT h1, R.good.sqT h2, by omega, fun hn => ?_, fun _ hn => ?_, fun _ _ c hc => ?_⟩))
        · have : ts = [] := List.eq_nil_of_length_eq_zero (by rw [el1, hn]; rfl)
          subst this
          exact hw' _ H Z (Grow.refl R.good) (.tup h2 l2 r2)
        · have : us = [] := List.eq_nil_of_length_eq_zero (by rw [el2, hn]; rfl)
          subst this
          refine hw' _ H Z (Grow.refl R.good) ?_
          rw [List.append_nil]
          exact .tup h1 l1 r1
        · have s := Sub.upd (o := .tup (vs ++ ws)) (R.good.tracked hc)
          exact hw' _ _ _ (Grow.laidF R.good hc) (.tup (SqT.of upd_same) (by rw [List.length_append]; omega) ((r1.mono s).append (r2.mono s)))
      · rw [if_neg e] at hw'; exact hw'.elim
    | _ => exact hw.elim
  | @lst ts p vs h1 l1 r1 =>
    cases tb with
    | @lst us q ws h2 l2 r2 =>
      have hw' : (if fits (ts.length + us.length) then G.ret (T.lst (ts ++ us)) else .stuck).wp (Post M w H Z Q) (PostX M w E H0 Z0) := hw
      by_cases e : fits (ts.length + us.length) = true
      · rw [if_pos e] at hw'
        have el1 := r1.length
        have el2 := r2.length
        have hz := fits_line e
        refine .inr (.inr (.inr ⟨p, q, vs, ws, rfl, rfl, R.good.zh _ _ h1, R.good.zh _ _ h2, by omega, fun c hc => ?_⟩))
        have s := Sub.upd (o := .lst (vs ++ ws)) (R.good.tracked hc)
        exact hw' _ _ _ (Grow.laidF R.good hc) (.lst upd_same (by rw [List.length_append]; omega) ((r1.mono s).append (r2.mono s)))
      · rw [if_neg e] at hw'; exact hw'.elim
    | _ => exact hw.elim
  | _ => exact hw.elim
/-- list + list as a new thing -/
def fCat : T → T → G T
  | .lst xs, .lst ys => if fits (xs.length + ys.length) then .ret (.lst (xs ++ ys)) else .stuck
  | _, _ => .stuck
def T2F (X : Km) (w : Wd) (E : XK) (rd : R2) (f : T → T → G T) : Prop := ∀ H0 Z0 r σ H Z o (_ : EnvR X w H0 Z0 r σ H Z o) a b x y (Q : VK), Tr X.K X.mg w Z a x → Tr X.K X.mg w Z b y →
  (f a b).wp (PostF X w H Z Q) (PostX X w E H0 Z0) → rd x y H Q
theorem ev2F {f : T → T → G T} {ca cb : EC} {rd : R2} (hf : T2F X.km w E rd f) {σ : L2.St} {H : Hp} {Q : VK} (h : EvF X.km w E (cOp2 f ca cb) σ H Q) : tOp rd (EvE X.km w E ca) (EvE X.km w E cb) σ H Q := by
  obtain ⟨H0, Z0, r, Z, o, R, h⟩ := h
  refine evSeq (P := fun H Z => PostF X.km w H Z Q) (PX := fun _ => True) R (fun g => PostF.weak g) h fun x H1 Z1 a R1 g1 t1 h1 => ?_
  refine evSeq (P := fun H Z => PostF X.km w H Z Q) (PX := fun _ => True) R1 (fun g => PostF.weak g) h1 fun y H2 Z2 b R2 g2 t2 h2 => ?_
  exact hf H0 Z0 r σ H2 Z2 o R2 a b x y Q (t1.mono g2.zz) t2 h2
theorem cf_op {a b : Expr} {pos : Pos} {ca cb : EC} {op : Operator} {rd : R2} {f : T → T → G T} (ho : OpR X (binaryOp op) rd) (hf : T2F X.km w E rd f) (ha : CE X w E a ca) (hb : CE X w E b cb) : CF X w E (.BinOp a op b pos) (cOp2 f ca cb) :=
  ⟨peImp (pe_op ho ha.pe hb.pe) fun _ _ _ h => ev2F hf h⟩
theorem t2_cat : T2F M w E rCat fCat := fun H0 Z0 r σ H Z o R a b x y Q ta tb hw => by
  cases ta with
  | @lst ts p vs h1 l1 r1 =>
    cases tb with
    | @lst us q ws h2 l2 r2 =>
      have hw' : (if fits (ts.length + us.length) then G.ret (T.lst (ts ++ us)) else .stuck).wp (PostF M w H Z Q) (PostX M w E H0 Z0) := hw
      by_cases e : fits (ts.length + us.length) = true
      · rw [if_pos e] at hw'
        have el1 := r1.length
        have el2 := r2.length
        have hz := fits_line e
        refine ⟨p, q, vs, ws, rfl, rfl, R.good.zh _ _ h1, R.good.zh _ _ h2, by omega, fun c hc => ?_⟩
        exact hw' c [c] _ Z (Grow.laid R.good hc) ⟨rfl, _, upd_same, by rw [List.length_append]; omega, r1.append r2⟩ (Grow.newRoot R.good hc)
      · rw [if_neg e] at hw'; exact hw'.elim
    | _ => exact hw.elim
  | _ => exact hw.elim
/-- list * int -/
def fRep : T → T → G T
  | .lst xs, .int k => if fits (xs.length * k.toNat) && decide (-(2 ^ 63) ≤ k) && decide (k < 2 ^ 63) then .ret (.lst (List.replicate k.toNat xs).flatten) else .stuck
  | _, _ => .stuck
theorem Trs.rep {K : PySem.W.Frag} {mg : Str → Option Value} {Z : Hp} {ts : List T} {vs : List V} (h : Trs K mg w Z ts vs) : ∀ n : Nat, Trs K mg w Z (List.replicate n ts).flatten (List.replicate n vs).flatten
  | 0 => .nil
  | n + 1 => by rw [List.replicate_succ, List.replicate_succ, List.flatten_cons, List.flatten_cons]; exact h.append (Trs.rep h n)
theorem t2_rep : T2F M w E rRep fRep := fun H0 Z0 r σ H Z o R a b x y Q ta tb hw => by
  cases ta with
  | @lst ts p vs h1 l1 r1 =>
    cases tb with
    | int k =>
      have hw' : (if fits (ts.length * k.toNat) && decide (-(2 ^ 63) ≤ k) && decide (k < 2 ^ 63) then G.ret (T.lst (List.replicate k.toNat ts).flatten) else .stuck).wp (PostF M w H Z Q) (PostX M w E H0 Z0) := hw
      by_cases e : (fits (ts.length * k.toNat) && decide (-(2 ^ 63) ≤ k) && decide (k < 2 ^ 63)) = true
      · rw [if_pos e] at hw'
        rw [Bool.and_eq_true, Bool.and_eq_true] at e
        have el1 := r1.length
        have hz := fits_line e.1.1
        refine ⟨p, k, vs, rfl, rfl, R.good.zh _ _ h1, of_decide_eq_true e.1.2, of_decide_eq_true e.2, by rw [← el1]; exact hz, fun c hc => ?_⟩
        refine hw' c [c] _ Z (Grow.laid R.good hc) ⟨rfl, _, upd_same, ?_, r1.rep _⟩ (Grow.newRoot R.good hc)
        rw [PyProof.Rows.lm_len_rep_flat, Nat.mul_comm, ← el1]; exact hz
      · rw [if_neg e] at hw'; exact hw'.elim
    | _ => exact hw.elim
  | _ => exact hw.elim
end
end TL
end s_TL8
section s_TL9
set_option Elab.async false
set_option linter.all false
set_option maxRecDepth 100000
set_option maxHeartbeats 4000000
/-! TL9: items, slices, lengths, membership, kinds, conversions, attributes -/
namespace TL
open PySem PySem.Spec PyProof.Rows L2
section
variable {K : PySem.W.Frag} {mg : Str → Option Value} {w : Wd} {Z H : Hp}
/-! ### dicts by int and text keys -/
def dGet (kvs : List (T × T)) (k : Key) : Option T := (kvs.find? fun kv => decide (keyT kv.1 = some k)).map (·.2)
theorem Trd.get {k : Key} : ∀ {kts : List (T × T)} {kvs : List (Key × V)}, Trd K mg w Z kts kvs → (dGet kts k = none ∧ valV kvs k = none) ∨ ∃ t v, dGet kts k = some t ∧ valV kvs k = some v ∧ Tr K mg w Z t v
  | _, _, .nil => .inl ⟨rfl, rfl⟩
  | _, _, .cons (k := q) (key := key) (t := t) (v := v) (kts := kts) e a r => by
    by_cases hk : key = k
    · refine .inr ⟨t, v, ?_, valV_pos hk, a⟩
      unfold dGet
      rw [List.find?_cons_of_pos (by simp [e, hk])]
      rfl
    · have h1 : dGet ((q, t) :: kts) k = dGet kts k := by
        unfold dGet
        rw [List.find?_cons_of_neg (by simp [e, hk])]
      rw [h1, valV_neg hk]
      exact Trd.get r
theorem Tr.key {t : T} {v : V} {k : Key} (h : Tr K mg w Z t v) (e : keyT t = some k) : v = kV k := by
  cases h <;> simp [keyT] at e
  · subst e; rfl
  · subst e; rfl
theorem Trd.length : ∀ {kts : List (T × T)} {kvs : List (Key × V)}, Trd K mg w Z kts kvs → kts.length = kvs.length
  | _, _, .nil => rfl
  | _, _, .cons _ _ r => by rw [List.length_cons, List.length_cons, Trd.length r]
theorem Trs.at {ts : List T} {vs : List V} {i : Int} {t : T} (h : Trs K mg w Z ts vs) (e : atI ts i = some t) : ∃ v, atI vs i = some v ∧ Tr K mg w Z t v := by
  unfold atI at e ⊢
  rw [← h.length]
  cases q : ixN ts.length i with
  | none => rw [q] at e; cases e
  | some j =>
    rw [q] at e
    exact h.get e
end
section
variable {M : Km} {X : Cx} {w : Wd} {E : XK} {k : Nat}
/-! ### a[b] -/
def fIx : T → T → G T
  | .tup ts, .int i => match atI ts i with | some t => .ret t | none => .stuck
  | .lst ts, .int i => match atI ts i with | some t => .ret t | none => .stuck
  | .str z, .int i => if fits z.length then (match atI z.cps.toList i with | some c => .ret (.str ⟨#[c]⟩) | none => .stuck) else .stuck
  | .dic kvs, q => match keyT q with
    | some k => (match dGet kvs k with | some t => .ret t | none => .stuck)
    | none => .stuck
  | _, _ => .stuck
def rDGet : R2 := fun x y H Q => ∃ a v, x = .ref a ∧ DGet H a y (some v) ∧ Q v H
theorem ix_dict (hu : X.A.units + 1 < cLine) : IxR X rDGet := by
  intro value slice pins s σ H x y v u Q I rx ry h hs
  obtain ⟨a, d, rfl, g, q⟩ := h
  cases rx
  exact tail_any (dict_typeIs I g) PySem.F.slot_dict_getitem.lookup (d_getItem hu I g ry fun w' s' I' r => ⟨d, H, I', r, q⟩) hs
def rIxA (K : PySem.W.Frag) : R2 := fun x y H Q => rIx K x y H Q ∨ rDGet x y H Q
theorem o_ix (hr : Room k X.A) : IxR X (rIxA X.K) := ix_seq.or (ix_dict (hu_of hr))
theorem t2_ix : T2 M w E (rIxA M.K) fIx := fun H0 Z0 r σ H Z o R a b x y Q ta tb hw => by
  cases ta with
  | @tup ts p vs h l tr =>
    cases tb with
    | int i =>
      simp only [fIx] at hw
      cases e : atI ts i with
      | none => rw [e] at hw; exact hw.elim
      | some t =>
        rw [e] at hw
        obtain ⟨v, hv, tv⟩ := tr.at e
        exact .inl (.inr (.inl ⟨p, vs, i, v, rfl, rfl, R.good.sqT h, hv, hw v H Z (Grow.refl R.good) tv⟩))
    | _ => exact hw.elim
  | @lst ts p vs h l tr =>
    cases tb with
    | int i =>
      simp only [fIx] at hw
      cases e : atI ts i with
      | none => rw [e] at hw; exact hw.elim
      | some t =>
        rw [e] at hw
        obtain ⟨v, hv, tv⟩ := tr.at e
        exact .inl (.inl ⟨p, vs, i, v, rfl, rfl, SqL.of (R.good.zh _ _ h), hv, hw v H Z (Grow.refl R.good) tv⟩)
    | _ => exact hw.elim
  | str z =>
    cases tb with
    | int i =>
      simp only [fIx] at hw
      by_cases hz : fits z.length = true
      · rw [if_pos hz] at hw
        cases e : atI z.cps.toList i with
        | none => rw [e] at hw; exact hw.elim
        | some c => rw [e] at hw; exact .inl (.inr (.inr ⟨z, i, c, rfl, rfl, fits_line hz, e, hw _ H Z (Grow.refl R.good) (.str _)⟩))
      · rw [if_neg hz] at hw; exact hw.elim
    | _ => exact hw.elim
  | @dic kts p kvs h l tr =>
    simp only [fIx] at hw
    cases ek : keyT b with
    | none => rw [ek] at hw; exact hw.elim
    | some key =>
      rw [ek] at hw
      have ey := tb.key ek
      rcases tr.get (k := key) with ⟨e1, _⟩ | ⟨t, v, e1, e2, tv⟩
      · simp only [e1] at hw; exact hw.elim
      · simp only [e1] at hw
        exact .inr ⟨p, v, rfl, .inl ⟨kvs, key, Sub.rd R.good.zh h.rd, ey, e2.symm⟩, hw v H Z (Grow.refl R.good) tv⟩
  | _ => exact hw.elim

/-! ### len -/
def fLen : List T → G T
  | [.tup ts] => .ret (.int ts.length)
  | [.lst ts] => .ret (.int ts.length)
  | [.scr ns] => .ret (.int ns.length)
  | [.dic kvs] => .ret (.int kvs.length)
  | [.str z] => if fits z.length then .ret (.int z.length) else .stuck
  | _ => .stuck
def rLen (K : PySem.W.Frag) : List V → Hp → VK → Prop := fun xs H Q => (∃ p ys, xs = [.ref p] ∧ (SqL K H p ys ∨ SqT K H p ys) ∧ Q (.int ys.length) H) ∨ (∃ z, xs = [.str z] ∧ z.length ≤ sizeLine ∧ Q (.int z.length) H) ∨ ∃ a kvs, xs = [.ref a] ∧ Rd H a (.dK kvs) ∧ Q (.int kvs.length) H
theorem call_lenR : CallR X (.builtin "len") (fun xs H Q => ∃ a kvs, xs = [.ref a] ∧ Rd H a (.dK kvs) ∧ Q (.int kvs.length) H) := by
  intro pins s σ H xs us Q I r h
  obtain ⟨a, kvs, rfl, e, q⟩ := h
  obtain ⟨u, rfl, ru⟩ := vals1 r
  cases ru
  exact d_len I e fun t s' I' => ⟨.int kvs.length, H, I', ⟨t, rfl⟩, q⟩
theorem o_len : CallR X (.builtin "len") (rLen X.K) := call_len_seq.or (call_len_str.or call_lenR)
theorem tn_len : TN M w E (rLen M.K) fLen := fun H0 Z0 r σ H Z o R ts vs Q tr hw => by
  cases tr with
  | nil => exact hw.elim
  | cons t1 t2 =>
    cases t2 with
    | cons => cases t1 <;> exact hw.elim
    | nil =>
      cases t1 with
      | @tup ts p vs h l tr =>
        have q : Q (.int ts.length) H := hw _ H Z (Grow.refl R.good) (.int _)
        rw [tr.length] at q
        exact .inl ⟨p, vs, rfl, .inr (R.good.sqT h), q⟩
      | @lst ts p vs h l tr =>
        have q : Q (.int ts.length) H := hw _ H Z (Grow.refl R.good) (.int _)
        rw [tr.length] at q
        exact .inl ⟨p, vs, rfl, .inl (SqL.of (R.good.zh _ _ h)), q⟩
      | @scr ns p h l =>
        have q : Q (.int ns.length) H := hw _ H Z (Grow.refl R.good) (.int _)
        exact .inl ⟨p, _, rfl, .inl (R.good.sqL h), by rw [List.length_map]; exact q⟩
      | @dic kts p kvs h l tr =>
        have q : Q (.int kts.length) H := hw _ H Z (Grow.refl R.good) (.int _)
        rw [tr.length] at q
        exact .inr (.inr ⟨p, kvs, rfl, Sub.rd R.good.zh h.rd, q⟩)
      | str z =>
        simp only [fLen] at hw
        by_cases hz : fits z.length = true
        · rw [if_pos hz] at hw
          exact .inr (.inl ⟨z, rfl, fits_line hz, hw _ H Z (Grow.refl R.good) (.int _)⟩)
        · rw [if_neg hz] at hw; exact hw.elim
      | _ => exact hw.elim

/-! ### in -/
def fInB (neg : Bool) : T → T → G T := fun a b => match b with
  | .dic kvs => (match keyT a with | some k => .ret (.bl (neg != (dGet kvs k).isSome)) | none => .stuck)
  | .lst ts => if okT a && okT (.lst ts) then .ret (.bl (neg != ts.any fun t => eqT t a)) else .stuck
  | .tup ts => if flatT a && ts.all flatT then .ret (.bl (neg != ts.any fun t => eqT t a)) else .stuck
  | .str z => (match a with | .str y => .ret (.bl (neg != !(Builtin.Str.occurrences z y 0 z.length 1).isEmpty)) | _ => .stuck)
  | _ => .stuck
where flatT : T → Bool
  | .non | .bl _ | .int _ | .str _ => true
  | _ => false
abbrev fIn := fInB false
abbrev fNotIn := fInB true
theorem flat_of {K : PySem.W.Frag} {mg : Str → Option Value} {Z : Hp} {t : T} {v : V} (h : Tr K mg w Z t v) (f : fInB.flatT t = true) : flatV v = true ∧ ∃ d, toPy t = some d := by
  cases h <;> first | (cases f; done) | exact ⟨rfl, _, rfl⟩
theorem eqV_flat {K : PySem.W.Frag} {mg : Str → Option Value} {Z : Hp} {a b : T} {x y : V} (h : Tr K mg w Z a x) (h' : Tr K mg w Z b y) (f : fInB.flatT a = true) (f' : fInB.flatT b = true) : eqV x y = eqT a b := by
  have core : ∀ p q : Int, decide (p = q) = (p == q) := fun p q => (Bool.beq_eq_decide_eq p q).symm
  cases h <;> first | (cases f; done) | (cases h' <;> first | (cases f'; done) | (simp [eqV, eqT, toPy, PyData.eqv, Bool.beq_eq_decide_eq]; done) | rfl)
theorem any_flat {K : PySem.W.Frag} {mg : Str → Option Value} {Z : Hp} {a : T} {x : V} (h : Tr K mg w Z a x) (f : fInB.flatT a = true) : ∀ {ts : List T} {vs : List V}, Trs K mg w Z ts vs → ts.all fInB.flatT = true → vs.all flatV = true ∧ inV x vs = ts.any fun t => eqT t a
  | _, _, .nil, _ => ⟨rfl, rfl⟩
  | _, _, .cons t1 t2, e => by
    rw [List.all_cons, Bool.and_eq_true] at e
    obtain ⟨h1, h2⟩ := any_flat h f t2 e.2
    obtain ⟨f1, _⟩ := flat_of t1 e.1
    refine ⟨by rw [List.all_cons, f1, h1]; rfl, ?_⟩
    unfold inV at h2 ⊢
    rw [List.any_cons, List.any_cons, h2, eqV_flat t1 h e.1 f]
def rInA (K : PySem.W.Frag) (neg : Bool) : R2 := fun x y H Q => (∃ a o, y = .ref a ∧ DGet H a x o ∧ Q (.bl (neg != o.isSome)) H) ∨ (∃ d ds, Dp K H x d ∧ Dp K H y (.list ds) ∧ SeqAt.shaped d = true ∧ SeqAt.shaped (.list ds) = true ∧ Q (.bl (neg != ds.any fun z => PyData.eqv z d)) H) ∨
  (∃ p xs, y = .ref p ∧ SqT K H p xs ∧ flatV x = true ∧ xs.all flatV = true ∧ Q (.bl (neg != inV x xs)) H) ∨ ∃ i j, x = .str i ∧ y = .str j ∧ Q (.bl (neg != !(Builtin.Str.occurrences j i 0 j.length 1).isEmpty)) H
theorem o_in (hr : Room k X.A) (hu : X.A.units + 65 < cLine := by have := hr.un; omega) : OpR X (compareOp .In) (rInA X.K false) := by
  intro pins s σ H x y v u Q I rx ry h
  rcases h with ⟨a, o, rfl, g, q⟩ | ⟨d, ds, h1, h2, h3, h4, q⟩ | ⟨p, xs, rfl, h1, h2, h3, q⟩ | ⟨i, j, rfl, rfl, q⟩
  · cases ry
    refine d_in (hu_of hr) I g rx fun s' I' => ⟨.bl o.isSome, H, I', rfl, ?_⟩
    rw [Bool.false_bne] at q; exact q
  · rw [Bool.false_bne] at q
    exact op_inD hu pins s σ H x y v u Q I rx ry ⟨d, ds, h1, h2, h3, h4, q⟩
  · rw [Bool.false_bne] at q
    exact op_in_seq pins s σ H x _ v u Q I rx ry ⟨p, xs, rfl, .inr h1, h2, h3, q⟩
  · rw [Bool.false_bne] at q
    exact op_in_str pins s σ H _ _ v u Q I rx ry ⟨i, j, rfl, rfl, q⟩
theorem o_notIn (hr : Room k X.A) (hu : X.A.units + 65 < cLine := by have := hr.un; omega) : OpR X (compareOp .NotIn) (rInA X.K true) := by
  intro pins s σ H x y v u Q I rx ry h
  rcases h with ⟨a, o, rfl, g, q⟩ | ⟨d, ds, h1, h2, h3, h4, q⟩ | ⟨p, xs, rfl, h1, h2, h3, q⟩ | ⟨i, j, rfl, rfl, q⟩
  · cases ry
    refine d_notIn (hu_of hr) I g rx fun s' I' => ⟨.bl (!o.isSome), H, I', rfl, ?_⟩
    rw [Bool.true_bne] at q; exact q
  · rw [Bool.true_bne] at q
    exact op_notInD hu pins s σ H x y v u Q I rx ry ⟨d, ds, h1, h2, h3, h4, q⟩
  · rw [Bool.true_bne] at q
    exact op_notIn_seq pins s σ H x _ v u Q I rx ry ⟨p, xs, rfl, .inr h1, h2, h3, q⟩
  · rw [Bool.true_bne] at q
    exact L2.op_notIn_str pins s σ H _ _ v u Q I rx ry ⟨i, j, rfl, rfl, q⟩
theorem toPys_any {d : PyData} {a : T} (ea : toPy a = some d) : ∀ {ts : List T} {ds : List PyData}, toPys ts = some ds → (ts.any fun t => eqT t a) = ds.any fun z => PyData.eqv z d
  | [], _, e => by simp only [toPys, Option.some.injEq] at e; subst e; rfl
  | t :: ts, _, e => by
    simp only [toPys, Option.bind_eq_some_iff, Option.map_eq_some_iff] at e
    obtain ⟨d1, e1, ds, e2, rfl⟩ := e
    rw [List.any_cons, List.any_cons, toPys_any ea e2]
    congr 1
    unfold eqT; rw [e1, ea]
theorem t2_in (neg : Bool) : T2 M w E (rInA M.K neg) (fInB neg) := fun H0 Z0 r σ H Z o R a b x y Q ta tb hw => by
  cases tb with
  | @dic kts p kvs h l tr =>
    simp only [fInB] at hw
    cases ek : keyT a with
    | none => rw [ek] at hw; exact hw.elim
    | some key =>
      rw [ek] at hw
      have ex := ta.key ek
      have q : Q (.bl (neg != (dGet kts key).isSome)) H := hw _ H Z (Grow.refl R.good) (.bl _)
      refine .inl ⟨p, valV kvs key, rfl, .inl ⟨kvs, key, Sub.rd R.good.zh h.rd, ex, rfl⟩, ?_⟩
      rcases tr.get (k := key) with ⟨e1, e2⟩ | ⟨t, v, e1, e2, _⟩
      · rw [e1] at q; rw [e2]; exact q
      · rw [e1] at q; rw [e2]; exact q
  | @lst ts p vs h l tr =>
    simp only [fInB] at hw
    by_cases hc : (okT a && okT (.lst ts)) = true
    · rw [if_pos hc] at hw
      rw [Bool.and_eq_true] at hc
      have q : Q (.bl (neg != ts.any fun t => eqT t a)) H := hw _ H Z (Grow.refl R.good) (.bl _)
      cases ea : toPy a with
      | none => have z := hc.1; unfold okT at z; rw [ea] at z; cases z
      | some d =>
        cases eb : toPys ts with
        | none => have z := hc.2; unfold okT at z; simp only [toPy, eb, Option.map_none] at z; cases z
        | some ds =>
          have el : toPy (.lst ts) = some (.list ds) := by simp only [toPy, eb, Option.map_some]
          have s1 : SeqAt.shaped d = true := by have z := hc.1; unfold okT at z; rwa [ea] at z
          have s2 : SeqAt.shaped (.list ds) = true := by have z := hc.2; unfold okT at z; rwa [el] at z
          rw [toPys_any ea eb] at q
          exact .inr (.inl ⟨d, ds, ta.dp R.good.zh ea, Tr.dp R.good.zh (.lst h l tr) el, s1, s2, q⟩)
    · rw [if_neg hc] at hw; exact hw.elim
  | @tup ts p vs h l tr =>
    simp only [fInB] at hw
    by_cases hc : (fInB.flatT a && ts.all fInB.flatT) = true
    · rw [if_pos hc] at hw
      rw [Bool.and_eq_true] at hc
      have q : Q (.bl (neg != ts.any fun t => eqT t a)) H := hw _ H Z (Grow.refl R.good) (.bl _)
      obtain ⟨f1, _⟩ := flat_of ta hc.1
      obtain ⟨f2, e2⟩ := any_flat ta hc.1 tr hc.2
      exact .inr (.inr (.inl ⟨p, vs, rfl, R.good.sqT h, f1, f2, by rw [e2]; exact q⟩))
    · rw [if_neg hc] at hw; exact hw.elim
  | str z =>
    cases ta with
    | str y => exact .inr (.inr (.inr ⟨y, z, rfl, rfl, hw _ H Z (Grow.refl R.good) (.bl _)⟩))
    | _ => exact hw.elim
  | _ => cases ta <;> exact hw.elim
end
end TL
end s_TL9
section s_TL10
set_option Elab.async false
set_option linter.all false
set_option maxRecDepth 100000
set_option maxHeartbeats 4000000
/-! TL10: slices, any, all, tuple, list, attributes, stars, kinds -/
namespace TL
open PySem PySem.Spec PyProof.Rows L2
section
variable {M : Km} {X : Cx} {w : Wd} {E : XK} {k : Nat} {e a b : Expr} {es : List Expr} {ca cb : EC} {cs : List Sl → G (List T)} {pos p2 : Pos}
variable {H0 Z0 H Z Z1 : Hp} {r : List Sl} {σ : L2.St} {o : Nat → List Addr}
/-! ### slices -/
def cutT (ts : List T) (lo hi : Option Int) : List T := (ts.drop (HT.sIx ts.length 0 lo)).take (HT.sIx ts.length ts.length hi - HT.sIx ts.length 0 lo)
def fSl : T → Option Int → Option Int → G T
  | .tup ts, lo, hi => .ret (.tup (cutT ts lo hi))
  | .lst ts, lo, hi => .ret (.lst (cutT ts lo hi))
  | .str z, lo, hi => if fits z.length then .ret (.str (cutS z lo hi)) else .stuck
  | _, _, _ => .stuck
def PostO (w : Wd) (H Z : Hp) (Q : Option Int → Hp → Prop) : Option Int → Prop := fun i => ∀ H' Z', Grow w H Z H' Z' → Q i H'
def EvO (X : Km) (w : Wd) (E : XK) (c : List Sl → G (Option Int)) : TO := fun σ H Q => ∃ H0 Z0 r Z o, EnvR X w H0 Z0 r σ H Z o ∧ (c r).wp (PostO w H Z Q) (PostX X w E H0 Z0)
structure CO (X : Cx) (w : Wd) (E : XK) (e : Option Expr) (c : List Sl → G (Option Int)) : Prop where
  po : PO X e (EvO X.km w E c)
theorem poImp {e : Option Expr} {t t' : TO} (h : PO X e t) (f : ∀ σ H Q, t' σ H Q → t σ H Q) : PO X e t' := ⟨fun pins s σ H Q I hw => h.run pins s σ H Q I (f σ H Q hw)⟩
def coNone : List Sl → G (Option Int) := fun _ => .ret none
def coSome (c : EC) : List Sl → G (Option Int) := fun r => c r >>= fun t => match t with | .int i => .ret (some i) | _ => .stuck
theorem co_none : CO X w E none coNone := ⟨poImp po_none fun σ H Q ⟨H0, Z0, r, Z, o, R, h⟩ => h H Z (Grow.refl R.good)⟩
theorem co_some (h : CE X w E e ca) : CO X w E (some e) (coSome ca) := ⟨poImp (po_some h.pe) fun σ H Q ⟨H0, Z0, r, Z, o, R, h⟩ => by
  refine evSeq (P := fun H Z => PostO w H Z Q) (PX := fun _ => True) R (fun g h H' Z' g' => h H' Z' (g.trans g')) h fun x H1 Z1 a R1 g1 t1 h1 => ?_
  cases t1 <;> try exact h1.elim
  exact ⟨_, rfl, h1 H1 Z1 (Grow.refl R1.good)⟩⟩
def cSl (ca : EC) (c1 c2 : List Sl → G (Option Int)) : EC := fun r => ca r >>= fun a => c1 r >>= fun l => c2 r >>= fun u => fSl a l u
def rSlAll (K : PySem.W.Frag) : V → Option Int → Option Int → Hp → VK → Prop := fun x lo hi H Q => rSlA K x lo hi H Q ∨ rSlL K x lo hi H Q ∨ rSlS x lo hi H Q
theorem o_sl : L2.SlR X (rSlAll X.K) := sl_tupA.or (sl_list.or sl_str)
theorem Trs.cut {K : PySem.W.Frag} {mg : Str → Option Value} {Z : Hp} {ts : List T} {vs : List V} (h : Trs K mg w Z ts vs) (lo hi : Option Int) : Trs K mg w Z (cutT ts lo hi) (cutV vs lo hi) := by
  unfold cutT cutV
  rw [h.length]
  exact (h.drop _).take _
theorem ce_sl {lo hi : Option Expr} {c1 c2 : List Sl → G (Option Int)} (he : CE X w E e ca) (hl : CO X w E lo c1) (hu : CO X w E hi c2) : CE X w E (.Subscript e (.Slice lo hi none p2) pos) (cSl ca c1 c2) := by
  refine ⟨peImp (pe_slice o_sl he.pe hl.po hu.po) fun σ H Q h => ?_⟩
  obtain ⟨H0, Z0, r, Z, o, R, h⟩ := h
  refine evSeq (P := fun H Z => Post X.km w H Z Q) (PX := fun _ => True) R (fun g => Post.weak g) h fun x H1 Z1 a R1 g1 t1 h1 => ?_
  refine ⟨H0, Z0, r, Z1, o, R1, G.wp_mono (G.wp_bind.mp h1) (fun l hl' H2 Z2 g2 => ?_) fun _ x => x⟩
  refine ⟨H0, Z0, r, Z2, o, R1.grow g2, G.wp_mono (G.wp_bind.mp hl') (fun u hu' H3 Z3 g3 => ?_) fun _ x => x⟩
  have R3 := (R1.grow g2).grow g3
  have t3 := t1.mono (g2.zz.trans g3.zz)
  have h3 : (fSl a l u).wp (Post X.km w H3 Z3 Q) (PostX X.km w E H0 Z0) := G.wp_mono hu' (fun t ht => Post.weak (g2.trans g3) ht) fun _ x => x
  cases t3 with
  | @tup ts p vs h l' tr =>
    have q : Post X.km w H3 Z3 Q (.tup (cutT ts l u)) := h3
    refine .inl ⟨p, vs, rfl, R3.good.sqT h, fun hw => ?_, fun _ c hc => ?_⟩
    · refine q _ H3 Z3 (Grow.refl R3.good) ?_
      have : cutT ts l u = ts := by
        unfold cutT
        rw [tr.length, hw.1, hw.2, List.drop_zero, Nat.sub_zero, ← tr.length, List.take_length]
      rw [this]
      exact .tup h l' tr
    · have s := Sub.upd (o := .tup (cutV vs l u)) (R3.good.tracked hc)
      exact q _ _ _ (Grow.laidF R3.good hc) (.tup (SqT.of upd_same) (Nat.le_trans (cutV_length _ _ _) l') ((tr.cut l u).mono s))
  | @lst ts p vs h l' tr =>
    have q : Post X.km w H3 Z3 Q (.lst (cutT ts l u)) := h3
    refine .inr (.inl ⟨p, vs, rfl, SqL.of (R3.good.zh _ _ h), fun c hc => ?_⟩)
    have s := Sub.upd (o := .lst (cutV vs l u)) (R3.good.tracked hc)
    exact q _ _ _ (Grow.laidF R3.good hc) (.lst upd_same (Nat.le_trans (cutV_length _ _ _) l') ((tr.cut l u).mono s))
  | str z =>
    by_cases hz : fits z.length = true
    · have h3' : (if fits z.length then G.ret (T.str (cutS z l u)) else .stuck).wp (Post X.km w H3 Z3 Q) (PostX X.km w E H0 Z0) := h3
      rw [if_pos hz] at h3'
      exact .inr (.inr ⟨z, rfl, fits_line hz, h3' _ H3 Z3 (Grow.refl R3.good) (.str _)⟩)
    · have h3' : (if fits z.length then G.ret (T.str (cutS z l u)) else .stuck).wp (Post X.km w H3 Z3 Q) (PostX X.km w E H0 Z0) := h3
      rw [if_neg hz] at h3'; exact h3'.elim
  | _ => exact h3.elim

/-! ### any, all of a list of bools; tuple(x), list(x) -/
def bls : List T → Option (List Bool)
  | [] => some []
  | .bl b :: ts => (bls ts).map (b :: ·)
  | _ => none
theorem Trs.bls {K : PySem.W.Frag} {mg : Str → Option Value} {Z : Hp} : ∀ {ts : List T} {vs : List V} {bs : List Bool}, Trs K mg w Z ts vs → TL.bls ts = some bs → vs = bs.map V.bl
  | _, _, _, .nil, e => by simp only [TL.bls, Option.some.injEq] at e; subst e; rfl
  | _, _, _, .cons (t := t) h r, e => by
    cases h <;> simp only [TL.bls, Option.map_eq_some_iff, reduceCtorEq] at e
    obtain ⟨bs, e1, rfl⟩ := e
    rw [Trs.bls r e1]; rfl
def fAny : List T → G T
  | [.lst ts] => (match bls ts with | some bs => .ret (.bl (bs.any id)) | none => .stuck)
  | _ => .stuck
def fAll : List T → G T
  | [.lst ts] => (match bls ts with | some bs => .ret (.bl (bs.all id)) | none => .stuck)
  | _ => .stuck
theorem tn_any : TN M w E (rAny M.K) fAny := fun H0 Z0 r σ H Z o R ts vs Q tr hw => by
  cases tr with
  | nil => exact hw.elim
  | cons t1 t2 =>
    cases t2 with
    | cons => cases t1 <;> exact hw.elim
    | nil =>
      cases t1 with
      | @lst ts p vs h l tr =>
        simp only [fAny] at hw
        cases e : bls ts with
        | none => rw [e] at hw; exact hw.elim
        | some bs =>
          rw [e] at hw
          have ev := tr.bls e
          subst ev
          exact ⟨p, bs, rfl, SqL.of (R.good.zh _ _ h), hw _ H Z (Grow.refl R.good) (.bl _)⟩
      | _ => exact hw.elim
theorem tn_all : TN M w E (rAll M.K) fAll := fun H0 Z0 r σ H Z o R ts vs Q tr hw => by
  cases tr with
  | nil => exact hw.elim
  | cons t1 t2 =>
    cases t2 with
    | cons => cases t1 <;> exact hw.elim
    | nil =>
      cases t1 with
      | @lst ts p vs h l tr =>
        simp only [fAll] at hw
        cases e : bls ts with
        | none => rw [e] at hw; exact hw.elim
        | some bs =>
          rw [e] at hw
          have ev := tr.bls e
          subst ev
          exact ⟨p, bs, rfl, SqL.of (R.good.zh _ _ h), hw _ H Z (Grow.refl R.good) (.bl _)⟩
      | _ => exact hw.elim
def fTuple : List T → G T
  | [.lst ts] => .ret (.tup ts)
  | [.tup ts] => .ret (.tup ts)
  | _ => .stuck
def rTuple (K : PySem.W.Frag) : List V → Hp → VK → Prop := fun xs H Q => ∃ p ys, xs = [.ref p] ∧ ((SqL K H p ys ∧ ∀ l, H l = none → Q (.ref l) (upd H l (.tup ys))) ∨ (SqT K H p ys ∧ Q (.ref p) H))
theorem o_tuple : CallR X (.type "tuple") (rTuple X.K) := call_tuple_of
theorem tn_tuple : TN M w E (rTuple M.K) fTuple := fun H0 Z0 r σ H Z o R ts vs Q tr hw => by
  cases tr with
  | nil => exact hw.elim
  | cons t1 t2 =>
    cases t2 with
    | cons => cases t1 <;> exact hw.elim
    | nil =>
      cases t1 with
      | @lst ts p vs h l tr =>
        refine ⟨p, vs, rfl, .inl ⟨SqL.of (R.good.zh _ _ h), fun c hc => ?_⟩⟩
        have s := Sub.upd (o := .tup vs) (R.good.tracked hc)
        exact hw _ _ _ (Grow.laidF R.good hc) (.tup (SqT.of upd_same) l (tr.mono s))
      | @tup ts p vs h l tr => exact ⟨p, vs, rfl, .inr ⟨R.good.sqT h, hw _ H Z (Grow.refl R.good) (.tup h l tr)⟩⟩
      | _ => exact hw.elim
def fList : List T → G T
  | [.lst ts] => .ret (.lst ts)
  | [.tup ts] => .ret (.lst ts)
  | _ => .stuck
def rListOf (K : PySem.W.Frag) : List V → Hp → VK → Prop := fun xs H Q => ∃ p ys, xs = [.ref p] ∧ (SqL K H p ys ∨ SqT K H p ys) ∧ ∀ l, H l = none → Q (.ref l) (upd H l (.lst ys))
theorem o_list : CallR X (.type "list") (rListOf X.K) := call_list_of
theorem tn_list : TNF M w E (rListOf M.K) fList := fun H0 Z0 r σ H Z o R ts vs Q tr hw => by
  cases tr with
  | nil => exact hw.elim
  | cons t1 t2 =>
    cases t2 with
    | cons => cases t1 <;> exact hw.elim
    | nil =>
      cases t1 with
      | @lst ts p vs h l tr => exact ⟨p, vs, rfl, .inl (SqL.of (R.good.zh _ _ h)), fun c hc => hw c [c] _ Z (Grow.laid R.good hc) ⟨rfl, vs, upd_same, l, tr⟩ (Grow.newRoot R.good hc)⟩
      | @tup ts p vs h l tr => exact ⟨p, vs, rfl, .inr (R.good.sqT h), fun c hc => hw c [c] _ Z (Grow.laid R.good hc) ⟨rfl, vs, upd_same, l, tr⟩ (Grow.newRoot R.good hc)⟩
      | _ => exact hw.elim

/-! ### attributes of an instance -/
def fFld (c f : Str) : T → G T
  | .ins d fs => if d = c then (match fs.lookup f with | some t => .ret t | none => .stuck) else .stuck
  | _ => .stuck
def cFld (c f : Str) (ca : EC) : EC := fun r => ca r >>= fFld c f
theorem Trf.get {K : PySem.W.Frag} {mg : Str → Option Value} {Z : Hp} {f : Str} : ∀ {fs : List (Str × T)} {gs : List (Str × V)} {t : T}, Trf K mg w Z fs gs → fs.lookup f = some t → ∃ v, gs.lookup f = some v ∧ Tr K mg w Z t v
  | _, _, _, .nil, e => by cases e
  | _, _, t, .cons (f := g) h r, e => by
    by_cases hg : (f == g) = true
    · simp only [List.lookup, hg, Option.some.injEq] at e ⊢
      subst e
      exact ⟨_, rfl, h⟩
    · have hg' : (f == g) = false := by simpa using hg
      simp only [List.lookup, hg'] at e ⊢
      exact Trf.get r e
/-- what of the text an own class must have -/
structure ClsT (X : Cx) (c : Str) (C : Addr) : Prop where
  mg : X.mg c = some (.ref C)
  cls : Cls X.K C
theorem ce_fld {c f : Str} {C : Addr} (hC : X.mg c = some (.ref C)) (cl : Cls X.K C) (na : NoAttr X.K C f) (he : CE X w E e ca) (hb : attributeBase e f X.env (eval e X.env) = eval e X.env := by rfl) : CE X w E (.Attribute e f pos) (cFld c f ca) := by
  refine ⟨peImp (pe_fld he.pe hb) fun σ H Q h => ?_⟩
  obtain ⟨H0, Z0, r, Z, o, R, h⟩ := h
  refine evSeq (P := fun H Z => Post X.km w H Z Q) (PX := fun _ => True) R (fun g => Post.weak g) h fun x H1 Z1 a R1 g1 t1 h1 => ?_
  cases t1 with
  | @ins d fs D p dx gs m h2 h3 tf =>
    have h1' : (if d = c then (match fs.lookup f with | some t => G.ret t | none => .stuck) else .stuck).wp (Post X.km w H1 Z1 Q) (PostX X.km w E H0 Z0) := h1
    by_cases ed : d = c
    · rw [if_pos ed] at h1'
      subst ed
      rw [hC] at m
      cases m
      cases ef : fs.lookup f with
      | none => rw [ef] at h1'; exact h1'.elim
      | some t =>
        rw [ef] at h1'
        obtain ⟨v, hv, tv⟩ := tf.get ef
        exact ⟨p, _, dx, gs, v, rfl, R1.good.zh _ _ h2, cl, na, hv, h1' v H1 Z1 (Grow.refl R1.good) tv⟩
    · rw [if_neg ed] at h1'; exact h1'.elim
  | _ => exact h1.elim

/-! ### *e in displays -/
def caStar (c : EC) (cs : List Sl → G (List T)) : List Sl → G (List T) := fun r => c r >>= seqOf >>= fun us => cs r >>= fun ts => .ret (us ++ ts)
theorem ca_star {p : Pos} (ha : CE X w E e ca) (hr : CA X w E es cs) (hs : starEach (.Starred e p :: es) X.env = (true, eval e X.env) :: starEach es X.env := by rfl) : CA X w E (.Starred e p :: es) (caStar ca cs) := by
  refine ⟨paImp (StX.pa_star ha.pe hr.pa hs) fun σ H Q h => ?_⟩
  obtain ⟨H0, Z0, r, Z, o, R, h⟩ := h
  have h' : (ca r >>= fun a => seqOf a >>= fun us => cs r >>= fun ts => .ret (us ++ ts)).wp (PostA X.km w H Z Q) (PostX X.km w E H0 Z0) := by rw [← G.bind_assoc]; exact h
  refine evSeq (P := fun H Z => PostA X.km w H Z Q) (PX := fun _ => True) R (fun g => PostA.weak g) h' fun x H1 Z1 a R1 g1 t1 h1 => ?_
  cases t1 with
  | @tup ts p vs h2 l2 tr =>
    refine ⟨p, vs, rfl, .inl (R1.good.sqT h2), evSeqA (P := fun H Z => PostA X.km w H Z Q) R1 (fun g => PostA.weak g) h1 fun xs H2 Z2 us R2 g2 t2 h3 => ?_⟩
    exact h3 _ H2 Z2 (Grow.refl R2.good) ((tr.mono g2.zz).append t2)
  | @lst ts p vs h2 l2 tr =>
    refine ⟨p, vs, rfl, .inr (SqL.of (R1.good.zh _ _ h2)), evSeqA (P := fun H Z => PostA X.km w H Z Q) R1 (fun g => PostA.weak g) h1 fun xs H2 Z2 us R2 g2 t2 h3 => ?_⟩
    exact h3 _ H2 Z2 (Grow.refl R2.good) ((tr.mono g2.zz).append t2)
  | _ => exact h1.elim
/-- displays with stars: the size is looked at -/
def cTupS (cs : List Sl → G (List T)) : EC := fun r => cs r >>= fun ts => if fits ts.length then .ret (.tup ts) else .stuck
def cLstS (cs : List Sl → G (List T)) : EC := fun r => cs r >>= fun ts => if fits ts.length then .ret (.lst ts) else .stuck
theorem ce_tupS {x1} (h : CA X w E es cs) : CE X w E (.Tuple es x1 pos) (cTupS cs) := by
  refine ⟨peImp (pe_tup h.pa) fun σ H Q h => ?_⟩
  obtain ⟨H0, Z0, r, Z, o, R, h⟩ := h
  refine evSeqA (P := fun H Z => Post X.km w H Z Q) R (fun g => Post.weak g) h fun xs H1 Z1 ts R1 g1 t1 h1 => ?_
  by_cases e : fits ts.length = true
  · rw [if_pos e] at h1
    have hz : xs.length ≤ sizeLine := by rw [← t1.length]; exact fits_line e
    refine ⟨hz, fun p hp => ?_⟩
    exact h1 _ _ (upd Z1 p (.tup xs)) (Grow.laidF R1.good hp) (.tup (SqT.of upd_same) hz (t1.mono (Sub.upd (R1.good.tracked hp))))
  · rw [if_neg e] at h1; exact h1.elim
theorem cf_lstS (h : CA X w E es cs) : CF X w E (.List es pos) (cLstS cs) := by
  refine ⟨peImp (pe_lst h.pa) fun σ H Q h => ?_⟩
  obtain ⟨H0, Z0, r, Z, o, R, h⟩ := h
  refine evSeqA (P := fun H Z => PostF X.km w H Z Q) R (fun g => PostF.weak g) h fun xs H1 Z1 ts R1 g1 t1 h1 => ?_
  by_cases e : fits ts.length = true
  · rw [if_pos e] at h1
    have hz : xs.length ≤ sizeLine := by rw [← t1.length]; exact fits_line e
    refine ⟨hz, fun p hp => ?_⟩
    exact h1 p [p] _ Z1 (Grow.laid R1.good hp) ⟨rfl, xs, upd_same, hz, t1⟩ (Grow.newRoot R1.good hp)
  · rw [if_neg e] at h1; exact h1.elim
end
end TL
end s_TL10
section s_TL11
set_option Elab.async false
set_option linter.all false
set_option maxRecDepth 100000
set_option maxHeartbeats 4000000
/-! TL11: isinstance; int, abs, min, max; range, texts walked -/
namespace TL
open PySem PySem.Spec PyProof.Rows L2
def tyName : T → Option String
  | .non => some "NoneType"
  | .bl _ => some "bool"
  | .int _ => some "int"
  | .str _ => some "str"
  | .tup _ => some "tuple"
  | .lst _ => some "list"
  | .scr _ => some "list"
  | .dic _ => some "dict"
  | _ => none
def subTy (a b : String) : Bool := a == b || (a == "bool" && b == "int")
inductive Cl where
  | ty (n : String) | own (c : Str)
def aTys : List String := ["NoneType", "bool", "int", "str", "tuple", "list", "dict"]
def bTys : List String := ["int", "str", "bool", "tuple", "list", "dict"]
theorem kit_tab : ∀ a ∈ aTys, ∀ b ∈ bTys, kitB a b = some (subTy a b) := by decide +kernel
/-- what is known of the own class c (of whose instances isinstance may be asked) -/
structure InsF (K : PySem.W.Frag) (mg : Str → Option Value) (c : Str) (C : Addr) : Prop where
  mg : mg c = some (.ref C)
  cls : Cls K C
  ha : PySem.W.findIn K (.ref C) "__class__" = some (some (.builtin "object.__class__"))
  hn : PySem.W.specialIn K (.builtin "object.__class__") "__get__" = some (some (.builtin "getset_descriptor.__get__"))
  ht : PySem.W.takesIn K (.builtin "object.__class__") = some true
  hm : PySem.W.mroIn K C (.type "object") = some true
  kt : ∀ b ∈ bTys, PySem.W.kitOne K (.ref C) (.type b) = some false
  tk : ∀ a ∈ aTys, PySem.W.kitOne K (.type a) (.ref C) = some false
  self : PySem.W.kitOne K (.ref C) (.ref C) = some true
/-- c0: the own class -/
def isi1 (c0 : Str) (t : T) : Cl → Option Bool
  | .ty b => if bTys.contains b then (match t with
    | .ins d _ => if d = c0 then some false else none
    | t => (tyName t).map (subTy · b)) else none
  | .own c => if c = c0 then (match t with
    | .ins d _ => if d = c0 then some true else none
    | t => (tyName t).map fun _ => false) else none
def isiL (c0 : Str) (t : T) : List Cl → Option Bool
  | [] => some false
  | c :: cs => match isi1 c0 t c with
    | some true => some true
    | some false => isiL c0 t cs
    | none => none
def fIsi (c0 : Str) (cls : List Cl) (t : T) : G T := match isiL c0 t cls with
  | some b => .ret (.bl b)
  | none => .stuck
/-- a class as a value -/
inductive ClOf (mg : Str → Option Value) : Cl → V → Value → Prop
  | ty (n : String) : ClOf mg (.ty n) (.ty n) (.type n)
  | own {c : Str} {C : Addr} : mg c = some (.ref C) → ClOf mg (.own c) (.ref C) (.ref C)
theorem ClOf.v {mg : Str → Option Value} {c : Cl} {v : V} {u : Value} (h : ClOf mg c v u) : ClsV v u := by cases h with
  | ty n => exact .ty n
  | own m => exact .own _
section
variable {M : Km} {X : Cx} {w : Wd} {E : XK} {k : Nat} {e a b : Expr} {es : List Expr} {ca cb : EC} {cs : List Sl → G (List T)} {pos p p1 p2 : Pos} {c0 : Str} {C : Addr}
theorem tyName_in {t : T} {n : String} (h : tyName t = some n) : n ∈ aTys := by
  cases t <;> simp only [tyName, Option.some.injEq, reduceCtorEq] at h <;> (subst h; decide)
theorem ty_of {H Z : Hp} {t : T} {x : V} {n : String} (g : Good w H Z) (h : Tr M.K M.mg w Z t x) (e : tyName t = some n) : TyX M.K H x (.type n) := by
  cases h with
  | non => cases e; exact .base .non
  | bl b => cases e; exact .base (.bl b)
  | int i => cases e; exact .base (.int i)
  | str z => cases e; exact .base (.str z)
  | @tup ts p vs h l tr =>
    cases e
    rcases g.sqT h with (h | ⟨o, h⟩) | ⟨o, its, n, hk, hc, _⟩
    · exact .base (.tup h)
    · exact .fTuple h
    · exact .kTuple hk hc
  | @lst ts p vs h l tr => cases e; exact .base (.lst (g.zh _ _ h))
  | @dic kts p kvs h l tr =>
    cases e
    rcases Sub.rd g.zh h.rd with h | ⟨o, h⟩
    · exact .base (.dK h)
    · exact .fDict h
  | @scr ns p h l =>
    cases e
    rcases g.sqL h with (h | ⟨o, h⟩) | ⟨o, its, n, hk, hc, _⟩
    · exact .base (.lst h)
    · exact .base (.frz h)
    · exact .kList hk hc
  | ty _ => cases e
  | ins _ _ _ _ => cases e
  | fn _ => cases e
  | drw _ => cases e
/-- one class -/
theorem isi_one (F : InsF M.K M.mg c0 C) {H Z : Hp} (g : Good w H Z) {t : T} {x v : V} {u : Value} {c : Cl} {r : Bool} (h : Tr M.K M.mg w Z t x) (hc : ClOf M.mg c v u) (e : isi1 c0 t c = some r) : ∃ tv, TyX M.K H x tv ∧ PySem.W.kitOne M.K tv u = some r ∧ ∀ c' v' u' r', ClOf M.mg c' v' u' → isi1 c0 t c' = some r' → PySem.W.kitOne M.K tv u' = some r' := by
  have key : ∃ tv, TyX M.K H x tv ∧ ∀ c' v' u' r', ClOf M.mg c' v' u' → isi1 c0 t c' = some r' → PySem.W.kitOne M.K tv u' = some r' := by
    by_cases hi : ∃ d fs, t = .ins d fs
    · obtain ⟨d, fs, rfl⟩ := hi
      have hd : d = c0 := by
        cases c with
        | ty b => simp only [isi1] at e; split at e <;> simp at e; exact e.1
        | own c => simp only [isi1] at e; split at e <;> simp at e; exact e.1
      subst hd
      cases h with
      | @ins _ _ D p dx gs m h2 h3 tf =>
        have hD : D = C := by have z := m.symm.trans F.mg; cases z; rfl
        subst hD
        refine ⟨.ref D, .base (.ins (g.zh _ _ h2) F.cls F.ha F.hn F.ht F.hm), fun c' v' u' r' k' e' => ?_⟩
        cases k' with
        | ty b =>
          simp only [isi1] at e'
          split at e'
          · rename_i hb
            simp at e'
            subst e'
            exact F.kt b (by simpa using hb)
          · cases e'
        | @own c1 C1 m1 =>
          simp only [isi1] at e'
          split at e'
          · rename_i hb
            subst hb
            simp at e'
            subst e'
            have z := m1.symm.trans F.mg; cases z
            exact F.self
          · cases e'
    · have hn : ∃ n, tyName t = some n := by
        cases q : tyName t with
        | some n => exact ⟨n, rfl⟩
        | none =>
          exfalso
          cases c with
          | ty b =>
            simp only [isi1] at e
            split at e
            · split at e
              · exact hi ⟨_, _, rfl⟩
              · rw [q] at e; cases e
            · cases e
          | own c =>
            simp only [isi1] at e
            split at e
            · split at e
              · exact hi ⟨_, _, rfl⟩
              · rw [q] at e; cases e
            · cases e
      obtain ⟨n, hn⟩ := hn
      refine ⟨.type n, ty_of g h hn, fun c' v' u' r' k' e' => ?_⟩
      cases k' with
      | ty b =>
        simp only [isi1] at e'
        split at e'
        · rename_i hb
          split at e'
          · exact absurd ⟨_, _, rfl⟩ hi
          · rw [hn] at e'
            cases e'
            exact kit_ty (kit_tab n (tyName_in hn) b (by simpa using hb))
        · cases e'
      | @own c1 C1 m1 =>
        simp only [isi1] at e'
        split at e'
        · rename_i hb
          subst hb
          have z := m1.symm.trans F.mg; cases z
          split at e'
          · exact absurd ⟨_, _, rfl⟩ hi
          · rw [hn] at e'
            cases e'
            exact F.tk n (tyName_in hn)
        · cases e'
  obtain ⟨tv, h1, h2⟩ := key
  exact ⟨tv, h1, h2 c v u r hc e, h2⟩
theorem kit_any {tv : Value} {t : T} (h2 : ∀ c' v' u' r', ClOf M.mg c' v' u' → isi1 c0 t c' = some r' → PySem.W.kitOne M.K tv u' = some r') : ∀ {cls : List Cl} {vs : List V} {us : List Value} {r : Bool}, cls.length = vs.length → cls.length = us.length → (∀ (i : Nat) (c : Cl) (v : V) (u : Value), cls[i]? = some c → vs[i]? = some v → us[i]? = some u → ClOf M.mg c v u) →
    isiL c0 t cls = some r → PySem.W.kitAny M.K tv us = some r
  | [], [], [], r, _, _, _, e => by cases e; exact kitAny_nil
  | c :: cls, v :: vs, u :: us, r, l1, l2, hc, e => by
    have hk := hc 0 c v u rfl rfl rfl
    simp only [isiL] at e
    cases q : isi1 c0 t c with
    | none => rw [q] at e; cases e
    | some b =>
      rw [q] at e
      cases b with
      | true => cases e; exact kitAny_cons (h2 c v u _ hk q) (fun z => nomatch z) fun _ => rfl
      | false => exact kitAny_cons (h2 c v u _ hk q) (fun _ => kit_any h2 (by simpa using l1) (by simpa using l2) (fun i c v u a b d => hc (i + 1) c v u (by simpa using a) (by simpa using b) (by simpa using d)) e) fun z => nomatch z
  | [], _ :: _, _, _, l1, _, _, _ => by cases l1
  | [], [], _ :: _, _, _, l2, _, _ => by cases l2
  | _ :: _, [], _, _, l1, _, _, _ => by cases l1
  | _ :: _, _ :: _, [], _, _, l2, _, _ => by cases l2
/-- isinstance(e, C) -/
theorem ce_isi (F : InsF X.K X.mg c0 C) {c : Cl} {v : V} {u : Value} (hg : Gl X "isinstance") (hm : X.mg "isinstance" = none) (he : CE X w E e ca) (hc : PE X b (tC v)) (hk : ClOf X.mg c v u)
    (hs1 : starEach [e, b] X.env = (false, eval e X.env) :: starEach [b] X.env := by rfl) (hs2 : starEach [b] X.env = (false, eval b X.env) :: starEach [] X.env := by rfl) (hpl : (backTo pos (starEach [b] X.env)).any (·.1) = false := by rfl) : CE X w E (.Call (.Name "isinstance" p) [e, b] [] pos) (cOp1 (fIsi c0 [c]) ca) := by
  refine ⟨peImp (pe_callB call_isi hg hm (by decide +kernel) (pa_cons he.pe (pa_cons hc pa_nil hs2) hs1) (by decide) (by decide) hs1 hpl) fun σ H Q h => ?_⟩
  obtain ⟨H0, Z0, r, Z, o, R, h⟩ := h
  refine evSeq (P := fun H Z => Post X.km w H Z Q) (PX := fun _ => True) R (fun g => Post.weak g) h fun x H1 Z1 a R1 g1 t1 h1 => ?_
  unfold fIsi at h1
  cases q : isiL c0 a [c] with
  | none => rw [q] at h1; exact False.elim h1
  | some r =>
    rw [q] at h1
    have q1 : isi1 c0 a c = some r := by
      simp only [isiL] at q
      cases z : isi1 c0 a c with
      | none => rw [z] at q; cases q
      | some b => rw [z] at q; cases b <;> simpa using q
    obtain ⟨tv, ty, kk, _⟩   := isi_one (M := X.km) F R1.good t1 hk q1
    exact ⟨x, v, tv, u, r, rfl, hk.v, ty, kk, h1 _ H1 Z1 (Grow.refl R1.good) (.bl _)⟩
/-- classes as constants -/
structure PAc (X : Cx) (es : List Expr) (vs : List V) : Prop where
  pa : PA X es (fun _ H Q => Q vs H)
theorem pac_nil : PAc X [] [] := ⟨pa_nil⟩
theorem pac_cons {v : V} {vs : List V} (h : PE X e (tC v)) (hr : PAc X es vs) (hs : starEach (e :: es) X.env = (false, eval e X.env) :: starEach es X.env := by rfl) : PAc X (e :: es) (v :: vs) := ⟨pa_cons h hr.pa hs⟩
/-- isinstance(e, (C1, C2)) -/
theorem ce_isiT (F : InsF X.K X.mg c0 C) {cls : List Cl} {vs : List V} {us : List Value} {x1} (hg : Gl X "isinstance") (hm : X.mg "isinstance" = none) (he : CE X w E e ca) (hc : PAc X es vs) (l1 : cls.length = vs.length) (l2 : cls.length = us.length) (h0 : cls ≠ [])
    (hk : ∀ (i : Nat) (c : Cl) (v : V) (u : Value), cls[i]? = some c → vs[i]? = some v → us[i]? = some u → ClOf X.mg c v u) (hz : vs.length ≤ 1000 := by decide)
    (hs1 : starEach [e, .Tuple es x1 p1] X.env = (false, eval e X.env) :: starEach [.Tuple es x1 p1] X.env := by rfl) (hs2 : starEach [.Tuple es x1 p1] X.env = (false, eval (.Tuple es x1 p1) X.env) :: starEach [] X.env := by rfl) (hpl : (backTo pos (starEach [.Tuple es x1 p1] X.env)).any (·.1) = false := by rfl) :
    CE X w E (.Call (.Name "isinstance" p) [e, .Tuple es x1 p1] [] pos) (cOp1 (fIsi c0 cls) ca) := by
  refine ⟨peImp (pe_callB call_isiT hg hm (by decide +kernel) (pa_cons he.pe (pa_cons (pe_tup hc.pa) pa_nil hs2) hs1) (by decide) (by decide) hs1 hpl) fun σ H Q h => ?_⟩
  obtain ⟨H0, Z0, r, Z, o, R, h⟩ := h
  refine evSeq (P := fun H Z => Post X.km w H Z Q) (PX := fun _ => True) R (fun g => Post.weak g) h fun x H1 Z1 a R1 g1 t1 h1 => ?_
  refine ⟨Nat.le_of_lt (small1000 hz), fun tp htp => ?_⟩
  unfold fIsi at h1
  cases q : isiL c0 a cls with
  | none => rw [q] at h1; exact False.elim h1
  | some r =>
    rw [q] at h1
    have gl := Grow.laidF (o := .tup vs) R1.good htp
    have R2 := R1.grow gl
    have t2 := t1.mono gl.zz
    have kcl : ∀ {cls : List Cl} {vs : List V} {us : List Value}, cls.length = vs.length → cls.length = us.length → (∀ (i : Nat) (c : Cl) (v : V) (u : Value), cls[i]? = some c → vs[i]? = some v → us[i]? = some u → ClOf X.mg c v u) → Paired ClsV vs us := by
      intro cls
      induction cls with
      | nil => intro vs us a b _; cases vs <;> cases us <;> first | exact Paired.nil | (simp at b; done) | (simp at a; done)
      | cons c cls ih =>
        intro vs us a b hk
        cases vs with
        | nil => cases a
        | cons v vs => cases us with
          | nil => cases b
          | cons u us => exact .cons (hk 0 c v u rfl rfl rfl).v (ih (by simpa using a) (by simpa using b) fun i c v u x y z => hk (i + 1) c v u (by simpa using x) (by simpa using y) (by simpa using z))
    obtain ⟨c, cls', rfl⟩ := List.exists_cons_of_ne_nil h0
    cases vs with
    | nil => cases l1
    | cons v vs => cases us with
      | nil => cases l2
      | cons u us =>
        have q1 : ∃ b, isi1 c0 a c = some b := by
          simp only [isiL] at q
          cases z : isi1 c0 a c with
          | none => rw [z] at q; cases q
          | some b => exact ⟨b, rfl⟩
        obtain ⟨b, q1⟩ := q1
        obtain ⟨tv, ty, _, all⟩   := isi_one (M := X.km) F R2.good t2 (hk 0 c v u rfl rfl rfl) q1
        refine ⟨x, tp, v :: vs, tv, u :: us, r, rfl, upd_same, kcl l1 l2 hk, ty, kit_any all l1 l2 hk q, ?_⟩
        exact h1 _ _ _ gl (.bl _)

/-! ### numbers by built-ins -/
def fInt : List T → G T
  | [.int i] => .ret (.int i)
  | [.bl b] => .ret (.int (if b then 1 else 0))
  | _ => .stuck
theorem tn_int : TN M w E (fun xs H Q => (∃ i, xs = [.int i] ∧ Q (.int i) H) ∨ ∃ k, xs = [.bl k] ∧ Q (.int (if k then 1 else 0)) H) fInt := fun H0 Z0 r σ H Z o R ts vs Q tr hw => by
  cases tr with
  | nil => exact False.elim hw
  | cons t1 t2 =>
    cases t2 with
    | cons => cases t1 <;> exact False.elim hw
    | nil =>
      cases t1 with
      | int i => exact .inl ⟨i, rfl, hw _ H Z (Grow.refl R.good) (.int _)⟩
      | bl b => exact .inr ⟨b, rfl, hw _ H Z (Grow.refl R.good) (.int _)⟩
      | _ => exact False.elim hw
def fAbs : List T → G T
  | [.int i] => .ret (.int (if i < 0 then -i else i))
  | _ => .stuck
theorem tn_abs : TN M w E (fun xs H Q => ∃ i, xs = [.int i] ∧ Q (.int (if i < 0 then -i else i)) H) fAbs := fun H0 Z0 r σ H Z o R ts vs Q tr hw => by
  cases tr with
  | nil => exact False.elim hw
  | cons t1 t2 =>
    cases t2 with
    | cons => cases t1 <;> exact False.elim hw
    | nil =>
      cases t1 with
      | int i => exact ⟨i, rfl, hw _ H Z (Grow.refl R.good) (.int _)⟩
      | _ => exact False.elim hw
def fMax2 : List T → G T
  | [.int i, .int j] => .ret (.int (if j > i then j else i))
  | _ => .stuck
def fMin2 : List T → G T
  | [.int i, .int j] => .ret (.int (if j < i then j else i))
  | _ => .stuck
theorem tn_max2 : TN M w E (fun xs H Q => ∃ i j, xs = [.int i, .int j] ∧ Q (.int (if j > i then j else i)) H) fMax2 := fun H0 Z0 r σ H Z o R ts vs Q tr hw => by
  cases tr with
  | nil => exact False.elim hw
  | cons t1 t2 =>
    cases t2 with
    | nil => cases t1 <;> exact False.elim hw
    | cons t2 t3 =>
      cases t1 with
      | int i =>
        cases t2 with
        | int j => cases t3 with
          | nil => exact ⟨i, j, rfl, hw _ H Z (Grow.refl R.good) (.int _)⟩
          | cons => exact False.elim hw
        | _ => exact False.elim hw
      | _ => exact False.elim hw
theorem tn_min2 : TN M w E (fun xs H Q => ∃ i j, xs = [.int i, .int j] ∧ Q (.int (if j < i then j else i)) H) fMin2 := fun H0 Z0 r σ H Z o R ts vs Q tr hw => by
  cases tr with
  | nil => exact False.elim hw
  | cons t1 t2 =>
    cases t2 with
    | nil => cases t1 <;> exact False.elim hw
    | cons t2 t3 =>
      cases t1 with
      | int i =>
        cases t2 with
        | int j => cases t3 with
          | nil => exact ⟨i, j, rfl, hw _ H Z (Grow.refl R.good) (.int _)⟩
          | cons => exact False.elim hw
        | _ => exact False.elim hw
      | _ => exact False.elim hw

/-! ### range and texts, walked -/
def rngT (a : Int) : Nat → List T
  | 0 => []
  | n + 1 => .int a :: rngT (a + 1) n
theorem rngT_get : ∀ (a : Int) (n i : Nat), (rngT a n)[i]? = if i < n then some (.int (a + i)) else none
  | a, 0, i => by simp [rngT]
  | a, n + 1, 0 => by simp [rngT]
  | a, n + 1, i + 1 => by
    simp only [rngT, List.getElem?_cons_succ, rngT_get (a + 1) n i, Nat.add_lt_add_iff_right]
    split
    · congr 2; omega
    · rfl
theorem rngT_length : ∀ (a : Int) (n : Nat), (rngT a n).length = n
  | _, 0 => rfl
  | a, n + 1 => by simp [rngT, rngT_length]
theorem iter_range (lo : Int) (n : Nat) {Zs : Hp} : IterOk M w (Itr lo n) (rngT lo n) Zs := fun i H Z s g => by
  refine ⟨fun t ht => ?_, fun hl => by rw [rngT_length] at hl; exact Nat.le_of_eq hl⟩
  rw [rngT_get] at ht
  split at ht
  · rename_i hi
    cases ht
    refine ⟨hi, fun x H' y => ?_⟩
    obtain ⟨rfl, rfl⟩ := y
    exact ⟨Z, Grow.refl g, .int _⟩
  · cases ht
def rgOf : List T → G (List T)
  | [.int j] => if decide (-(2 ^ 62) ≤ j) && decide (j < 1000000) then .ret (rngT 0 j.toNat) else .stuck
  | _ => .stuck
theorem million : (2000000 : Nat) ≤ sizeLine := by rw [sizeLine_eq]; decide
variable {tg : Expr}
theorem ci_range1 (hg : Gl X "range") (hm : X.mg "range" = none) (ha : CA X w E [a] cs) (hs : starEach [a] X.env = [(false, eval a X.env)] := by rfl) : CI X w E tg (.Call (.Name "range" p) [a] [] pos) (fun r => cs r >>= rgOf) := by
  refine ⟨piImp (pi_range1 hg hm ha.pa hs) fun σ H Rr h => ?_⟩
  obtain ⟨H0, Z0, r, Z, o, R, h⟩ := h
  refine evSeqA (P := fun H Z => fun ts => ∀ J H' Z', Grow w H Z H' Z' → ts.length ≤ sizeLine → IterOk X.km w J ts Z' → Rr J H') R (fun g h J H' Z' g' => h J H' Z' (g.trans g')) h fun xs H1 Z1 ts R1 g1 t1 h1 => ?_
  cases t1 with
  | nil => exact False.elim h1
  | cons t1 t2 =>
    cases t2 with
    | cons t3 t4 => cases t1 <;> exact False.elim h1
    | nil =>
      cases t1 with
      | int j =>
        simp only [rgOf] at h1
        split at h1
        · rename_i hc
          rw [Bool.and_eq_true] at hc
          have c1 := of_decide_eq_true hc.1
          have c2 := of_decide_eq_true hc.2
          refine ⟨j, rfl, c1, by omega, h1 _ H1 Z1 (Grow.refl R1.good) ?_ (iter_range 0 j.toNat)⟩
          rw [rngT_length]
          exact Nat.le_trans (by omega) million
        · exact False.elim h1
      | _ => exact False.elim h1
end
end TL
end s_TL11
section s_TL12
set_option Elab.async false
set_option linter.all false
set_option maxRecDepth 100000
set_option maxHeartbeats 4000000
/-! TL12: a slot's own thing is written; values looked at in passing; several values at once -/
namespace TL
open PySem PySem.Spec PyProof.Rows L2
section
variable {K : PySem.W.Frag} {mg : Str → Option Value} {w : Wd} {Z H : Hp} {t : T} {p : Addr} {o : List Addr}
def notTup : T → Bool
  | .tup _ => false
  | _ => true
theorem Root.mem (r : Root K mg w Z H t p o) (hn : notTup t = true := by rfl) : p ∈ o := by
  cases t <;> try exact False.elim r
  case tup ts => cases hn
  case lst ts => obtain ⟨rfl, _⟩ := r; simp
  case dic ts => obtain ⟨rfl, _⟩ := r; simp
  case ins c fs => obtain ⟨C, dx, gs, rfl, _⟩ := r; simp
end
section
variable {X : Km} {w : Wd} {H0 Z0 H Z : Hp} {r : List Sl} {σ : L2.St} {o : Nat → List Addr}
theorem EnvR.rew (R : EnvR X.km w H0 Z0 r σ H Z o) {i : Nat} {t t' : T} {p : Addr} {u : HO} (hr : r[i]? = some (.ow t)) (hs : σ[i]? = some (some (.ref p))) (hp : p ∈ o i) (h : Root X.K X.mg w Z (upd H p u) t' p (o i)) :
    EnvR X.km w H0 Z0 (r.set i (.ow t')) σ (upd H p u) Z o := by
  obtain ⟨h0, hz, hw⟩ := R.fr i p hp
  refine ⟨R.gr.beside h0 hz hw, by rw [List.length_set]; exact R.len, fun j s x h1 h2 => ?_, fun j hj => R.out j (by rw [List.length_set] at hj; exact hj), R.dis, R.fr⟩
  by_cases e : j = i
  · subst e
    have hj : j < r.length := (List.getElem?_eq_some_iff.mp hr).1
    rw [List.getElem?_set_self hj] at h1
    cases h1
    rw [hs] at h2
    cases h2
    exact ⟨p, rfl, h⟩
  · rw [List.getElem?_set_ne (Ne.symm e)] at h1
    exact (R.sl j s x h1 h2).move (Sub.refl _) fun b hb v q => by
      have ne : b ≠ p := fun z => e (R.dis j i p (z ▸ hb) hp)
      rw [upd_ne ne]; exact q
theorem EnvR.own (R : EnvR X.km w H0 Z0 r σ H Z o) {i : Nat} {t : T} (hr : r[i]? = some (.ow t)) : ∃ p, σ[i]? = some (some (.ref p)) ∧ Root X.K X.mg w Z H t p (o i) := by
  have hi : i < σ.length := by
    have := (List.getElem?_eq_some_iff.mp hr).1
    rw [R.len] at this; exact this
  obtain ⟨p, ev, rt⟩ := R.sl i _ _ hr (List.getElem?_eq_getElem hi)
  exact ⟨p, (List.getElem?_eq_getElem hi).trans (congrArg some ev), rt⟩
end
/-- a list or dict -/
def tyT : T → Option String
  | .lst _ => some "list"
  | .dic _ => some "dict"
  | _ => none
theorem Root.ty {K : PySem.W.Frag} {mg : Str → Option Value} {w : Wd} {Z H : Hp} {t : T} {p : Addr} {o : List Addr} {n : String} (r : Root K mg w Z H t p o) (e : tyT t = some n) : tyV K n (.ref p) H := by
  cases t <;> simp only [tyT, Option.some.injEq, reduceCtorEq] at e
  case lst ts => subst e; obtain ⟨_, vs, h, _⟩ := r; exact .inl ⟨rfl, vs, .inl (.inl h)⟩
  case dic ts => subst e; obtain ⟨_, vs, h, _⟩ := r; exact .inr (.inr (.inl ⟨rfl, .inl ⟨vs, h⟩⟩))
/-- a method that writes its receiver and answers None -/
def MutR (X : Km) (w : Wd) (rd : V → List V → Hp → VK → Prop) (F : T → List T → Option T) : Prop := ∀ H Z p o t ts vs t' (Q : VK), Good w H Z → (∀ a ∈ o, Z a = none) → Root X.K X.mg w Z H t p o → Trs X.K X.mg w Z ts vs → F t ts = some t' →
  (∀ u, Root X.K X.mg w Z (upd H p u) t' p o → Q .non (upd H p u)) → rd (.ref p) vs H Q
def cMut (ty : String) (i : Nat) (F : T → List T → Option T) (cs : List Sl → G (List T)) : SC := fun r => match r[i]? with
  | some (.ow t) => if tyT t = some ty then cs r >>= fun ts => (match F t ts with | some t' => .ret (.nx (r.set i (.ow t'))) | none => .stuck) else .stuck
  | _ => .stuck
section
variable {X : Cx} {w : Wd} {E : XK} {fr : Bool} {H0 Z0 H Z : Hp} {r : List Sl} {σ : L2.St} {o : Nat → List Addr} {D : Ends} {pos apos cpos p0 : Pos} {e : Expr} {es : List Expr} {cs : List Sl → G (List T)} {ca : EC}
theorem evSeqSA {k : List T → G Ctl} {Q : List V → Hp → Prop} (R : EnvR X.km w H0 Z0 r σ H Z o) (h : (cs r >>= k).wp (PostS X.km w fr H0 Z0 Z D) (PostX X.km w E H0 Z0))
    (fin : ∀ x H1 Z1 a, EnvR X.km w H0 Z0 r σ H1 Z1 o → Grow w H Z H1 Z1 → Trs X.K X.mg w Z1 a x → (k a).wp (PostS X.km w fr H0 Z0 Z1 D) (PostX X.km w E H0 Z0) → Q x H1) : EvA X.km w E cs σ H Q :=
  ⟨H0, Z0, r, Z, o, R, G.wp_mono (G.wp_bind.mp h) (fun a ha v H' Z' g t => fin v H' Z' a (R.grow g) g t (G.wp_mono ha (fun b hb => hb.weak g.zz) fun _ x => x)) fun _ x => x⟩
theorem cs_mut {ty id : String} {x name : Str} {rd : V → List V → Hp → VK → Prop} {F : T → List T → Option T} (i : Nat) (pa : PlainAttrs ty) (slot : Slot ty name id) (hty : typeOf (.builtin id) = pure (.type "method_descriptor")) (hm : MtR X id rd) (hF : MutR X.km w rd F)
    (ha : CA X w E (e :: es) cs) (hN : X.N[i]? = some x := by rfl) (hv : Vis X.env.scope x := by first | exact Or.inl rfl | exact Or.inr (Or.inl rfl) | exact Or.inr (Or.inr rfl)) (hd : (x == ("__debug__" : Str)) = false := by decide)
    (hcd : (x == ("__classdict__" : Str)) = false := by decide)
    (hbase : attributeBase (.Name x p0) name X.env (eval (.Name x p0) X.env) = eval (.Name x p0) X.env := by rfl)
    (hfew : ((backTo cpos (starEach (e :: es) X.env)).all (fun x => !x.1) && (backToKw cpos (keywordEach [] X.env)).all (fun x => x.1.isSome)
      && decide ((e :: es).length + ([] : List Keyword).length + (if ([] : List Keyword).isEmpty then 0 else 1) < 30)) = true := by rfl)
    (hline : (apos.endLine == cpos.line) = true := by rfl) (hs : starEach (e :: es) X.env = (false, eval e X.env) :: starEach es X.env := by rfl) (hplain : (backTo cpos (starEach es X.env)).any (·.1) = false := by rfl)
    (hsw : swapsWith (.Call (.Attribute (.Name x p0) name apos) (e :: es) [] cpos) none pos.line X.env = pure false := by rfl) :
    CS X w E fr (.Expr (.Call (.Attribute (.Name x p0) name apos) (e :: es) [] cpos) pos) (cMut ty i F cs) := by
  refine ⟨psImp (ps_expr (pe_bm pa slot hty hm (pe_var hN hv hd hcd) ha.pa hbase hfew hline hs hplain) hsw) fun D σ H h => ?_⟩
  obtain ⟨H0, Z0, r, Z, o, R, h⟩ := h
  unfold cMut at h
  cases er : r[i]? with
  | none => rw [er] at h; exact False.elim h
  | some s =>
    rw [er] at h
    cases s with
    | un => exact False.elim h
    | fz t => exact False.elim h
    | me t => exact False.elim h
    | dp t => exact False.elim h
    | ow t =>
      obtain ⟨p, es, rt⟩ := R.own er
      by_cases q : tyT t = some ty
      · have h' : (cs r >>= fun ts => (match F t ts with | some t' => G.ret (.nx (r.set i (.ow t'))) | none => .stuck : G Ctl)).wp (PostS X.km w fr H0 Z0 Z D) (PostX X.km w E H0 Z0) := by
          have h2 : (if tyT t = some ty then cs r >>= fun ts => (match F t ts with | some t' => G.ret (.nx (r.set i (.ow t'))) | none => .stuck : G Ctl) else .stuck).wp (PostS X.km w fr H0 Z0 Z D) (PostX X.km w E H0 Z0) := h
          rw [if_pos q] at h2; exact h2
        refine ⟨.ref p, es, rt.ty q, evSeqSA R h' fun xs H1 Z1 ts R1 g1 t1 h1 => ?_⟩
        cases f : F t ts with
        | none => rw [f] at h1; exact False.elim h1
        | some t' =>
          rw [f] at h1
          obtain ⟨p1, es1, rt1⟩ := R1.own er
          rw [es] at es1
          cases es1
          exact hF H1 Z1 p (o i) t ts xs t' _ R1.good (fun a ha => (R1.fr i a ha).2.1) rt1 t1 f fun u ru => h1 σ _ Z1 o (R1.rew er es (rt1.mem (by cases t <;> first | rfl | (simp only [tyT, reduceCtorEq] at q))) ru) (Sub.refl _)
      · have h2 : (if tyT t = some ty then cs r >>= fun ts => (match F t ts with | some t' => G.ret (.nx (r.set i (.ow t'))) | none => .stuck : G Ctl) else .stuck).wp (PostS X.km w fr H0 Z0 Z D) (PostX X.km w E H0 Z0) := h
        rw [if_neg q] at h2; exact False.elim h2

/-! ### the writing methods -/
def mAppend : T → List T → Option T
  | .lst ts, [t] => if fits (ts.length + 1) then some (.lst (ts ++ [t])) else none
  | _, _ => none
theorem trs1 {K : PySem.W.Frag} {mg : Str → Option Value} {t : T} {vs : List V} (h : Trs K mg w Z [t] vs) : ∃ v, vs = [v] ∧ Tr K mg w Z t v := by
  cases h with
  | cons a b => cases b; exact ⟨_, rfl, a⟩
theorem trs2 {K : PySem.W.Frag} {mg : Str → Option Value} {t t2 : T} {vs : List V} (h : Trs K mg w Z [t, t2] vs) : ∃ v v2, vs = [v, v2] ∧ Tr K mg w Z t v ∧ Tr K mg w Z t2 v2 := by
  cases h with
  | cons a b => cases b with
    | cons b c => cases c; exact ⟨_, _, rfl, a, b⟩
theorem mut_append : MutR X.km w rAppend mAppend := fun H Z p o t ts vs t' Q g zo rt tr f k => by
  cases t <;> (try (simp only [mAppend, reduceCtorEq] at f))
  case lst us =>
    match ts, f with
    | [t], f =>
      simp only [mAppend] at f
      split at f
      · rename_i hf
        cases f
        obtain ⟨v, rfl, tv⟩ := trs1 tr
        obtain ⟨rfl, ws, e, l, q⟩ := rt
        have hl := fits_line hf
        rw [q.length] at hl
        refine ⟨p, ws, v, rfl, rfl, e, by omega, k _ ⟨rfl, _, upd_same, ?_, q.append (.cons tv .nil)⟩⟩
        rw [List.length_append]; exact hl
      · cases f
    | [], f => simp [mAppend] at f
    | _ :: _ :: _, f => simp [mAppend] at f
def mExtend : T → List T → Option T
  | .lst ts, [.lst us] => if fits (ts.length + us.length) then some (.lst (ts ++ us)) else none
  | _, _ => none
theorem mut_extend : MutR X.km w rExtend mExtend := fun H Z p o t ts vs t' Q g zo rt tr f k => by
  unfold mExtend at f
  split at f
  · rename_i as bs
    split at f
    · rename_i hf
      cases f
      obtain ⟨v, rfl, tv⟩ := trs1 tr
      obtain ⟨rfl, ws, e, l, q⟩ := rt
      cases tv with
      | @lst _ b ys e2 l2 q2 =>
        have hl := fits_line hf
        rw [q.length, q2.length] at hl
        refine ⟨p, b, ws, ys, rfl, rfl, e, g.zh _ _ e2, hl, k _ ⟨rfl, _, upd_same, ?_, q.append q2⟩⟩
        rw [List.length_append]; exact hl
    · cases f
  · cases f
def mInsert : T → List T → Option T
  | .lst ts, [.int i, t] => if decide (0 ≤ i) && decide (i < 1000000) && fits (ts.length + 1) then some (.lst (ts.take i.toNat ++ [t] ++ ts.drop i.toNat)) else none
  | _, _ => none
theorem mut_insert : MutR X.km w (fun x vs H Q => ∃ (l : Addr) (xs : List V) (i : Int) (y : V), x = .ref l ∧ vs = [.int i, y] ∧ H l = some (.lst xs) ∧ xs.length < sizeLine ∧ 0 ≤ i ∧ i < 2 ^ 63 ∧
    Q .non (upd H l (.lst (xs.take i.toNat ++ [y] ++ xs.drop i.toNat)))) mInsert := fun H Z p o t ts vs t' Q g zo rt tr f k => by
  unfold mInsert at f
  split at f
  · rename_i as i t0
    split at f
    · rename_i hf
      rw [Bool.and_eq_true, Bool.and_eq_true] at hf
      obtain ⟨⟨h1, h2⟩, h3⟩ := hf
      cases f
      obtain ⟨v, v2, rfl, tv, tv2⟩ := trs2 tr
      obtain ⟨rfl, ws, e, l, q⟩ := rt
      cases tv
      have hl := fits_line h3
      rw [q.length] at hl
      have a1 := of_decide_eq_true h1
      have a2 := of_decide_eq_true h2
      refine ⟨p, ws, i, v2, rfl, rfl, e, by omega, a1, by omega, k _ ⟨rfl, _, upd_same, ?_, ((q.take _).append (.cons tv2 .nil)).append (q.drop _)⟩⟩
      rw [List.length_append, List.length_append, List.length_take, List.length_drop, List.length_singleton]; omega
    · cases f
  · cases f

/-! ### dicts -/
def putT (kts : List (T × T)) (k t : T) : List (T × T) := if kts.any (fun p => decide (keyT p.1 = keyT k)) = true then kts.map (fun p => if keyT p.1 = keyT k then (p.1, t) else p) else kts ++ [(k, t)]
def mergeT (kts more : List (T × T)) : List (T × T) := more.foldl (fun acc p => putT acc p.1 p.2) kts
section
variable {K : PySem.W.Frag} {mg : Str → Option Value} {kts more : List (T × T)} {kvs mvs : List (Key × V)} {k t : T} {key : Key} {v : V}
theorem Trd.any (hk : keyT k = some key) : ∀ {kts : List (T × T)} {kvs : List (Key × V)}, Trd K mg w Z kts kvs → (kts.any fun p => decide (keyT p.1 = keyT k)) = kvs.any fun p => decide (p.1 = key)
  | _, _, .nil => rfl
  | _, _, .cons e _ b => by
    rw [List.any_cons, List.any_cons, Trd.any hk b]
    congr 1
    rw [e, hk]
    simp
theorem Trd.append : ∀ {kts more : List (T × T)} {kvs mvs : List (Key × V)}, Trd K mg w Z kts kvs → Trd K mg w Z more mvs → Trd K mg w Z (kts ++ more) (kvs ++ mvs)
  | _, _, _, _, .nil, s => s
  | _, _, _, _, .cons e a b, s => .cons e a (Trd.append b s)
theorem Trd.repl (hk : keyT k = some key) (h : Tr K mg w Z t v) : ∀ {kts : List (T × T)} {kvs : List (Key × V)}, Trd K mg w Z kts kvs →
    Trd K mg w Z (kts.map (fun p => if keyT p.1 = keyT k then (p.1, t) else p)) (kvs.map (fun kv => if kv.1 = key then (kv.1, v) else kv))
  | _, _, .nil => .nil
  | _, _, @Trd.cons _ _ _ _ k1 key1 t1 v1 _ _ e a b => by
    rw [List.map_cons, List.map_cons]
    by_cases q : key1 = key
    · have q' : keyT k1 = keyT k := by rw [e, hk, q]
      simp only [if_pos q, if_pos q']
      exact .cons e h (Trd.repl hk h b)
    · have q' : ¬ keyT k1 = keyT k := by rw [e, hk]; simp [q]
      simp only [if_neg q, if_neg q']
      exact .cons e a (Trd.repl hk h b)
theorem Trd.put (r : Trd K mg w Z kts kvs) (hk : keyT k = some key) (h : Tr K mg w Z t v) : Trd K mg w Z (putT kts k t) (putK kvs key v) := by
  unfold putT putK
  rw [Trd.any hk r]
  split
  · exact r.repl hk h
  · exact r.append (.cons hk h .nil)
theorem Trd.merge : ∀ {more : List (T × T)} {mvs : List (Key × V)} {kts : List (T × T)} {kvs : List (Key × V)}, Trd K mg w Z more mvs → Trd K mg w Z kts kvs → Trd K mg w Z (mergeT kts more) (mergeK kvs mvs)
  | _, _, _, _, .nil, r => r
  | _, _, _, _, .cons e a b, r => by
    unfold mergeT mergeK
    rw [List.foldl_cons, List.foldl_cons]
    exact Trd.merge b (r.put e a)
end
/-- d.update(d2) -/
def rUpdate : V → List V → Hp → VK → Prop := fun x vs H Q => ∃ a b kvs more, x = .ref a ∧ vs = [.ref b] ∧ a ≠ b ∧ H a = some (.dK kvs) ∧ Rd H b (.dK more) ∧ kvs.length + more.length ≤ sizeLine ∧ Q .non (upd H a (.dK (mergeK kvs more)))
theorem mt_update : MtR X "dict.update" rUpdate := by
  intro pins s σ H x vs v us Q I rx rv h
  obtain ⟨a, b, kvs, more, rfl, rfl, hne, ha, hb, hsz, q⟩ := h
  cases rx
  obtain ⟨u, rfl, ru⟩ := rv.one
  cases ru
  obtain ⟨z1, d1, vs1, r1, dd1⟩ := dk_of I.hok ha
  obtain ⟨z2, d2, vs2, r2, dd2⟩ := dk_rd I.hok hb
  refine call_meetsIn F.slot_dict_update dd1.typeIs F.entry_dict_update (F.args_dict_update_2 _ _) (meets_dict_update (mixKind X.prog X.w) a b hne d2)
    ⟨vs1, vs2, dd1, dd2, (by rw [← KV.length r1, ← KV.length r2]; exact hsz), fun h' hm _ hs => ?_⟩
  have hz : (mergeK kvs more).length ≤ sizeLine := Nat.le_trans (length_mergeK more kvs) hsz
  have he : ∃ q, h'.get? a = some q := let ⟨q, _, _, hq, _⟩ := hm; ⟨q, hq⟩
  exact ⟨.non, _, d_write I (by rw [ha]; exact True.intro) hs he (dk_new hz d1 (r2.merge r1) hm), rfl, q⟩
def mUpdate : T → List T → Option T
  | .dic ts, [.dic us] => if fits (ts.length + us.length) then some (.dic (mergeT ts us)) else none
  | _, _ => none
theorem mut_update : MutR X.km w rUpdate mUpdate := fun H Z p o t ts vs t' Q g zo rt tr f k => by
  unfold mUpdate at f
  split at f
  · rename_i as bs
    split at f
    · rename_i hf
      cases f
      obtain ⟨v, rfl, tv⟩ := trs1 tr
      obtain ⟨rfl, ws, e, l, q⟩ := rt
      cases tv with
      | @dic _ b ys e2 l2 q2 =>
        have hl := fits_line hf
        rw [q.length, q2.length] at hl
        have rb := Sub.rd g.zh e2.rd
        have hne : p ≠ b := fun z => by
          have zp := zo p (by simp)
          rw [z] at zp
          obtain ⟨o2, e2⟩ := e2
          rw [zp] at e2; cases e2
        refine ⟨p, b, ws, ys, rfl, rfl, hne, e, rb, hl, k _ ⟨rfl, _, upd_same, Nat.le_trans (length_mergeK _ _) hl, q2.merge q⟩⟩
    · cases f
  · cases f
end
end TL
end s_TL12
section s_TL13
set_option Elab.async false
set_option linter.all false
set_option maxRecDepth 100000
set_option maxHeartbeats 4000000
/-! TL13: zip of any two things that are walked -/
namespace TL
open PySem PySem.Spec PyProof.Rows L2
section
variable {prog : Program} {w : World} {A : Around} {E : Value → Shared → Prop} {s : Shared}
theorem nextOf_key_item {it d : Addr} {i n ep : Nat} {od : Obj} {es : Array DictEntry} {en : DictEntry} {Q : Value → Shared → Prop} (hit : s.heap.IsKeyIter it d i n ep) (hod : s.heap.get? d = some od) (hdd : od.data = .dict es ep)
    (hsz : es.size = n) (hx : es[i]? = some en) (hQ : ∀ h', h'.IsKeyIter it d (i + 1) n ep → Heap.SameBut it s.heap h' → Q en.key { s with heap := h' }) : wpAny (model prog w) A (Builtin.SmallTypes.nextOf (.ref it)) Q E s := by
  obtain ⟨o, ho, hc, hd⟩ := id hit
  unfold Builtin.SmallTypes.nextOf
  refine wpAny_bind (wpAny_callSpecial?_slot (name := Str.ofString "__next__") hit.typeIs F.slot_dict_keyiterator_next
    (wpAny_call_entry F.slot_dict_keyiterator_next hit.typeIs F.entry_dict_keyiterator_next ?_ (F.args_dict_keyiterator_next_1 _)))
  refine wpAny_bind (wpAny_pure ?_)
  refine wpAny_bind ?_
  refine wpAny_bind ?_
  first | refine wpAny_bind (wpAny_typeNameOfWhole_keyiter hit.typeIs (wpAny_pure ?_)) | refine wpAny_bind (wpAny_typeNameOf_keyiter hit.typeIs (wpAny_pure ?_))
  refine wpAny_bind (wpAny_fieldsOf ho hd ?_)
  have hown : Builtin.Dict_items.ownsTuple "dict_keyiterator" = false := by decide
  simp only [hown, Bool.false_eq_true, if_false]
  show wpAny _ _ (if (Value.ref d == Value.none) = true then _ else _) _ _ s
  rw [if_neg (show ¬ ((Value.ref d == Value.none) = true) from Bool.false_ne_true)]
  refine wpAny_bind (wpAny_pure ?_)
  refine wpAny_bind (wpAny_dictEntries hod hdd ?_)
  rw [if_neg (by rw [hsz]; simp)]
  refine wpAny_bind (wpAny_pure ?_)
  refine wpAny_bind (wpAny_dictEpoch hod hdd ?_)
  rw [if_neg (by simp)]
  refine wpAny_pure ?_
  obtain ⟨hlt', hen⟩ := Array.getElem?_eq_some_iff.mp hx
  simp only [show ¬ ((i : Int) < 0) from by omega, if_false, Int.toNat_natCast, Array.getElem?_eq_getElem hlt']
  refine wpAny_bind ?_
  first | refine wpAny_bind (wpAny_typeNameOfWhole_keyiter hit.typeIs (wpAny_pure ?_)) | refine wpAny_bind (wpAny_typeNameOf_keyiter hit.typeIs (wpAny_pure ?_))
  refine wpAny_bind (wpAny_isOneOf_keyiter hit.typeIs ?_)
  show wpAny _ _ (setField (.ref it) 1 (rawInt ((i : Int) + 1)) >>= _) _ _ s
  refine wpAny_bind (wpAny_setField ho hd (by simp) ?_)
  have hit' : (s.heap.update it (Obj.mapFields (·.setIfInBounds 1 (rawInt ((i : Int) + 1))))).IsKeyIter it d (i + 1) n ep :=
    ⟨_, Heap.get?_update_self _ ho (Obj.isFreed_of_fields (Obj.data_mapFields hd _)), (Obj.cls_mapFields ..).trans hc, by rw [Obj.data_mapFields hd]; simp [rawInt]⟩
  refine wpAny_bind (wpAny_holding ?_)
  refine wpAny_bind (wpAny_isOneOf_keyiter (s := { s with heap := s.heap.update it (Obj.mapFields (·.setIfInBounds 1 (rawInt ((i : Int) + 1)))) }) hit'.typeIs ?_)
  show wpAny _ _ (pure es[i].key) _ _ _
  rw [hen]
  exact wpAny_pure (wpAny_pure ⟨_, rfl, wpAny_pure (hQ _ hit' (Heap.SameBut.update ..))⟩)
theorem nextOf_key_end {it d : Addr} {i n ep : Nat} {od : Obj} {es : Array DictEntry} {Q : Value → Shared → Prop} (hh : A.handled = none) (hit : s.heap.IsKeyIter it d i n ep) (hod : s.heap.get? d = some od) (hdd : od.data = .dict es ep)
    (hsz : es.size = n) (hge : n ≤ i) (hE : ∀ h' e, Heap.ExtBut it s.heap h' → (∃ o, h'.get? e = some o ∧ o.cls = .type "StopIteration") → E (.ref e) { s with heap := h' }) : wpAny (model prog w) A (Builtin.SmallTypes.nextOf (.ref it)) Q E s := by
  obtain ⟨o, ho, hc, hd⟩ := id hit
  unfold Builtin.SmallTypes.nextOf
  refine wpAny_bind (wpAny_callSpecial?_slot (name := Str.ofString "__next__") hit.typeIs F.slot_dict_keyiterator_next
    (wpAny_call_entry F.slot_dict_keyiterator_next hit.typeIs F.entry_dict_keyiterator_next ?_ (F.args_dict_keyiterator_next_1 _)))
  refine wpAny_bind (wpAny_pure ?_)
  refine wpAny_bind ?_
  refine wpAny_bind ?_
  first | refine wpAny_bind (wpAny_typeNameOfWhole_keyiter hit.typeIs (wpAny_pure ?_)) | refine wpAny_bind (wpAny_typeNameOf_keyiter hit.typeIs (wpAny_pure ?_))
  refine wpAny_bind (wpAny_fieldsOf ho hd ?_)
  have hown : Builtin.Dict_items.ownsTuple "dict_keyiterator" = false := by decide
  simp only [hown, Bool.false_eq_true, if_false]
  show wpAny _ _ (if (Value.ref d == Value.none) = true then _ else _) _ _ s
  rw [if_neg (show ¬ ((Value.ref d == Value.none) = true) from Bool.false_ne_true)]
  refine wpAny_bind (wpAny_pure ?_)
  refine wpAny_bind (wpAny_dictEntries hod hdd ?_)
  rw [if_neg (by rw [hsz]; simp)]
  refine wpAny_bind (wpAny_pure ?_)
  refine wpAny_bind (wpAny_dictEpoch hod hdd ?_)
  rw [if_neg (by simp)]
  refine wpAny_pure ?_
  have hge' : es.size ≤ i := by rw [hsz]; exact hge
  simp only [show ¬ ((i : Int) < 0) from by omega, if_false, Int.toNat_natCast, Array.getElem?_eq_none hge']
  refine wpAny_bind ?_
  first | refine wpAny_bind (wpAny_typeNameOfWhole_keyiter hit.typeIs (wpAny_pure ?_)) | refine wpAny_bind (wpAny_typeNameOf_keyiter hit.typeIs (wpAny_pure ?_))
  show wpAny _ _ (setField (.ref it) 0 .none >>= _) _ _ s
  refine wpAny_bind (wpAny_setField ho hd (by simp) ?_)
  show wpAny _ _ (newExc (.type "StopIteration") [] >>= _) _ _ _
  refine wpAny_bind ?_
  simp only [newExc, newTuple]
  refine wpAny_bind (wpAny_newObj_type ?_ (by size_fits))
  refine wpAny_bind (m := firstArgMember _ _) (wpAny_of_eq (a := Value.none) (by first | rfl | (simp only [firstArgMember]; rfl)) ?_)
  refine wpAny_newObj_type ?_ (by size_fits)
  simp only [raiseNew]
  refine wpAny_bind (wpAny_handled ?_)
  first | rw [show A.in1.handled = none from hh] | rw [hh]
  refine wpAny_bind (wpAny_pure (wpAny_throw ?_))
  exact hE _ _ (((Heap.SameBut.update ..).extBut.push _).push _) ⟨_, Heap.get?_push_size _ rfl, rfl⟩
end

/-- a thing that is walked, at the level of the heap: its items, the iterator that is laid, what the iterator says at each turn -/
structure Raw1 (prog : Program) (w : World) (a : Addr) (items : Array Value) (ob : Obj) (st : Addr → Nat → Heap → Prop) (fact : Heap → Prop) : Prop where
  iter : ∀ (A : Around) (E : Value → Shared → Prop) (s : Shared) (Q : Value → Shared → Prop), fact s.heap → Q (.ref s.heap.objs.size) { s with heap := s.heap.push ob } → wpAny (model prog w) A (pyIter (.ref a)) Q E s
  st0 : ∀ h : Heap, st h.objs.size 0 (h.push ob)
  draws : ∀ (A : Around) (it : Addr), A.handled = none → a ≠ it → Draws prog w A it [it, a] items.size (fun i v => items[i]? = some v) (fun i h => st it i h ∧ fact h)
  keep : ∀ (it : Addr) (i : Nat) (h h' : Heap), st it i h → (∀ o, h.get? it = some o → h'.get? it = some o) → st it i h'
  obj : ∀ (it : Addr) (i : Nat) (h : Heap), st it i h → ∃ o, h.get? it = some o ∧ ∀ v, o.data ≠ .cell v
  fkeep : ∀ h h' : Heap, fact h → (∀ o, h.get? a = some o → h'.get? a = some o) → fact h'
  lt : ∀ h : Heap, fact h → a < h.objs.size
  ex : ∀ h : Heap, fact h → ∃ o, h.get? a = some o
theorem raw_list {prog : Program} {w : World} (a : Addr) (items : Array Value) : Raw1 prog w a items { cls := .type "list_iterator", data := .fields #[.ref a, .int 0 0] } (fun it i h => h.IsListIter it a i) (fun h => h.IsList a items) where
  iter := fun A E s Q hf hq => wpAny_pyIter_list hf hq
  st0 := fun h => ⟨_, Heap.get?_push_size _ rfl, rfl, rfl⟩
  draws := fun A it hh ne => Draws.list hh it a ne items
  keep := fun it i h h' st k => st.at k
  obj := fun it i h st => let ⟨o, e, _, d⟩ := st; ⟨o, e, fun v q => by rw [d] at q; cases q⟩
  fkeep := fun h h' f k => f.at k
  lt := fun h f => let ⟨o, e, _⟩ := f; Heap.lt_size e
  ex := fun h f => let ⟨o, e, _⟩ := f; ⟨o, e⟩
theorem raw_tup {prog : Program} {w : World} (a : Addr) (items : Array Value) : Raw1 prog w a items { cls := .type "tuple_iterator", data := .fields #[.ref a, .int 0 0] } (fun it i h => h.IsTupleIter it a i) (fun h => h.IsTuple a items) where
  iter := fun A E s Q hf hq => wpAny_pyIter_tuple hf hq
  st0 := fun h => ⟨_, Heap.get?_push_size _ rfl, rfl, rfl⟩
  draws := fun A it hh ne => Draws.tuple hh it a ne items
  keep := fun it i h h' st k => st.at k
  obj := fun it i h st => let ⟨o, e, _, d⟩ := st; ⟨o, e, fun v q => by rw [d] at q; cases q⟩
  fkeep := fun h h' f k => f.at k
  lt := fun h f => let ⟨o, e, _⟩ := f; Heap.lt_size e
  ex := fun h f => let ⟨o, e, _⟩ := f; ⟨o, e⟩
theorem raw_keys {prog : Program} {w : World} (a : Addr) (od : Obj) (es : Array DictEntry) (ep : Nat) (hs : (a == sysModules) = false) (hx : od.ExactDict) (hd : od.data = .dict es ep) :
    Raw1 prog w a (es.map (·.key)) { cls := .type "dict_keyiterator", data := .fields #[.ref a, .int 0 0, .int es.size 0, .int ep 0] } (fun it i h => h.IsKeyIter it a i es.size ep) (fun h => h.get? a = some od) where
  iter := fun A E s Q hf hq => iter_keys hs hf hx hd hq
  st0 := fun h => ⟨_, Heap.get?_push_size _ rfl, rfl, rfl⟩
  draws := fun A it hh ne => {
    live := fun _ _ st => let ⟨o, ho, _⟩ := st.1; ⟨o, ho⟩
    frame := fun _ _ _ st hk => ⟨st.1.at fun o e => hk it (by simp) o e, hk a (by simp) _ st.2⟩
    item := fun i s Q E hi st hQ => by
      have hi' : i < es.size := by simpa using hi
      refine nextOf_key_item st.1 st.2 hd rfl (en := es[i]) (by simp [hi']) fun h' hit' hs' => ?_
      exact hQ _ h' s.toks (by simp [hi']) ⟨hit', hs'.extBut _ _ ne st.2⟩ hs'
    done := fun s Q E st hE => nextOf_key_end hh st.1 st.2 hd rfl (by simp) hE }
  keep := fun it i h h' st k => st.at k
  obj := fun it i h st => let ⟨o, e, _, d⟩ := st; ⟨o, e, fun v q => by rw [d] at q; cases q⟩
  fkeep := fun h h' f k => k _ f
  lt := fun h f => Heap.lt_size f
  ex := fun h f => ⟨_, f⟩
end TL
end s_TL13
section s_TL14
set_option Elab.async false
set_option linter.all false
set_option maxRecDepth 100000
set_option maxHeartbeats 4000000
/-! TL14: zip, to the computations -/
namespace TL
open PySem PySem.Spec PyProof.Rows L2
section
variable {prog : Program} {w : World} {A : Around} {E : Value → Shared → Prop} {s : Shared} {a b : Addr} {xs ys : Array Value} {oa ob : Obj} {sa sb : Addr → Nat → Heap → Prop} {fa fb : Heap → Prop}
abbrev zH1 (h : Heap) (oa : Obj) : Heap := h.push oa
abbrev zH2 (h : Heap) (oa ob : Obj) : Heap := (zH1 h oa).push ob
abbrev zH3 (h : Heap) (oa ob : Obj) : Heap := (zH2 h oa ob).push { cls := .type "tuple", data := .seq #[.ref h.objs.size, .ref (zH1 h oa).objs.size] }
abbrev zH4 (h : Heap) (oa ob : Obj) : Heap := (zH3 h oa ob).push { cls := .type "tuple", data := .seq #[.none, .none] }
abbrev zH5 (h : Heap) (oa ob : Obj) : Heap := (zH4 h oa ob).push { cls := .type "zip", data := .fields #[.none, .bool false, .bool false, .ref (zH2 h oa ob).objs.size, .ref (zH3 h oa ob).objs.size] }
theorem meets_zip (Ra : Raw1 prog w a xs oa sa fa) (Rb : Raw1 prog w b ys ob sb fb) :
    MeetsIn prog w (Builtin.«zip.__new__» ⟨[.type "zip", .ref a, .ref b], []⟩) (fun _ R s => fa s.heap ∧ fb s.heap ∧ R (.ok (.ret (.ref (zH4 s.heap oa ob).objs.size))) { s with heap := zH5 s.heap oa ob }) :=
  .of_wp fun A R s h => by
    obtain ⟨hp, g, d, tk, os⟩ := s; obtain ⟨hl1, hl2, h⟩ := h
    have hsub := sub_zip
    have hL2 : fb (hp.push oa) := Rb.fkeep _ _ hl2 fun o e => Heap.get?_push_of_some _ e
    wp_walk using Ra.iter _ _ ⟨hp, g, d, tk, os⟩ _ hl1, Rb.iter _ _ ⟨hp.push oa, g, d, tk, os⟩ _ hL2
    exact ⟨_, rfl, h⟩
theorem call_zipG (Ra : Raw1 prog w a xs oa sa fa) (Rb : Raw1 prog w b ys ob sb fb) {Q : Value → Shared → Prop} (ha : fa s.heap) (hb : fb s.heap)
    (h : ∀ h', IsZip h' (s.heap.objs.size + 4) (s.heap.objs.size + 2) (s.heap.objs.size + 3) .none → IsTupOf2 h' (s.heap.objs.size + 2) (.ref s.heap.objs.size) (.ref (s.heap.objs.size + 1)) →
      IsTupOf2 h' (s.heap.objs.size + 3) .none .none → sa s.heap.objs.size 0 h' → sb (s.heap.objs.size + 1) 0 h' → h'.objs.size = s.heap.objs.size + 5 →
      (∀ c o, s.heap.get? c = some o → h'.get? c = some o) → Q (.ref (s.heap.objs.size + 4)) { s with heap := h' }) :
    wpAny (model prog w) A (call (.type "zip") [.ref a, .ref b]) Q E s := by
  refine callType_newIn F.called_zip (by decide) (F.typeCall_zip_2 _ _) (F.newCall_zip_2 _ _) (fun obj => F.args_object_init_3 obj _ _) F.entry_zip_new (meets_zip Ra Rb) ⟨ha, hb, ?_⟩
  have z1 : (zH1 s.heap oa).objs.size = s.heap.objs.size + 1 := Heap.size_push ..
  have z2 : (zH2 s.heap oa ob).objs.size = s.heap.objs.size + 2 := by rw [Heap.size_push, z1]
  have z3 : (zH3 s.heap oa ob).objs.size = s.heap.objs.size + 3 := by rw [Heap.size_push, z2]
  have z4 : (zH4 s.heap oa ob).objs.size = s.heap.objs.size + 4 := by rw [Heap.size_push, z3]
  have z5 : (zH5 s.heap oa ob).objs.size = s.heap.objs.size + 5 := by rw [Heap.size_push, z4]
  have g5 : (zH5 s.heap oa ob).get? (zH4 s.heap oa ob).objs.size = some _ := Heap.get?_push_size _ rfl
  have g4 : (zH5 s.heap oa ob).get? (zH3 s.heap oa ob).objs.size = some _ := Heap.get?_push_of_some _ (Heap.get?_push_size _ rfl)
  have g3 : (zH5 s.heap oa ob).get? (zH2 s.heap oa ob).objs.size = some _ := Heap.get?_push_of_some _ (Heap.get?_push_of_some _ (Heap.get?_push_size _ rfl))
  have k2 : ∀ (h : Heap) (o1 o2 o3 : Obj) (c : Addr) (o : Obj), h.get? c = some o → (((h.push o1).push o2).push o3).get? c = some o := fun h o1 o2 o3 c o e => Heap.get?_push_of_some _ (Heap.get?_push_of_some _ (Heap.get?_push_of_some _ e))
  have s2 : sb (zH1 s.heap oa).objs.size 0 (zH5 s.heap oa ob) := Rb.keep _ _ _ _ (Rb.st0 (zH1 s.heap oa)) fun o e => k2 _ _ _ _ _ _ e
  have s1 : sa s.heap.objs.size 0 (zH5 s.heap oa ob) := Ra.keep _ _ _ _ (Ra.st0 s.heap) fun o e => k2 _ _ _ _ _ _ (Heap.get?_push_of_some _ e)
  show _ ∧ _
  rw [z2, z3, z4] at g5
  rw [z1, z2] at g3
  rw [z3] at g4
  rw [z1] at s2
  rw [z4]
  exact ⟨⟨_, g5, rfl⟩, h _ g5 g3 g4 s1 s2 z5 fun c o x => k2 _ _ _ _ _ _ (Heap.get?_push_of_some _ (Heap.get?_push_of_some _ x))⟩
theorem neA {x y : Nat} (h : ¬ x = y) : ¬ ((x : Addr) = (y : Addr)) := h
theorem sepOf (I a b : Nat) (h1 : a < I) (h2 : b < I) : ZipSep2 (I + 4) (I + 2) (I + 3) I (I + 1) [I, a] [I + 1, b] := by
  constructor <;> (try simp only [List.mem_cons, List.not_mem_nil, or_false, not_or]) <;> first | (exact ⟨neA (by omega), neA (by omega)⟩) | exact neA (by omega) | exact Or.inl trivial | exact Or.inl rfl
end

/-- a thing that is walked, by what is tracked -/
structure Sr (P : Program) (wd : World) (K : PySem.W.Frag) (a : Addr) (xs : List V) (ob : Obj) (st : Addr → Nat → Heap → Prop) (hp : Hp → Prop) : Prop where
  ex : ∀ (X : Cx), X.prog = P → X.w = wd → X.K = K → ∀ (pins : List (Addr × Obj)) (σ : L2.St) (H : Hp) (s : Shared), Inv X pins σ H s → hp H →
    ∃ (its : List Value) (fact : Heap → Prop), Raw1 P wd a its.toArray ob st fact ∧ fact s.heap ∧ Vals xs its
section
variable {P : Program} {wd : World} {K : PySem.W.Frag} {a b : Addr} {xs ys : List V} {oa ob : Obj} {sa sb : Addr → Nat → Heap → Prop} {pa pb : Hp → Prop}
theorem sr_list : Sr P wd K a xs { cls := .type "list_iterator", data := .fields #[.ref a, .int 0 0] } (fun it i h => h.IsListIter it a i) (fun H => SqL K H a xs) where
  ex := fun X hP hw hK pins σ H s I h => by
    subst hP hw hK
    obtain ⟨its, r, p, _⟩ := I.list h
    exact ⟨its, _, raw_list a _, p.isList, r⟩
theorem sr_tup : Sr P wd K a xs { cls := .type "tuple_iterator", data := .fields #[.ref a, .int 0 0] } (fun it i h => h.IsTupleIter it a i) (fun H => SqT K H a xs) where
  ex := fun X hP hw hK pins σ H s I h => by
    subst hP hw hK
    obtain ⟨its, r, p, _⟩ := I.tuple h
    exact ⟨its, _, raw_tup a _, p, r⟩
/-- a dict of the module -/
theorem sr_kd {es : Array DictEntry} {n : Nat} {xs : List V} (D : KDict K wd a es n) (hv : Vals xs (es.toList.map (·.key))) :
    Sr P wd K a xs { cls := .type "dict_keyiterator", data := .fields #[.ref a, .int 0 0, .int es.size 0, .int n 0] } (fun it i h => h.IsKeyIter it a i es.size n) (fun _ => True) where
  ex := fun X hP hw hK pins σ H s I h => by
    subst hP hw hK
    have e := I.kIn _ _ D.at_
    refine ⟨es.toList.map (·.key), fun h => h.get? a = some ⟨.type "dict", none, .dict es n, #[]⟩, ?_, e, hv⟩
    have q := raw_keys (prog := X.prog) (w := X.w) a ⟨.type "dict", none, .dict es n, #[]⟩ es n D.low ⟨rfl, rfl, rfl⟩ rfl
    have z : (es.toList.map DictEntry.key).toArray = es.map DictEntry.key := by first | (rw [← Array.toList_map]) | (apply Array.ext'; simp) | (cases es; simp)
    rw [z]
    exact q
/-- pairs of the two, each a new tuple -/
def ItzG (pa pb : Hp → Prop) (xs ys : List V) : It :=
  ⟨fun i H => pa H ∧ pb H ∧ i < xs.length ∧ i < ys.length,
    fun i H v H' => ∃ T x y, v = .ref T ∧ H T = none ∧ H' = upd H T (.tup [x, y]) ∧ xs[i]? = some x ∧ ys[i]? = some y,
    fun i H => pa H ∧ pb H ∧ i ≤ xs.length ∧ i ≤ ys.length ∧ (i = xs.length ∨ i = ys.length)⟩
theorem turn_zipG (Sa : Sr P wd K a xs oa sa pa) (Sb : Sr P wd K b ys ob sb pb) {elts : List Expr} {kk : Nat} {tpos : Pos} {I0 : Nat} (la : a < I0) (lb : b < I0) 
    (ka : ∀ it i h h', sa it i h → (∀ o, h.get? it = some o → h'.get? it = some o) → sa it i h') (kb : ∀ it i h h', sb it i h → (∀ o, h.get? it = some o → h'.get? it = some o) → sb it i h')
    (oka : ∀ it i h, sa it i h → ∃ o, h.get? it = some o ∧ ∀ v, o.data ≠ .cell v) (okb : ∀ it i h, sb it i h → ∃ o, h.get? it = some o ∧ ∀ v, o.data ≠ .cell v) :
    Turn P wd K (.Tuple elts kk tpos) (ItzG pa pb xs ys) [I0 + 4, I0 + 2, I0 + 3, I0, I0 + 1] (I0 + 4)
      (fun i h => IsZip h (I0 + 4) (I0 + 2) (I0 + 3) .none ∧ IsTupOf2 h (I0 + 2) (.ref I0) (.ref (I0 + 1)) ∧ (∃ x y, IsTupOf2 h (I0 + 3) x y) ∧ sa I0 i h ∧ sb (I0 + 1) i h) where
  mem := by simp
  obj := fun i h st c hc => by
    obtain ⟨hz, hTI, ⟨x, y, hTO⟩, h1, h2⟩ := st
    have e' : c = I0 + 4 ∨ c = I0 + 2 ∨ c = I0 + 3 ∨ c = I0 ∨ c = I0 + 1 := by simpa using hc
    rcases e' with q | q | q | q | q
    · rw [q]; exact ⟨_, hz, fun v q => nomatch q⟩
    · rw [q]; exact ⟨_, hTI, fun v q => nomatch q⟩
    · rw [q]; exact ⟨_, hTO, fun v q => nomatch q⟩
    · rw [q]; exact oka _ _ _ h1
    · rw [q]; exact okb _ _ _ h2
  keep := fun i h h' st k => by
    obtain ⟨hz, hTI, ⟨x, y, hTO⟩, h1, h2⟩ := st
    exact ⟨k _ (by simp) _ hz, k _ (by simp) _ hTI, ⟨x, y, k _ (by simp) _ hTO⟩, ka _ _ _ _ h1 fun o q => k _ (by simp) o q, kb _ _ _ _ h2 fun o q => k _ (by simp) o q⟩
  item := by
    intro X hP hw hK hc i pins s σ H E I hf st hg
    subst hP hw hK
    obtain ⟨hz, hTI, ⟨x0, y0, hTO⟩, h1, h2⟩ := st
    obtain ⟨ha, hb, hx, hy⟩ := hg
    obtain ⟨its, f1, R1, p1, rv⟩ := Sa.ex X rfl rfl rfl pins σ H s I ha
    obtain ⟨its2, f2, R2, p2, rv2⟩ := Sb.ex X rfl rfl rfl pins σ H s I hb
    obtain ⟨u, hu, ru⟩ := rv.get (List.getElem?_eq_getElem hx)
    obtain ⟨u2, hu2, ru2⟩ := rv2.get (List.getElem?_eq_getElem hy)
    have l1 := rv.length
    have l2 := rv2.length
    have hzl : I0 + 4 < s.heap.objs.size := Heap.lt_size hz
    have hd1 : X.A.in1.handled = none := I.ok.hd hc
    refine wpAny_pyNext_zipD2_item (sepOf I0 a b la lb) (R1.draws X.A.in1 I0 hd1 (Nat.ne_of_lt la)) (R2.draws X.A.in1 (I0 + 1) hd1 (Nat.ne_of_lt (Nat.lt_succ_of_lt lb))) hz hTI hTO ⟨h1, p1⟩ ⟨h2, p2⟩ (by simp; omega) (by simp; omega) fun x1 x2 h' tk y1 y2 z' TO' h1' h2' hT hsz hk => ?_
    have e1 : x1 = u := by
      have q : its.toArray[i]? = some u := by simpa using hu
      rw [q] at y1; cases y1; rfl
    have e2 : x2 = u2 := by
      have q : its2.toArray[i]? = some u2 := by simpa using hu2
      rw [q] at y2; cases y2; rfl
    subst e1 e2
    refine ⟨_, rfl, wpAny_letOwnedTupleGo_zip (s := { s with heap := h', toks := tk }) z' fun h'' z'' sb => ?_⟩
    have hT2 : h''.get? s.heap.objs.size = some { cls := .type "tuple", data := .seq #[x1, x2] } := (sb.2 _ (Nat.ne_of_gt hzl)).trans hT
    have new : ObjOk X.prog X.w (upd H s.heap.objs.size (.tup [xs[i], ys[i]])) h'' s.heap.objs.size (.tup [xs[i], ys[i]]) :=
      ⟨by show 2 ≤ sizeLine; decide, [x1, x2], .cons ru (.cons ru2 .nil), ⟨_, hT2, rfl, _, rfl⟩⟩
    have I1 : Inv X pins σ (upd H s.heap.objs.size (.tup [xs[i], ys[i]])) { s with heap := h'', toks := tk } :=
      I.turnedNew (t' := tk) (ch := [I0 + 4, I0 + 2, I0 + 3, I0, I0 + 1]) (fun c o hb q => (sb.2 c (fun q' => hb (by simp [q']))).trans (hk c o (fun q' => hb (by simp [q'])) (fun q' => hb (by simp [q'])) (fun q' => hb (by simp [q'])) (fun q' => hb (by simp [q'])) q)) hf (Nat.le_refl _) new
    have nz : ∀ c, c ≠ I0 + 4 → ∀ o, h'.get? c = some o → h''.get? c = some o := fun c hc o q => (sb.2 c hc).trans q
    refine ⟨.ref s.heap.objs.size, _, I1, rfl, ⟨_, xs[i], ys[i], rfl, I.hok.fresh (Nat.le_refl _), rfl, List.getElem?_eq_getElem hx, List.getElem?_eq_getElem hy⟩, ⟨z'', ?_, ⟨x1, x2, ?_⟩, ?_, ?_⟩, fun c hcm => ?_⟩
    · exact nz _ (by refine neA ?_; omega) _ (hk _ _ (by refine neA ?_; omega) (by refine neA ?_; omega) (by refine neA ?_; omega) (by refine neA ?_; omega) hTI)
    · exact nz _ (by refine neA ?_; omega) _ TO'
    · exact ka _ _ _ _ h1'.1 fun o q => nz _ (by refine neA ?_; omega) _ q
    · exact kb _ _ _ _ h2'.1 fun o q => nz _ (by refine neA ?_; omega) _ q
    · have hlt : c < s.heap.objs.size := by
        have e' : c = I0 + 4 ∨ c = I0 + 2 ∨ c = I0 + 3 ∨ c = I0 ∨ c = I0 + 1 := by simpa using hcm
        rcases e' with q | q | q | q | q <;> (rw [q]; first | exact hzl | exact Nat.lt_of_le_of_lt (by omega) hzl)
      rw [upd_ne (Nat.ne_of_lt hlt)]
      exact (hf c hcm).1
  done := by
    intro X hP hw hK hc i pins s σ H E I hf st hg
    subst hP hw hK
    obtain ⟨hz, hTI, ⟨x0, y0, hTO⟩, h1, h2⟩ := st
    obtain ⟨ha, hb, hx, hy, hend⟩ := hg
    obtain ⟨its, f1, R1, p1, rv⟩ := Sa.ex X rfl rfl rfl pins σ H s I ha
    obtain ⟨its2, f2, R2, p2, rv2⟩ := Sb.ex X rfl rfl rfl pins σ H s I hb
    have l1 := rv.length
    have l2 := rv2.length
    have hd1 : X.A.in1.handled = none := I.ok.hd hc
    refine wpAny_pyNext_zipD2_end (sepOf I0 a b la lb) (R1.draws X.A.in1 I0 hd1 (Nat.ne_of_lt la)) (R2.draws X.A.in1 (I0 + 1) hd1 (Nat.ne_of_lt (Nat.lt_succ_of_lt lb))) hz hTI hTO ⟨h1, p1⟩ ⟨h2, p2⟩ (by simp; omega) (by simp; omega)
      (by rcases hend with q | q; exact .inl (by simp; omega); exact .inr (by simp; omega)) fun h' tk hk => ⟨rfl, I.turnedL (t' := tk) (ch := [I0 + 4, I0 + 2, I0 + 3, I0, I0 + 1]) (fun c o hb q =>
      hk c o (fun q' => hb (by simp [q'])) (fun q' => hb (by simp [q'])) (fun q' => hb (by simp [q'])) (fun q' => hb (by simp [q'])) q) hf⟩
  self := fun A i s Q E st h => wpAny_pyIter_zip st.1 h
end

/-- what may be asked of a walk's laid state -/
structure SrK (sa : Addr → Nat → Heap → Prop) : Prop where
  keep : ∀ it i h h', sa it i h → (∀ o, h.get? it = some o → h'.get? it = some o) → sa it i h'
  ok : ∀ it i h, sa it i h → ∃ o, h.get? it = some o ∧ ∀ v, o.data ≠ .cell v
def iZipG (P : Program) (wd : World) (K : PySem.W.Frag) (ta : TA) : TI := fun σ H R => ta σ H fun vs H1 => ∃ a b xs ys oa ob sa sb pa pb, vs = [.ref a, .ref b] ∧ Sr P wd K a xs oa sa pa ∧ Sr P wd K b ys ob sb pb ∧ pa H1 ∧ pb H1 ∧ R (ItzG pa pb xs ys) H1
theorem pi_zipG {X : Cx} {e e2 : Expr} {ta : TA} {p pos tpos : Pos} {elts : List Expr} {kk : Nat} (hg : Gl X "zip") (hm : X.mg "zip" = none) (ha : PA X [e, e2] ta)
    (hs : starEach [e, e2] X.env = (false, eval e X.env) :: starEach [e2] X.env := by rfl) (hpl : (backTo pos (starEach [e2] X.env)).any (·.1) = false := by rfl) :
    PI X (.Tuple elts kk tpos) (.Call (.Name "zip" p) [e, e2] [] pos) (iZipG X.prog X.w X.K ta) := by
  refine ⟨fun pins s σ H R I h => ?_⟩
  refine Call_ (ld_blt I hg hm PyProof.Rows.boot_zip (PyProof.Rows.callWith_type1 (thn (ha.run pos pins s σ H _ I h) fun us s1 ⟨vs, H1, I1, r1, q1⟩ => ?_) hs hpl))
  obtain ⟨a, b, xs, ys, oa, ob, sa, sb, pa, pb, ex, Sa, Sb, ha1, hb1, q⟩ := q1
  subst ex
  cases r1 with
  | cons r rr =>
    cases rr with
    | cons r' rr =>
      cases rr
      cases r
      cases r'
      obtain ⟨its, f1, R1, p1, rv⟩ := Sa.ex X rfl rfl rfl pins σ H1 s1 I1 ha1
      obtain ⟨its2, f2, R2, p2, rv2⟩ := Sb.ex X rfl rfl rfl pins σ H1 s1 I1 hb1
      refine call_zipG R1 R2 p1 p2 fun h' hz hTI hTO h1 h2 hsz hk => wpAny_pyIter_zip hz ?_
      have I2 : Inv X pins σ H1 { s1 with heap := h' } := I1.kept (t' := s1.toks) hk
      refine ⟨s1.heap.objs.size + 4, [s1.heap.objs.size + 4, s1.heap.objs.size + 2, s1.heap.objs.size + 3, s1.heap.objs.size, s1.heap.objs.size + 1], _, _, H1, rfl, I2, turn_zipG Sa Sb (R1.lt _ p1) (R2.lt _ p2) R1.keep R2.keep R1.obj R2.obj, ⟨hz, hTI, ⟨_, _, hTO⟩, h1, h2⟩, fun c hcm => ?_, q⟩
      have e' : c = s1.heap.objs.size + 4 ∨ c = s1.heap.objs.size + 2 ∨ c = s1.heap.objs.size + 3 ∨ c = s1.heap.objs.size ∨ c = s1.heap.objs.size + 1 := by simpa using hcm
      have hle : s1.heap.objs.size ≤ c := by rcases e' with z | z | z | z | z <;> (rw [z]; first | exact Nat.le_add_right _ _ | exact Nat.le_refl _)
      exact I1.fpOk hle (I1.hok.fresh hle)
end TL
end s_TL14
section s_TL15
set_option Elab.async false
set_option linter.all false
set_option maxRecDepth 100000
set_option maxHeartbeats 4000000
/-! TL15: a table of the module; for over zip -/
namespace TL
open PySem PySem.Spec PyProof.Rows L2
/-- the name P0 is a dict of the module, with text keys -/
structure KTb (K : PySem.W.Frag) (mg : Str → Option Value) (wd : World) (P0 : Str) (kts : List (Str × T)) : Prop where
  ex : ∃ d es n, mg P0 = some (.ref d) ∧ KDict K wd d es n ∧ Vals (kts.map fun p => V.str p.1) (es.toList.map (·.key)) ∧
    (∀ k t, (kts.find? fun p => p.1 == k).map (·.2) = some t → ∃ u v, PySem.W.nsIn K d k = some (some u) ∧ RelV v u ∧ ∀ (w : Wd) Z, Tr K mg w Z t v) ∧
    ∀ k, (kts.find? fun p => p.1 == k) = none → PySem.W.nsIn K d k = some none
  small : kts.length ≤ 1000
section
variable {X : Cx} {w : Wd} {E : XK} {tg e e2 : Expr} {p pos tpos : Pos} {ca cb : EC} {cs : List Sl → G (List T)} {P0 : Str} {kts : List (Str × T)} {H Z : Hp}
/-- the things that are walked -/
def srcT (P0 : Str) (kts : List (Str × T)) : T → Option (List T)
  | .lst ts => some ts
  | .tup ts => some ts
  | .fn x => if x = P0 then some (kts.map fun p => .str p.1) else none
  | _ => none
theorem trs_strs {K : PySem.W.Frag} {mg : Str → Option Value} : ∀ (kts : List (Str × T)), Trs K mg w Z (kts.map fun p => T.str p.1) (kts.map fun p => V.str p.1)
  | [] => .nil
  | p :: r => .cons (.str _) (trs_strs r)
theorem src_ok (KT : KTb X.K X.mg X.w P0 kts) {t : T} {v : V} {ts : List T} (h : Tr X.K X.mg w Z t v) (e : srcT P0 kts t = some ts) :
    ∃ a xs oa sa pa, v = .ref a ∧ Sr X.prog X.w X.K a xs oa sa pa ∧ (∀ H' Z', Sub Z Z' → Good w H' Z' → pa H') ∧ Trs X.K X.mg w Z ts xs ∧ xs.length ≤ sizeLine := by
  cases h with
  | @lst us p vs hz l tr =>
    cases e
    exact ⟨p, vs, _, _, _, rfl, sr_list, fun H' Z' s g => SqL.of (g.zh _ _ (s _ _ hz)), tr, l⟩
  | @tup us p vs hz l tr =>
    cases e
    exact ⟨p, vs, _, _, _, rfl, sr_tup, fun H' Z' s g => g.sqT (s.sqT hz), tr, l⟩
  | @fn x a m =>
    simp only [srcT] at e
    split at e
    · rename_i hx
      subst hx
      cases e
      obtain ⟨d, es, n, hm, D, hv, _⟩ := KT.ex
      rw [hm] at m
      cases m
      refine ⟨_, _, _, _, _, rfl, sr_kd D hv, fun _ _ _ _ => trivial, trs_strs kts, ?_⟩
      rw [List.length_map]
      exact Nat.le_of_lt (small1000 KT.small)
    · cases e
  | _ => cases e
def zipT : List T → List T → List T
  | a :: as, b :: bs => .tup [a, b] :: zipT as bs
  | _, _ => []
theorem zipT_get : ∀ (as bs : List T) (i : Nat) (t : T), (zipT as bs)[i]? = some t → ∃ a b, as[i]? = some a ∧ bs[i]? = some b ∧ t = .tup [a, b]
  | a :: as, b :: bs, 0, t, e => by simp only [zipT, List.getElem?_cons_zero, Option.some.injEq] at e; exact ⟨a, b, rfl, rfl, e.symm⟩
  | a :: as, b :: bs, i + 1, t, e => by
    obtain ⟨x, y, h1, h2, h3⟩ := zipT_get as bs i t (by simpa [zipT] using e)
    exact ⟨x, y, by simpa using h1, by simpa using h2, h3⟩
  | [], _, _, _, e => by simp [zipT] at e
  | _ :: _, [], _, _, e => by simp [zipT] at e
theorem zipT_len : ∀ as bs : List T, (zipT as bs).length = min as.length bs.length
  | [], _ => by simp [zipT]
  | _ :: _, [] => by simp [zipT]
  | a :: as, b :: bs => by simp only [zipT, List.length_cons, zipT_len as bs]; omega
theorem iter_zip {M : Km} {xs ys : List V} {pa pb : Hp → Prop} {ts us : List T} {Zs : Hp} (ha : ∀ H' Z', Sub Zs Z' → Good w H' Z' → pa H') (hb : ∀ H' Z', Sub Zs Z' → Good w H' Z' → pb H')
    (t1 : Trs M.K M.mg w Zs ts xs) (t2 : Trs M.K M.mg w Zs us ys) : IterOk M w (ItzG pa pb xs ys) (zipT ts us) Zs := fun i H Z s g => by
  have l1 := t1.length
  have l2 := t2.length
  refine ⟨fun t ht => ?_, fun hl => ?_⟩
  · obtain ⟨a, b, h1, h2, rfl⟩ := zipT_get _ _ _ _ ht
    obtain ⟨x, hx, tx⟩ := t1.get h1
    obtain ⟨y, hy, ty⟩ := t2.get h2
    refine ⟨⟨ha H Z s g, hb H Z s g, (List.getElem?_eq_some_iff.mp hx).1, (List.getElem?_eq_some_iff.mp hy).1⟩, fun v H' q => ?_⟩
    obtain ⟨p, x', y', rfl, hp, rfl, e1, e2⟩ := q
    rw [hx] at e1; cases e1
    rw [hy] at e2; cases e2
    have gl := Grow.laidF (o := .tup [x, y]) g hp
    refine ⟨_, gl, ?_⟩
    exact .tup (SqT.of upd_same) (by show 2 ≤ sizeLine; decide) (.cons ((tx.mono s).mono gl.zz) (.cons ((ty.mono s).mono gl.zz) .nil))
  · rw [zipT_len] at hl
    exact ⟨ha H Z s g, hb H Z s g, by omega, by omega, by omega⟩
def zipOf (P0 : Str) (kts : List (Str × T)) : List T → G (List T)
  | [a, b] => match srcT P0 kts a, srcT P0 kts b with
    | some ts, some us => .ret (zipT ts us)
    | _, _ => .stuck
  | _ => .stuck
theorem ci_zip {elts : List Expr} {kk : Nat} (KT : KTb X.K X.mg X.w P0 kts) (hg : Gl X "zip") (hm : X.mg "zip" = none) (ha : CA X w E [e, e2] cs) (hs : starEach [e, e2] X.env = (false, eval e X.env) :: starEach [e2] X.env := by rfl)
    (hpl : (backTo pos (starEach [e2] X.env)).any (·.1) = false := by rfl) :
    CI X w E (.Tuple elts kk tpos) (.Call (.Name "zip" p) [e, e2] [] pos) (fun r => cs r >>= zipOf P0 kts) := by
  refine ⟨piImp (pi_zipG hg hm ha.pa hs hpl) fun σ H Rr h => ?_⟩
  obtain ⟨H0, Z0, r, Z, o, R, h⟩ := h
  refine evSeqA (P := fun H Z => fun ts => ∀ J H' Z', Grow w H Z H' Z' → ts.length ≤ sizeLine → IterOk X.km w J ts Z' → Rr J H') R (fun g h J H' Z' g' => h J H' Z' (g.trans g')) h fun xs H1 Z1 ts R1 g1 t1 h1 => ?_
  unfold zipOf at h1
  split at h1
  · rename_i a b
    obtain ⟨va, vb, rfl, ta, tb⟩ := trs2 t1
    split at h1
    · rename_i ts us e1 e2
      obtain ⟨p1, xs, oa, sa, pa, rfl, S1, q1, tr1, l1⟩ := src_ok KT ta e1
      obtain ⟨p2, ys, ob, sb, pb, rfl, S2, q2, tr2, l2⟩ := src_ok KT tb e2
      refine ⟨p1, p2, xs, ys, oa, ob, sa, sb, pa, pb, rfl, S1, S2, q1 H1 Z1 (Sub.refl _) R1.good, q2 H1 Z1 (Sub.refl _) R1.good, ?_⟩
      refine h1 _ H1 Z1 (Grow.refl R1.good) ?_ (iter_zip q1 q2 tr1 tr2)
      rw [zipT_len, tr1.length]
      exact Nat.le_trans (Nat.min_le_left _ _) l1
    · exact False.elim h1
  · exact False.elim h1
/-- P0 itself -/
theorem ce_tab (KT : KTb X.K X.mg X.w P0 kts) (hg : Gl X P0) (hd : (P0 == ("__debug__" : Str)) = false := by decide) : CE X w E (.Name P0 pos) (cC (.fn P0)) := by
  obtain ⟨d, es, n, hm, _⟩ := KT.ex
  exact ce_glob (u := .ref d) (v := .ref d) hg hm rfl (fun Z => .fn hm) hd
/-- P0[e] -/
def fTab (P0 : Str) (kts : List (Str × T)) : T → T → G T
  | .fn x, .str k => if x = P0 then (match (kts.find? fun p => p.1 == k) with | some p => .ret p.2 | none => .stuck) else .stuck
  | _, _ => .stuck
theorem t2_tab (KT : KTb X.K X.mg X.w P0 kts) : T2 X.km w E (rIxD X.K X.w) (fTab P0 kts) := fun H0 Z0 r σ H Z o R a b x y Q ta tb hw => by
  cases ta with
  | @fn x1 a1 m =>
    cases tb with
    | str k =>
      simp only [fTab] at hw
      split at hw
      · rename_i hx
        subst hx
        obtain ⟨d, es, n, hm, D, _, hit, _⟩ := KT.ex
        have m' : X.mg x1 = some (.ref a1) := m
        rw [hm] at m'
        cases m'
        cases q : (kts.find? fun p => p.1 == k) with
        | none => rw [q] at hw; exact False.elim hw
        | some p =>
          rw [q] at hw
          obtain ⟨u, v, e1, rv, tv⟩ := hit k p.2 (by rw [q]; rfl)
          exact ⟨_, k, v, rfl, rfl, ⟨es, n, u, D.at_, D.lit, e1, rv⟩, hw v H Z (Grow.refl R.good) (tv w Z)⟩
      · exact False.elim hw
    | _ => exact False.elim hw
  | _ => exact False.elim hw
theorem ce_tabIx (KT : KTb X.K X.mg X.w P0 kts) (ha : CE X w E e ca) (hb : CE X w E e2 cb) (hs : PlainIx e2 := by exact fun _ _ => rfl) : CE X w E (.Subscript e e2 pos) (cOp2 (fTab P0 kts) ca cb) :=
  ce_ix ix_kdict (t2_tab KT) ha hb hs
/-- e in P0, e not in P0 -/
def fTabIn (P0 : Str) (kts : List (Str × T)) (neg : Bool) : T → T → G T
  | .str k, .fn x => if x = P0 then .ret (.bl (((kts.find? fun p => p.1 == k).isSome) != neg)) else .stuck
  | _, _ => .stuck
theorem tab_in (KT : KTb X.K X.mg X.w P0 kts) {d : Addr} {es : Array DictEntry} {n : Nat} (hm : X.mg P0 = some (.ref d)) (k : Str) : ∃ r : Option Value, PySem.W.nsIn X.K d k = some r ∧ r.isSome = (kts.find? fun p => p.1 == k).isSome := by
  obtain ⟨d', es', n', hm', D, _, hit, mis⟩ := KT.ex
  rw [hm] at hm'
  cases hm'
  cases q : (kts.find? fun p => p.1 == k) with
  | none => exact ⟨none, mis k q, rfl⟩
  | some p =>
    obtain ⟨u, v, e1, _⟩ := hit k p.2 (by rw [q]; rfl)
    exact ⟨some u, e1, rfl⟩
theorem ce_tabIn (KT : KTb X.K X.mg X.w P0 kts) (ha : CE X w E e ca) (hb : CE X w E e2 cb) (hmk : behindInMarks .In e2 = false := by first | exact nomark _ | rfl) : CE X w E (.Compare e [.In] [e2] pos) (cOp2 (fTabIn P0 kts false) ca cb) := by
  obtain ⟨d, es, n, hm, D, _⟩ := KT.ex
  refine ce_cmp (op_in_kd D) (fun H0 Z0 r σ H Z o R a b x y Q ta tb hw => ?_) ha hb hmk
  cases ta with
  | str k =>
    cases tb with
    | @fn x1 a1 m =>
      simp only [fTabIn] at hw
      split at hw
      · rename_i hx
        subst hx
        have m' : X.mg x1 = some (.ref a1) := m
        rw [hm] at m'
        cases m'
        obtain ⟨r, e1, e2⟩ := tab_in KT (es := es) (n := n) hm k
        refine ⟨k, r, rfl, rfl, e1, ?_⟩
        rw [e2]
        have z := hw _ H Z (Grow.refl R.good) (.bl _)
        simpa using z
      · exact False.elim hw
    | _ => exact False.elim hw
  | _ => exact False.elim hw
theorem ce_tabNotIn (KT : KTb X.K X.mg X.w P0 kts) (ha : CE X w E e ca) (hb : CE X w E e2 cb) (hmk : behindInMarks .NotIn e2 = false := by first | exact nomark _ | rfl) : CE X w E (.Compare e [.NotIn] [e2] pos) (cOp2 (fTabIn P0 kts true) ca cb) := by
  obtain ⟨d, es, n, hm, D, _⟩ := KT.ex
  refine ce_cmp (op_notIn_kd D) (fun H0 Z0 r σ H Z o R a b x y Q ta tb hw => ?_) ha hb hmk
  cases ta with
  | str k =>
    cases tb with
    | @fn x1 a1 m =>
      simp only [fTabIn] at hw
      split at hw
      · rename_i hx
        subst hx
        have m' : X.mg x1 = some (.ref a1) := m
        rw [hm] at m'
        cases m'
        obtain ⟨r, e1, e2⟩ := tab_in KT (es := es) (n := n) hm k
        refine ⟨k, r, rfl, rfl, e1, ?_⟩
        rw [e2]
        have z := hw _ H Z (Grow.refl R.good) (.bl _)
        simpa using z
      · exact False.elim hw
    | _ => exact False.elim hw
  | _ => exact False.elim hw
end
end TL
end s_TL15
section s_TL16
set_option Elab.async false
set_option linter.all false
set_option maxRecDepth 100000
set_option maxHeartbeats 4000000
/-! TL16: instances are made; attributes of self -/
namespace TL
open PySem PySem.Spec PyProof.Rows L2
section
variable {K : PySem.W.Frag} {mg : Str → Option Value} {w w' : Wd}
mutual
theorem Tr.conv (hw : w.W = w'.W) {Z : Hp} : ∀ {t : T} {v : V}, Tr K mg w Z t v → Tr K mg w' Z t v
  | _, _, .non => .non
  | _, _, .bl b => .bl b
  | _, _, .int i => .int i
  | _, _, .str x => .str x
  | _, _, .ty n => .ty n
  | _, _, .tup h l r => .tup h l (Trs.conv hw r)
  | _, _, .lst h l r => .lst h l (Trs.conv hw r)
  | _, _, .dic h l r => .dic h l (Trd.conv hw r)
  | _, _, .ins a h d r => .ins a h d (Trf.conv hw r)
  | _, _, .fn h => .fn h
  | _, _, .drw h => .drw (hw ▸ h)
  | _, _, .scr h l => .scr h l
theorem Trs.conv (hw : w.W = w'.W) {Z : Hp} : ∀ {ts : List T} {vs : List V}, Trs K mg w Z ts vs → Trs K mg w' Z ts vs
  | _, _, .nil => .nil
  | _, _, .cons a b => .cons (Tr.conv hw a) (Trs.conv hw b)
theorem Trd.conv (hw : w.W = w'.W) {Z : Hp} : ∀ {ts : List (T × T)} {vs : List (Key × V)}, Trd K mg w Z ts vs → Trd K mg w' Z ts vs
  | _, _, .nil => .nil
  | _, _, .cons k a b => .cons k (Tr.conv hw a) (Trd.conv hw b)
theorem Trf.conv (hw : w.W = w'.W) {Z : Hp} : ∀ {ts : List (Str × T)} {vs : List (Str × V)}, Trf K mg w Z ts vs → Trf K mg w' Z ts vs
  | _, _, .nil => .nil
  | _, _, .cons a b => .cons (Tr.conv hw a) (Trf.conv hw b)
end
theorem Root.conv (hw : w.W = w'.W) {Z H : Hp} {t : T} {p : Addr} {o : List Addr} (r : Root K mg w Z H t p o) : Root K mg w' Z H t p o := by
  cases t <;> try exact False.elim r
  case tup ts => obtain ⟨a, bs, rfl, q, va, vs, e, h1, h2, h3, h4, h5⟩ := r.ex; exact ⟨q, va, vs, e, h1, h2.conv hw, h3, h4, h5.conv hw⟩
  case lst ts => obtain ⟨e, vs, h, l, q⟩ := r; exact ⟨e, vs, h, l, q.conv hw⟩
  case dic ts => obtain ⟨e, vs, h, l, q⟩ := r; exact ⟨e, vs, h, l, q.conv hw⟩
  case ins c fs => obtain ⟨C, dx, gs, e, n, m, h, d, q⟩ := r; exact ⟨C, dx, gs, e, n, m, h, d, q.conv hw⟩
theorem ExR.conv (hw : w.W = w'.W) {Z H : Hp} {e : T} {c : Value} {d : Option Addr} (r : ExR K mg w Z H e c d) : ExR K mg w' Z H e c d := by
  obtain ⟨n, fs, C, h1, h2, h3, h4⟩ := r
  refine ⟨n, fs, C, h1, h2, h3, h4.imp id fun ⟨a, gs, q1, q2, q3⟩ => ⟨a, gs, q1, q2, q3.conv hw⟩⟩
end
/-- another self -/
def Wd.at (w : Wd) (x : Addr) : Wd := { w with me := x }
theorem Good.at {w : Wd} {H Z : Hp} (g : Good w H Z) (x : Addr) : Good (w.at x) H Z := ⟨g.zh, g.zw, g.wi⟩
theorem Good.un {w : Wd} {H Z : Hp} {x : Addr} (g : Good (w.at x) H Z) : Good w H Z := ⟨g.zh, g.zw, g.wi⟩
theorem Grow.at {w : Wd} {H Z H' Z' : Hp} (g : Grow w H Z H' Z') (x : Addr) : Grow (w.at x) H Z H' Z' := ⟨g.good.at x, g.zz, g.new, g.hh⟩
theorem Grow.un {w : Wd} {H Z H' Z' : Hp} {x : Addr} (g : Grow (w.at x) H Z H' Z') : Grow w H Z H' Z' := ⟨g.good.un, g.zz, g.new, g.hh⟩

/-! ### self's attributes -/
def putFT (f : Str) (t : T) : List (Str × T) → List (Str × T)
  | [] => [(f, t)]
  | (g, x) :: r => if g = f then (g, t) :: r else (g, x) :: putFT f t r
section
variable {K : PySem.W.Frag} {mg : Str → Option Value} {w : Wd} {Z : Hp}
theorem Trf.put {f : Str} {t : T} {v : V} (h : Tr K mg w Z t v) : ∀ {fs : List (Str × T)} {gs : List (Str × V)}, Trf K mg w Z fs gs → Trf K mg w Z (putFT f t fs) (putF f v gs)
  | _, _, .nil => .cons h .nil
  | _, _, @Trf.cons _ _ _ _ g t1 v1 fs gs a b => by
    unfold putFT putF
    by_cases e : g = f
    · rw [if_pos e, if_pos e]; exact .cons h b
    · rw [if_neg e, if_neg e]; exact .cons a (Trf.put h b)
theorem Trf.length : ∀ {fs : List (Str × T)} {gs : List (Str × V)}, Trf K mg w Z fs gs → fs.length = gs.length
  | _, _, .nil => rfl
  | _, _, .cons a b => by rw [List.length_cons, List.length_cons, Trf.length b]
theorem Trf.look {f : Str} {t : T} : ∀ {fs : List (Str × T)} {gs : List (Str × V)}, Trf K mg w Z fs gs → fs.lookup f = some t → ∃ v, gs.lookup f = some v ∧ Tr K mg w Z t v
  | _, _, .nil, e => by cases e
  | _, _, @Trf.cons _ _ _ _ g t1 v1 fs gs a b, e => by
    rw [List.lookup_cons] at e ⊢
    by_cases q : (f == g) = true
    · rw [q] at e ⊢; cases e; exact ⟨_, rfl, a⟩
    · rw [Bool.eq_false_iff.mpr q] at e ⊢; exact Trf.look b e
end
section
variable {X : Km} {w : Wd} {H0 Z0 H Z : Hp} {r : List Sl} {σ : L2.St} {o : Nat → List Addr}
theorem EnvR.isMe (R : EnvR X.km w H0 Z0 r σ H Z o) {i : Nat} {t : T} (hr : r[i]? = some (.me t)) : σ[i]? = some (some (.ref w.me)) ∧ Root X.K X.mg w Z H t w.me (o i) := by
  have hi : i < σ.length := by
    have := (List.getElem?_eq_some_iff.mp hr).1
    rw [R.len] at this; exact this
  obtain ⟨ev, rt⟩ := R.sl i _ _ hr (List.getElem?_eq_getElem hi)
  exact ⟨(List.getElem?_eq_getElem hi).trans (congrArg some ev), rt⟩
theorem EnvR.rewMe (R : EnvR X.km w H0 Z0 r σ H Z o) {i : Nat} {t t' : T} {u : HO} (hr : r[i]? = some (.me t)) (h : Root X.K X.mg w Z (upd H w.me u) t' w.me (o i)) (hn : notTup t = true := by rfl) :
    EnvR X.km w H0 Z0 (r.set i (.me t')) σ (upd H w.me u) Z o := by
  obtain ⟨hs, rt⟩ := R.isMe hr
  have hp := rt.mem hn
  obtain ⟨h0, hz, hw⟩ := R.fr i _ hp
  refine ⟨R.gr.beside h0 hz hw, by rw [List.length_set]; exact R.len, fun j s x h1 h2 => ?_, fun j hj => R.out j (by rw [List.length_set] at hj; exact hj), R.dis, R.fr⟩
  by_cases e : j = i
  · subst e
    have hj : j < r.length := (List.getElem?_eq_some_iff.mp hr).1
    rw [List.getElem?_set_self hj] at h1
    cases h1
    rw [hs] at h2
    cases h2
    exact ⟨rfl, h⟩
  · rw [List.getElem?_set_ne (Ne.symm e)] at h1
    exact (R.sl j s x h1 h2).move (Sub.refl _) fun b hb v q => by
      have ne : b ≠ w.me := fun z => e (R.dis j i w.me (z ▸ hb) hp)
      rw [upd_ne ne]; exact q
end
/-- what is asked of a class whose attribute f is read and written -/
structure FldF (K : PySem.W.Frag) (mg : Str → Option Value) (c f : Str) (C : Addr) : Prop where
  mg : mg c = some (.ref C)
  cls : Cls K C
  no : NoAttr K C f
def cFldMe (i : Nat) (c f : Str) (ca : EC) : SC := fun r => ca r >>= fun t => match r[i]? with
  | some (.me (.ins c' fs)) => if c' = c ∧ fs.length < 1000 then .ret (.nx (r.set i (.me (.ins c' (putFT f t fs))))) else .stuck
  | _ => .stuck
section
variable {X : Cx} {w : Wd} {E : XK} {fr : Bool} {H0 Z0 H Z : Hp} {r : List Sl} {σ : L2.St} {o : Nat → List Addr} {D : Ends} {pos pos' p0 : Pos} {e : Expr} {ca : EC} {c f : Str} {C : Addr}
theorem cs_fldMe (i : Nat) {x : Str} (F : FldF X.K X.mg c f C) (he : CE X w E e ca) (hN : X.N[i]? = some x := by rfl) (hv : Vis X.env.scope x := by first | exact Or.inl rfl | exact Or.inr (Or.inl rfl) | exact Or.inr (Or.inr rfl)) (hd : (x == ("__debug__" : Str)) = false := by decide)
    (hcd : (x == ("__classdict__" : Str)) = false := by decide) (hs : swapsWith e (some (.Attribute (.Name x p0) f pos')) pos.line X.env = pure false := by rfl) :
    CS X w E fr (.Assign [.Attribute (.Name x p0) f pos'] e pos) (cFldMe i c f ca) := by
  refine ⟨psImp (ps_fld (pe_var hN hv hd hcd) he.pe hs) fun D σ H h => ?_⟩
  obtain ⟨H0, Z0, r, Z, o, R, h⟩ := h
  refine evSeqS R h fun y H1 Z1 a R1 g1 t1 h1 => ?_
  split at h1
  · rename_i c' fs er
    split at h1
    · rename_i hc
      obtain ⟨rfl, hl⟩ := hc
      obtain ⟨es, rt⟩ := R1.isMe er
      refine ⟨.ref w.me, es, ?_⟩
      obtain ⟨C', dx, gs, eo, ne, m, hi, hd', tf⟩ := rt
      have hC : C' = C := by have z : X.mg c' = some (.ref C') := m; rw [F.mg] at z; cases z; rfl
      subst hC
      refine ⟨w.me, C', dx, gs, rfl, hi, F.cls, F.no, by rw [← tf.length]; exact hl, ?_⟩
      refine h1 σ _ Z1 o (R1.rewMe er ⟨C', dx, putF f y gs, eo, ne, m, upd_same, ?_, tf.put t1⟩) (Sub.refl _)
      rw [upd_ne ne]; exact hd'
    · exact False.elim h1
  · exact False.elim h1
/-- self.f -/
def cGetMe (i : Nat) (c f : Str) : EC := fun r => match r[i]? with
  | some (.me (.ins c' fs)) => if c' = c then (match fs.lookup f with | some t => .ret t | none => .stuck) else .stuck
  | _ => .stuck
theorem ce_getMe (i : Nat) {x : Str} (F : FldF X.K X.mg c f C) (hN : X.N[i]? = some x := by rfl) (hv : Vis X.env.scope x := by first | exact Or.inl rfl | exact Or.inr (Or.inl rfl) | exact Or.inr (Or.inr rfl)) (hd : (x == ("__debug__" : Str)) = false := by decide)
    (hcd : (x == ("__classdict__" : Str)) = false := by decide) (hb : attributeBase (.Name x p0) f X.env (eval (.Name x p0) X.env) = eval (.Name x p0) X.env := by rfl) :
    CE X w E (.Attribute (.Name x p0) f pos) (cGetMe i c f) := by
  refine ⟨peImp (pe_fld (pe_var hN hv hd hcd) hb) fun σ H Q h => ?_⟩
  obtain ⟨H0, Z0, r, Z, o, R, h⟩ := h
  unfold cGetMe at h
  split at h
  · rename_i c' fs er
    split at h
    · rename_i hc
      subst hc
      obtain ⟨es, rt⟩ := R.isMe er
      refine ⟨.ref w.me, es, ?_⟩
      obtain ⟨C', dx, gs, eo, ne, m, hi, hd', tf⟩ := rt
      have hC : C' = C := by have z : X.mg c' = some (.ref C') := m; rw [F.mg] at z; cases z; rfl
      subst hC
      split at h
      · rename_i t ht
        obtain ⟨v, hv, tv⟩ := tf.look ht
        exact ⟨w.me, C', dx, gs, v, rfl, hi, F.cls, F.no, hv, h v H Z (Grow.refl R.good) tv⟩
      · exact False.elim h
    · exact False.elim h
  · exact False.elim h
end

/-! ### __init__, and the call of the class -/
def SpI (K : PySem.W.Frag) (mg : Str → Option Value) (c : Str) (C : Addr) (n : Nat) (F : List T → G T) : Sp := fun vs H Q E => ∃ (w : Wd) (ts : List T) (H0 Z : Hp) (x dx : Addr) (vs' : List V), vs = .ref x :: vs' ∧ vs'.length = n ∧ mg c = some (.ref C) ∧
  Good w H0 Z ∧ H0 x = none ∧ H0 dx = none ∧ dx ≠ x ∧ H = upd (upd H0 dx (.own x)) x (.ins C dx []) ∧ Trs K mg w Z ts vs' ∧
  (F ts).wp (fun t => ∀ oo H' Z', Grow w H0 Z H' Z' → Root K mg w Z' H' t x oo → Fresh w H0 Z' oo → Q .non H') (fun e => ∀ cls d H' Z', Grow w H0 Z H' Z' → ExR K mg w Z' H' e cls d → E cls d H')
def runI (c0 : Str) (c : SC) (m : Nat) (ts : List T) : G T := c (.me (.ins c0 []) :: (ts.map .fz ++ List.replicate (m - 1 - ts.length) .un)) >>= fun k => match k with
  | .nx (.me t :: _) => .ret t
  | _ => .stuck

theorem env_startI {M : Km} {w : Wd} {H0 Z : Hp} {ts : List T} {vs : List V} {N : List Str} {c : Str} {C x dx : Addr} (g : Good w H0 Z) (hx : H0 x = none) (hd : H0 dx = none) (ne : dx ≠ x) (m : M.mg c = some (.ref C)) (tr : Trs M.K M.mg w Z ts vs) (hl : vs.length + 1 ≤ N.length) :
    EnvR M (w.at x) H0 Z (.me (.ins c []) :: (ts.map .fz ++ List.replicate (N.length - 1 - ts.length) .un)) (L2.start N (.ref x :: vs)) (upd (upd H0 dx (.own x)) x (.ins C dx [])) Z (fun i => if i = 0 then [x, dx] else []) := by
  have el := tr.length
  have hx2 : (upd H0 dx (.own x)) x = none := by rw [upd_ne (Ne.symm ne)]; exact hx
  have g1 := Grow.laid (o := .own x) g hd
  have g2 := g1.trans (Grow.laid (o := .ins C dx []) g1.good hx2)
  refine ⟨g2.at x, ?_, fun i s y h1 h2 => ?_, fun i hi => ?_, fun i j a ha hb => ?_, fun i a ha => ?_⟩
  · unfold L2.start
    simp only [List.length_cons, List.length_append, List.length_map, List.length_replicate]
    omega
  · unfold L2.start at h2
    cases i with
    | zero =>
      cases h1
      simp only [List.map_cons, List.cons_append, List.getElem?_cons_zero, Option.some.injEq] at h2
      subst h2
      refine ⟨rfl, C, dx, [], rfl, ne, m, upd_same, ?_, .nil⟩
      rw [upd_ne ne]; exact upd_same
    | succ i =>
      simp only [List.getElem?_cons_succ] at h1
      simp only [List.map_cons, List.cons_append, List.getElem?_cons_succ] at h2
      by_cases hi : i < ts.length
      · rw [List.getElem?_append_left (by simpa using hi), List.getElem?_map] at h1
        rw [List.getElem?_append_left (by rw [List.length_map]; omega), List.getElem?_map] at h2
        cases e : ts[i]? with
        | none => rw [e] at h1; cases h1
        | some t =>
          obtain ⟨v, hv, tv⟩ := tr.get e
          rw [e] at h1; rw [hv] at h2
          cases h1; cases h2
          exact ⟨rfl, v, rfl, Tr.conv (w := w) (w' := w.at x) rfl tv⟩
      · rw [List.getElem?_append_right (by rw [List.length_map]; omega), List.getElem?_replicate] at h1
        split at h1
        · cases h1; exact rfl
        · cases h1
  · have : i ≠ 0 := fun z => by subst z; simp at hi
    simp [this]
  · by_cases q : i = 0
    · by_cases q2 : j = 0
      · rw [q, q2]
      · simp [q2] at hb
    · simp [q] at ha
  · by_cases q : i = 0
    · simp only [q, if_true, List.mem_cons, List.not_mem_nil, or_false] at ha
      rcases ha with rfl | rfl
      · exact ⟨hx, g.tracked hx, fun hw => g.nw hx _ hw rfl⟩
      · exact ⟨hd, g.tracked hd, fun hw => g.nw hd _ hw rfl⟩
    · simp [q] at ha
section
variable {P : Program} {wd : World} {K : PySem.W.Frag} {mg : Str → Option Value} {base : Heap} {k : Nat} {f : Addr} {fd : FuncData} {ps N : List Str} {x qual : Str} {st : Stmt} {c : SC}
theorem fnI {cl : Str} {C : Addr} {n : Nat} (F : Fun K x qual st f fd) (S : FnScope N ps (defScope st)) (hn : ps.length = n + 1)
    (body : ∀ (w : Wd) (cdv : Value) (A : Around) (outer : List Env) (s : Shared) (H : Hp) (E : XK), (A.deeper (envOfC qual (defScope st) s.heap.objs.size f cdv)).guards = some [] → Room k (A.deeper (envOfC qual (defScope st) s.heap.objs.size f cdv)) →
      Passes (L2.CX P wd) (cxOf (L2.CX P wd) P wd K mg base N qual (defScope st) f cdv A outer s H E) E →
      CSs (cxOf (L2.CX P wd) P wd K mg base N qual (defScope st) f cdv A outer s H E) w E false (defBody st) c) : FnG P wd K mg base (k + 1) f fd ps (SpI K mg cl C n (runI cl c N.length)) := by
  have hpl : ps.length ≤ N.length := by have := congrArg List.length S.pre; rw [List.length_take] at this; omega
  refine fnG_of F S (fun vs H Q E h => by obtain ⟨_, _, _, _, _, _, vs', rfl, hl, _⟩ := h; rw [List.length_cons, hl, hn]) fun cdv A outer s H vs Q E gd hr h => ?_
  obtain ⟨w, ts, H0, Z, x, dx, vs', rfl, hl, m, g, hx, hd, ne, rfl, tr, hw⟩ := h
  refine ⟨_, (body (w.at x) cdv A outer s _ E gd hr (passes_call (takes_of rfl rfl rfl rfl) fun _ _ _ _ q => q)).ps, ?_⟩
  refine ⟨H0, Z, _, Z, _, env_startI (M := ⟨K, mg⟩) g hx hd ne m tr (by omega), G.wp_mono (G.wp_bind.mp hw) (fun kk hk => ?_) fun ex hxx cls d H' Z' gg q => hxx cls d H' Z' gg.un (ExR.conv (K := K) (mg := mg) (w := w.at x) (w' := w) rfl q)⟩
  cases kk with
  | nx r =>
    cases r with
    | nil => exact hk.elim
    | cons s0 r =>
      cases s0 with
      | me t =>
        refine fun σ' H' Z' o' R' s' => ?_
        obtain ⟨_, rt⟩ := R'.isMe (i := 0) (t := t) rfl
        exact hk (o' 0) H' Z' R'.gr.un (Root.conv (K := K) (mg := mg) (w := w.at x) (w' := w) rfl rt) fun a ha => R'.fr 0 a ha
      | un => exact hk.elim
      | dp t => exact hk.elim
      | fz t => exact hk.elim
      | ow t => exact hk.elim
  | bk r => exact hk.elim
  | ct r => exact hk.elim
  | rt t => exact hk.elim
end
section
variable {X : Cx} {w : Wd} {E : XK} {k n : Nat} {f C : Addr} {fd : FuncData} {ps : List Str} {sp : Sp} {x : Str} {p pos : Pos} {e : Expr} {es : List Expr} {kws : List Keyword} {cs : List Sl → G (List T)} {F : List T → G T}
theorem run_makeG {pins : List (Addr × Obj)} {σ : L2.St} {H : Hp} {s : Shared} {Q : VK} {us us2 : List Value} {vs2 : List V} {kw : List (Str × Value)} (M : Mk X.K C f) (Fk : FnG X.prog X.w X.K X.mg X.base k f fd ps sp) (gd : X.A.guards = some []) (hr : Room (k + 1) X.A)
    (hx : Passes (L2.CX X.prog X.w) X E) (I : Inv X pins σ H s) (r : Vals vs2 us2) (hb : ∀ (s : Shared) (v : Value), X.K.In s.heap → BindsTo s fd ⟨v :: us, kw⟩ (ps.zip (v :: us2)))
    (h : ∀ x dx, H x = none → H dx = none → dx ≠ x → sp (.ref x :: vs2) (upd (upd H dx (.own x)) x (.ins C dx [])) (fun v H2 => v = .non ∧ Q (.ref x) H2) E) :
    wpAny (model X.prog X.w) X.A (call (.ref C) us kw) (EP X pins σ Q) X.xe s := by
  have hq := h (s.heap.objs.size + 1) s.heap.objs.size (I.hok.fresh (Nat.le_succ _)) (I.hok.fresh (Nat.le_refl _)) (Nat.ne_of_lt (Nat.lt_succ_self _))
  have I2 := Inv.made (C := C) I
  have r2 : Vals (V.ref (s.heap.objs.size + 1) :: vs2) (Value.ref (s.heap.objs.size + 1) :: us2) := .cons rfl r
  refine wpAny_call (make_map (f := f) I.kIn M.makes M.init (beq_iff_eq.mp M.fn) (codeAny_mono (Fk.go (X.A.under (.builtin "type.__call__" ⟨.ref C :: us, kw⟩)) X.stack _ _ ⟨Value.ref (s.heap.objs.size + 1) :: us, kw⟩ (Value.ref (s.heap.objs.size + 1) :: us2) _ _ E gd (hr.make C us kw)
    (I2.env0.make C us kw) (hb _ _ I2.kIn) r2 hq) fun r s' hq' => ?_))
  cases r with
  | error e => exact hx pins σ _ _ e s' I2 hq'
  | ok fl =>
    cases fl with
    | ret u =>
      obtain ⟨v, H', I3, rv, ev, q3⟩ := I2.after hq'
      subst ev
      exact ⟨rv, ⟨V.ref (s.heap.objs.size + 1), H', I3, rfl, q3⟩⟩
    | next => exact False.elim hq'
    | brk => exact False.elim hq'
    | cont => exact False.elim hq'
theorem evMake {c : Str} {σ : L2.St} {H : Hp} {Q : VK} (m : X.mg c = some (.ref C)) (hl : Len cs n) (h : EvF X.km w E (cCall F cs) σ H Q) : EvA X.km w E cs σ H fun vs H1 => vs.length = n ∧ ∀ x dx, H1 x = none → H1 dx = none → dx ≠ x →
    SpI X.K X.mg c C n F (.ref x :: vs) (upd (upd H1 dx (.own x)) x (.ins C dx [])) (fun v H2 => v = .non ∧ Q (.ref x) H2) E := by
  obtain ⟨H0, Z0, r, Z, o, R, h⟩ := h
  have h' : (cs r >>= fun ts => if ts.length = n then F ts else .stuck).wp (PostF X.km w H Z Q) (PostX X.km w E H0 Z0) :=
    G.wp_bind.mpr (G.wp_mono (hl r _ _ (G.wp_bind.mp h)) (fun ts q => by rw [if_pos q.1]; exact q.2) fun _ x => x)
  refine evSeqA (P := fun H Z => PostF X.km w H Z Q) R (fun g => PostF.weak g) h' fun xs H1 Z1 ts R1 g1 t1 h1 => ?_
  by_cases e : ts.length = n
  · rw [if_pos e] at h1
    refine ⟨by rw [← t1.length, e], fun x dx hx hd ne => ?_⟩
    exact ⟨w, ts, H1, Z1, x, dx, xs, rfl, by rw [← t1.length, e], m, R1.good, hx, hd, ne, rfl, t1, G.wp_mono h1 (fun t ht oo H' Z' g rt f => ⟨rfl, ht x oo H' Z' g rt f⟩) fun ex hxx cls d H' Z' g q => hxx cls d H' Z' (R1.gr.trans g) q⟩
  · rw [if_neg e] at h1; exact h1.elim
/-- C(e, ..) -/
theorem cf_make {c : Str} (M : Mk X.K C f) (Fk : FnG X.prog X.w X.K X.mg X.base k f fd ps (SpI X.K X.mg c C n F)) (gd : X.A.guards = some []) (hr : Room (k + 1) X.A) (hx : Passes (L2.CX X.prog X.w) X E) (hg : Gl X c) (hm : X.mg c = some (.ref C)) (hb : Binds X.K fd ps []) (hn : ps.length = n + 1)
    (ha : CA X w E (e :: es) cs) (hl : Len cs n) (hdb : (c == ("__debug__" : Str)) = false := by decide) (he : starEach (e :: es) X.env = (false, eval e X.env) :: starEach es X.env := by rfl) (hpl : (backTo pos (starEach es X.env)).any (·.1) = false := by rfl) :
    CF X w E (.Call (.Name c p) (e :: es) [] pos) (cCall F cs) := by
  refine ⟨⟨fun pins s σ H Q I h => ?_⟩⟩
  refine wpAny_Call_Name_kw (ld_glob I hg hm ?_ hdb)
  refine PySem.W.callWith_K (h₀ := X.base) I.ok.mod.kin M.kp (thn (ha.pa.run pos pins s σ H _ I (evMake hm hl h)) fun us s1 ⟨vs, H1, I1, r, q0, q⟩ => ⟨I1.kIn, ?_⟩) he hpl
  refine run_makeG (us2 := us) M Fk gd hr hx I1 r (fun s v hk => ?_) q
  have hb' := hb s (v :: us) hk (by rw [List.append_nil, List.length_cons, ← r.length, q0, hn])
  rw [List.append_nil] at hb'
  exact hb'
end
end TL
end s_TL16
section s_TL17
set_option Elab.async false
set_option linter.all false
set_option maxRecDepth 100000
set_option maxHeartbeats 4000000
/-! TL17: own classes: ==, != by __eq__; properties; methods -/
namespace TL
open PySem PySem.Spec PyProof.Rows L2 PySem.Builtin
section
variable {prog : Program} {w : World} {A : Around} {E : Value → Shared → Prop} {s : Shared} {K : PySem.W.Frag} {x C f : Addr} {ox : Obj} {od : Option Obj} {b tb : Value}
theorem ifBoundB {M : Model} {name : Str} {id : String} {args : List Value} {Q : Option Value → Shared → Prop} (X : K.In s.heap) (I : PySem.W.InstAt s.heap x ox C od) (hs : PySem.W.findIn K (.ref C) name = some (some (.builtin id)))
    (hb : ∀ self, bindSpecial (.builtin id) self = pure (.builtin id, [self])) (h : wpAny M A (call (.builtin id) (.ref x :: args)) (fun v => Q (some v)) E s) : wpAny M A (callSpecialIfBound? (.ref x) name args) Q E s := by
  simp only [callSpecialIfBound?, bindSpecialIfBound?]
  refine wpAny_holding (wpAny_bind (wpAny_bind (wpAny_bind (I.type.here ((PySem.W.looks_findIn X hs).here ?_)))))
  refine wpAny_bind (wpAny_askSetting (wpAny_ite ?_))
  have fin : wpAny M A (call (.builtin id) ([.ref x] ++ args) >>= fun v => pure (some v)) Q E s := wpAny_bind (wpAny_mono h (fun v s' h' => wpAny_pure h') fun _ _ h' => h')
  split
  · exact wpAny_bind ((PySem.W.Looks.of_pure (hb _)).here (wpAny_pure (by exact fin)))
  · exact wpAny_tryCatch (wpAny_bind ((PySem.W.Looks.of_pure (hb _)).here (wpAny_pure (by exact fin))))
theorem ne_bind (self : Value) : bindSpecial (.builtin "object.__ne__") self = pure (.builtin "object.__ne__", [self]) := F.slot_object_ne.bind self
/-- x != b of an own class with __eq__ and without __ne__ -/
theorem ne_K {Q : Value → Shared → Prop} (hu : A.units + 1 < cLine) (X : K.In s.heap) (I : PySem.W.InstAt s.heap x ox C od) (hb : PySem.W.Looks (model prog w) s.heap (typeOf b) tb) (hn : PySem.W.notFirst K C tb = true)
    (hne : PySem.W.findIn K (.ref C) "__ne__" = some (some (.builtin "object.__ne__"))) (hm : PySem.W.mroIn K C (.type "object") = some true) (hs : PySem.W.findIn K (.ref C) "__eq__" = some (some (.ref f))) (hf : PySem.W.isFn K (.ref f) = true)
    (h : wpAny (model prog w) A.in1 (call (.ref f) [.ref x, b]) (fun v s' => ∃ r, v = .bool r ∧ Q (.bool (!r)) s') E s) : wpAny (model prog w) A (richCompare .NotEq (.ref x) b) Q E s := by
  have one : wpAny (model prog w) A (tryCompare (.ref x) "__ne__" b) (fun r s' => ∃ v, r = some v ∧ Q v s') E s := by
    unfold tryCompare
    refine wpAny_bind (ifBoundB X I hne ne_bind ?_)
    refine wpAny_call (codeAny_call_builtin F.slot_object_ne.plain F.entry_object_ne (PySem.W.check_slot (i := "object.__ne__") (owner := "object") (n := "__ne__") (by decide +kernel) (by decide +kernel) (I.type.andThen (PySem.W.looks_mroIn X hm)) (F.args_object_ne_2 _ _) ?_))
    unfold Builtin.«object.__ne__»
    refine wpAny_bind (m := slotArgs "__ne__" 1 _) (wpAny_pure ?_)
    refine wpAny_bind (m := cRoomFor _ _) (wpAny_cRoomFor (show A.in1.units < cLine from hu) ?_)
    refine wpAny_bind (m := callSpecialIfBound? (.ref x) (Str.ofString "__eq__") _) (PySem.W.ifBound_K X I hs hf (wpAny_mono h (fun r s' hq => ?_) fun _ _ y => y))
    obtain ⟨rb, rfl, hq⟩ := hq
    refine wpAny_bind (wpAny_truthy_bool (wpAny_pure ?_))
    first | exact ⟨_, rfl, wpAny_pure ⟨_, rfl, hq⟩⟩ | exact wpAny_pure ⟨_, rfl, hq⟩ | exact ⟨_, rfl, hq⟩
  unfold richCompare
  simp only [oneThing_ref]
  refine wpAny_holding (wpAny_bind (wpAny_cRoomFor (Nat.lt_of_succ_lt hu) ?_))
  rw [cmpInfo_NotEq]
  dsimp only
  refine wpAny_bind (I.type.here (wpAny_bind (hb.here ?_)))
  split
  · rename_i q
    have e : PySem.W.subIn K tb (.ref C) = some false := by
      rcases Bool.or_eq_true_iff.mp hn with e | e
      · rw [beq_iff_eq.mp e] at q; simp at q
      · exact beq_iff_eq.mp e
    refine wpAny_bind ((PySem.W.looks_subIn X e).here ?_)
    simp only [Bool.false_eq_true, if_false]
    refine wpAny_bind (wpAny_mono one (fun r s' z => ?_) fun _ _ e => e)
    obtain ⟨v, rfl, hq⟩ := z
    exact wpAny_pure hq
  · refine wpAny_bind (wpAny_pure ?_)
    simp only [Bool.false_eq_true, if_false]
    refine wpAny_bind (wpAny_mono one (fun r s' z => ?_) fun _ _ e => e)
    obtain ⟨v, rfl, hq⟩ := z
    exact wpAny_pure hq
end

/-- what is asked of a class with __eq__ -/
structure EqF (K : PySem.W.Frag) (mg : Str → Option Value) (c : Str) (C f : Addr) : Prop where
  ins : InsF K mg c C
  eq : PySem.W.findIn K (.ref C) "__eq__" = some (some (.ref f))
  fn : PySem.W.isFn K (.ref f) = true
  ne : PySem.W.findIn K (.ref C) "__ne__" = some (some (.builtin "object.__ne__"))
  first : ∀ a ∈ aTys, PySem.W.notFirst K C (.type a) = true
theorem notFirst_self {K : PySem.W.Frag} {C : Addr} : PySem.W.notFirst K C (.ref C) = true := by simp [PySem.W.notFirst]
def rCmpI (K : PySem.W.Frag) (C : Addr) (sp : Sp) (E : XK) (neg : Bool) : R2 := fun x y H Q => ∃ a dx gs tv, x = .ref a ∧ H a = some (.ins C dx gs) ∧ TyX K H y tv ∧ PySem.W.notFirst K C tv = true ∧ sp [x, y] H (fun v H' => ∃ r, v = .bl r ∧ Q (.bl (r != neg)) H') E
section
variable {X : Cx} {w : Wd} {E : XK} {k : Nat} {f C : Addr} {fd : FuncData} {ps : List Str} {sp : Sp} {c : Str} {ea eb : Expr} {ca cb : EC} {pos : Pos} {F : List T → G T}
theorem op_eqIns (EF : EqF X.K X.mg c C f) (Fk : FnG X.prog X.w X.K X.mg X.base k f fd ps sp) (gd : X.A.guards = some []) (hr : Room k X.A) (hb : Binds X.K fd ps []) (hx : Passes (L2.CX X.prog X.w) X E) : OpR X (compareOp .Eq) (rCmpI X.K C sp E false) := by
  intro pins s σ H x y v u Q I rx ry h
  obtain ⟨a, dx, gs, tv, rfl, ha, ty, nf, hsp⟩ := h
  cases rx
  obtain ⟨mA, O, _⟩ := ins_get I.hok ha
  obtain ⟨od, J, _⟩ := O.look
  obtain ⟨P, kx, hp, _⟩ := kit_of I ry ty
  obtain ⟨m, hF⟩ := I.fr
  refine PySem.W.cmp_K (op := .Eq) (tb := tv) hr.units0 hF I.ok.mod.kin J (kx.ty _ _ I.kIn hp) nf EF.eq EF.fn ?_
  have hr1 : Vals [V.ref a, y] [Value.ref a, u] := .cons rfl (.cons ry .nil)
  refine wpAny_mono (runG Fk gd hr hb hx I hr1 hsp) (fun r s' hq => ?_) fun _ _ z => z
  obtain ⟨z, H', I', rz, b, rfl, q⟩ := hq
  cases rz
  exact ⟨.bl b, H', I', rfl, by simpa using q⟩
theorem op_neIns (EF : EqF X.K X.mg c C f) (Fk : FnG X.prog X.w X.K X.mg X.base k f fd ps sp) (gd : X.A.guards = some []) (hr : Room (k + 1) X.A) (hb : Binds X.K fd ps []) (hx : Passes (L2.CX X.prog X.w) X E) : OpR X (compareOp .NotEq) (rCmpI X.K C sp E true) := by
  intro pins s σ H x y v u Q I rx ry h
  obtain ⟨a, dx, gs, tv, rfl, ha, ty, nf, hsp⟩ := h
  cases rx
  obtain ⟨mA, O, _⟩ := ins_get I.hok ha
  obtain ⟨od, J, _⟩ := O.look
  obtain ⟨P, kx, hp, _⟩ := kit_of I ry ty
  have hu : X.A.units + 1 < cLine := by have := hr.units; omega
  refine ne_K (tb := tv) hu I.kIn J (kx.ty _ _ I.kIn hp) nf EF.ne EF.ins.hm EF.eq EF.fn ?_
  have hr1 : Vals [V.ref a, y] [Value.ref a, u] := .cons rfl (.cons ry .nil)
  have hl : [Value.ref a, u].length = ps.length := by rw [← Fk.len _ _ _ _ hsp]; rfl
  have hbs := hb s [Value.ref a, u] I.kIn (by rw [List.append_nil]; exact hl)
  rw [List.append_nil] at hbs
  refine wpAny_call (codeAny_mono (Fk.go X.A.in1 X.stack s H ⟨[.ref a, u], []⟩ [.ref a, u] [.ref a, y] _ E gd hr.in1 I.env0.in1 hbs hr1 hsp) fun res s' hq => ?_)
  rcases res with e | (_ | _ | _ | r)
  · exact hx pins σ H s e s' I hq
  · exact False.elim hq
  · exact False.elim hq
  · exact False.elim hq
  · obtain ⟨z, H', I', rz, b, rfl, q⟩ := I.after hq
    cases rz
    exact ⟨b, rfl, .bl (!b), H', I', rfl, by simpa using q⟩
def cmpOk (c0 : Str) : T → Bool
  | .ins d _ => decide (d = c0)
  | t => (tyName t).isSome
/-- the two trees' comparison by the def's computation -/
def fCmpI (c0 : Str) (neg : Bool) (F : List T → G T) : T → T → G T := fun a b => match a with
  | .ins c fs => if c = c0 ∧ cmpOk c0 b = true then F [.ins c fs, b] >>= fun t => (match t with | .bl r => .ret (.bl (r != neg)) | _ => .stuck) else .stuck
  | _ => .stuck
theorem t2_cmpI {neg : Bool} (EF : EqF X.K X.mg c C f) : T2 X.km w E (rCmpI X.K C (SpT X.K X.mg 2 F) E neg) (fCmpI c neg F) := fun H0 Z0 r σ H Z o R a b x y Q ta tb hw => by
  cases ta with
  | @ins c1 fs C1 p dx gs m h2 h3 tf =>
    by_cases hc : c1 = c ∧ cmpOk c b = true
    · have hw' : (if c1 = c ∧ cmpOk c b = true then F [.ins c1 fs, b] >>= fun t => (match t with | .bl r => G.ret (T.bl (r != neg)) | _ => .stuck) else .stuck).wp (Post X.km w H Z Q) (PostX X.km w E H0 Z0) := hw
      rw [if_pos hc] at hw'
      obtain ⟨rfl, hb⟩ := hc
      have hC : C1 = C := by have z : X.mg c1 = some (.ref C1) := m; rw [EF.ins.mg] at z; cases z; rfl
      subst hC
      have hty : ∃ tv, TyX X.K H y tv ∧ PySem.W.notFirst X.K C1 tv = true := by
        by_cases hi : ∃ d gs, b = .ins d gs
        · obtain ⟨d, gs', rfl⟩ := hi
          have hd : d = c1 := of_decide_eq_true hb
          subst hd
          cases tb with
          | @ins _ _ D p2 dx2 gs2 m2 q2 q3 tf2 =>
            have hD : D = C1 := by have z : X.mg d = some (.ref D) := m2; rw [EF.ins.mg] at z; cases z; rfl
            subst hD
            exact ⟨_, .base (.ins (R.good.zh _ _ q2) EF.ins.cls EF.ins.ha EF.ins.hn EF.ins.ht EF.ins.hm), notFirst_self⟩
        · have hs : (tyName b).isSome = true := by
            cases b <;> first | exact absurd ⟨_, _, rfl⟩ hi | exact hb
          obtain ⟨n, hn⟩ := Option.isSome_iff_exists.mp hs
          exact ⟨_, ty_of (M := X.km) R.good tb hn, EF.first _ (tyName_in hn)⟩
      obtain ⟨tv, ty, nf⟩ := hty
      refine ⟨p, dx, gs, tv, rfl, R.good.zh _ _ h2, ty, nf, w, [.ins c1 fs, b], Z, rfl, R.good, .cons (.ins m h2 h3 tf) (.cons tb .nil), G.wp_mono (G.wp_bind.mp hw') (fun t ht v H' Z' g tr => ?_) fun ex hx cls d H' Z' g q => hx cls d H' Z' (R.gr.trans g) q⟩
      cases t with
      | bl rr =>
        cases tr
        exact ⟨rr, rfl, ht _ H' Z' g (.bl _)⟩
      | _ => exact False.elim ht
    · have hw' : (if c1 = c ∧ cmpOk c b = true then F [.ins c1 fs, b] >>= fun t => (match t with | .bl r => G.ret (T.bl (r != neg)) | _ => .stuck) else .stuck).wp (Post X.km w H Z Q) (PostX X.km w E H0 Z0) := hw
      rw [if_neg hc] at hw'
      exact False.elim hw'
  | _ => exact False.elim hw
end
end TL
end s_TL17
section s_TL18
set_option Elab.async false
set_option linter.all false
set_option maxRecDepth 100000
set_option maxHeartbeats 4000000
/-! TL18: properties, methods, classes called with keywords -/
namespace TL
open PySem PySem.Spec PyProof.Rows L2
theorem Trf.lookNone {K : PySem.W.Frag} {mg : Str → Option Value} {w : Wd} {Z : Hp} {f : Str} : ∀ {fs : List (Str × T)} {gs : List (Str × V)}, Trf K mg w Z fs gs → fs.lookup f = none → gs.lookup f = none
  | _, _, .nil, _ => rfl
  | _, _, @Trf.cons _ _ _ _ g t1 v1 fs gs a b, e => by
    rw [List.lookup_cons] at e ⊢
    by_cases q : (f == g) = true
    · rw [q] at e; cases e
    · rw [Bool.eq_false_iff.mpr q] at e ⊢; exact Trf.lookNone b e
section
variable {X : Cx} {w : Wd} {E : XK} {k n : Nat} {f C p g : Addr} {fd : FuncData} {ps ks : List Str} {sp : Sp} {c m own x : Str} {e o : Expr} {es : List Expr} {kws : List Keyword} {ca co : EC} {cs ck : List Sl → G (List T)} {pos apos pn : Pos} {F : List T → G T}
/-- e.f, a property that gives an attribute -/
theorem ce_prop {ds : List Value} (hC : X.mg c = some (.ref C)) (cl : Cls X.K C) (hp : PropOf X.K C m p g) (Fk : FnOk X.prog X.w X.K X.mg X.base (L2.CX X.prog X.w) k g fd ps (getSp C own)) (hr : Room (k + 1) X.A) (hb : Binds X.K fd ps []) (hx : Passes (L2.CX X.prog X.w) X.nox (fun _ _ _ => False)) (he : CE X w E e ca)
    (hab : attributeBase e m X.env (eval e X.env) = eval e X.env := by rfl) : CE X w E (.Attribute e m pos) (cFld c own ca) := by
  refine ⟨peImp (pe_prop he.pe cl hp Fk hr hb (dvs := []) .nil hx hab) fun σ H Q h => ?_⟩
  obtain ⟨H0, Z0, r, Z, o, R, h⟩ := h
  refine evSeq (P := fun H Z => Post X.km w H Z Q) (PX := fun _ => True) R (fun g => Post.weak g) h fun x H1 Z1 a R1 g1 t1 h1 => ?_
  cases t1 with
  | @ins d fs D p dx gs m h2 h3 tf =>
    have h1' : (if d = c then (match fs.lookup own with | some t => G.ret t | none => .stuck) else .stuck).wp (Post X.km w H1 Z1 Q) (PostX X.km w E H0 Z0) := h1
    by_cases ed : d = c
    · rw [if_pos ed] at h1'
      subst ed
      have hD : D = C := by have z : X.mg d = some (.ref D) := m; rw [hC] at z; cases z; rfl
      subst hD
      cases ef : fs.lookup own with
      | none => rw [ef] at h1'; exact False.elim h1'
      | some t =>
        rw [ef] at h1'
        obtain ⟨v, hv, tv⟩ := tf.look ef
        exact ⟨p, dx, gs, rfl, R1.good.zh _ _ h2, p, dx, gs, v, rfl, R1.good.zh _ _ h2, hv, h1' v H1 Z1 (Grow.refl R1.good) tv⟩
    · rw [if_neg ed] at h1'; exact False.elim h1'
  | _ => exact False.elim h1
theorem passes_false : Passes (L2.CX X.prog X.w) X (fun _ _ _ => False) := fun pins σ H s e s' I h => by
  obtain ⟨cls, d, H', h1, h2⟩ := h
  first | exact False.elim h1 | exact False.elim h2 | (simp at h2) | (simp at h1)
/-- o.m(e, ..), o an instance -/
def cMeth (c m : Str) (F : List T → G T) (co : EC) (cs : List Sl → G (List T)) : EC := fun r => co r >>= fun s => match s with
  | .ins d fs => if d = c ∧ fs.lookup m = none then cs r >>= fun ts => F (.ins d fs :: ts) else .stuck
  | _ => .stuck
theorem pe_methG {pl : Sem Bool} {to : TE} {t : TA} (he : PE X o to) (cl : Cls X.K C) (hm : Meth X.K C m f) (Fk : FnG X.prog X.w X.K X.mg X.base k f fd ps sp) (gd : X.A.guards = some []) (hr : Room k X.A) (hb : Binds X.K fd ps []) (hx : Passes (L2.CX X.prog X.w) X E) (ha : PA X (e :: es) t)
    (hst : starEach (e :: es) X.env = (false, eval e X.env) :: starEach es X.env := by rfl) (hpl : (backTo pos (starEach es X.env)).any (·.1) = false := by rfl)
    (ht : eval (.Call (.Attribute o m apos) (e :: es) [] pos) X.env = (do
      let ov ← eval o X.env
      standAt apos.atName
      let (f, first) ← holding [ov] (getMethod ov m pl)
      callWith pos f first (backTo pos (starEach (e :: es) X.env)) (backToKw pos (keywordEach [] X.env))) := by rfl) :
    PE X (.Call (.Attribute o m apos) (e :: es) [] pos) (tMeth C m sp [] E to t) := by
  refine ⟨fun pins s σ H Q I h => ?_⟩
  refine PySem.W.methodCall_KW (pl := pl) (thn (he.run pins s σ H _ I h) fun u s1 ⟨x, H1, I1, rx, a, dx, fs, ex, ea, l, q⟩ => ?_) ht
  subst ex
  obtain rfl : u = Value.ref a := rx
  refine getmeth_ok I1 ea cl hm l ?_
  refine PySem.W.callWith_K (first := [.ref a]) (h₀ := X.base) I.ok.mod.kin hm.kp (thn (ha.run pos pins s1 σ H1 _ I1 q) fun us s2 ⟨vs, H2, I2, r, q2⟩ => ⟨I2.kIn, ?_⟩) hst hpl
  have q3 : sp (.ref a :: vs) H2 Q E := by have z := q2; simp only [List.append_nil] at z; exact z
  exact runG (us := .ref a :: us) (vs := .ref a :: vs) Fk gd hr hb hx I2 (.cons rfl r) q3
theorem pe_methG0 {pl : Sem Bool} {to : TE} (he : PE X o to) (cl : Cls X.K C) (hm : Meth X.K C m f) (Fk : FnG X.prog X.w X.K X.mg X.base k f fd ps sp) (gd : X.A.guards = some []) (hr : Room k X.A) (hb : Binds X.K fd ps []) (hx : Passes (L2.CX X.prog X.w) X E)
    (ht : eval (.Call (.Attribute o m apos) [] [] pos) X.env = (do
      let ov ← eval o X.env
      standAt apos.atName
      let (f, first) ← holding [ov] (getMethod ov m pl)
      callWith pos f first (backTo pos (starEach [] X.env)) (backToKw pos (keywordEach [] X.env))) := by rfl) :
    PE X (.Call (.Attribute o m apos) [] [] pos) (tMeth C m sp [] E to tNil) := by
  refine ⟨fun pins s σ H Q I h => ?_⟩
  refine PySem.W.methodCall_KW (pl := pl) (thn (he.run pins s σ H _ I h) fun u s1 ⟨x, H1, I1, rx, a, dx, fs, ex, ea, l, q⟩ => ?_) ht
  subst ex
  obtain rfl : u = Value.ref a := rx
  refine getmeth_ok I1 ea cl hm l ?_
  exact PySem.W.callWith_K0 (first := [.ref a]) I1.kIn hm.kp (runG (us := [.ref a]) (vs := [.ref a]) Fk gd hr hb hx I1 (.cons rfl .nil) q)
theorem evMeth {σ : L2.St} {H : Hp} {Q : VK} (hC : X.mg c = some (.ref C)) (hl : Len cs n) (h : EvE X.km w E (cMeth c m F co cs) σ H Q) :
    tMeth C m (SpT X.K X.mg (n + 1) F) [] E (EvE X.km w E co) (EvA X.km w E cs) σ H Q := by
  obtain ⟨H0, Z0, r, Z, o, R, h⟩ := h
  refine evSeq (P := fun H Z => Post X.km w H Z Q) (PX := fun _ => True) R (fun g => Post.weak g) h fun x H1 Z1 a R1 g1 t1 h1 => ?_
  cases t1 with
  | @ins d fs D p dx gs m' h2 h3 tf =>
    have h1' : (if d = c ∧ fs.lookup m = none then cs r >>= fun ts => F (.ins d fs :: ts) else .stuck).wp (Post X.km w H1 Z1 Q) (PostX X.km w E H0 Z0) := h1
    by_cases ed : d = c ∧ fs.lookup m = none
    · rw [if_pos ed] at h1'
      obtain ⟨rfl, hn⟩ := ed
      have hD : D = C := by have z : X.mg d = some (.ref D) := m'; rw [hC] at z; cases z; rfl
      subst hD
      refine ⟨p, dx, gs, rfl, R1.good.zh _ _ h2, tf.lookNone hn, ?_⟩
      have h'' : (cs r >>= fun ts => if ts.length = n then F (.ins d fs :: ts) else .stuck).wp (Post X.km w H1 Z1 Q) (PostX X.km w E H0 Z0) :=
        G.wp_bind.mpr (G.wp_mono (hl r _ _ (G.wp_bind.mp h1')) (fun ts q => by rw [if_pos q.1]; exact q.2) fun _ x => x)
      refine evSeqA (P := fun H Z => Post X.km w H Z Q) R1 (fun g => Post.weak g) h'' fun xs H2 Z2 ts R2 g2 t2 h3' => ?_
      by_cases e : ts.length = n
      · rw [if_pos e] at h3'
        refine ⟨w, .ins d fs :: ts, Z2, by rw [List.append_nil, List.length_cons, ← t2.length, e], R2.good, by rw [List.append_nil]; exact .cons ((Tr.ins m' h2 h3 tf).mono g2.zz) t2, G.wp_mono h3' (fun t ht v H' Z' g tr => ht v H' Z' g tr) fun ex hx cls d H' Z' g q => hx cls d H' Z' (R2.gr.trans g) q⟩
      · rw [if_neg e] at h3'; exact False.elim h3'
    · rw [if_neg ed] at h1'; exact False.elim h1'
  | _ => exact False.elim h1
theorem ce_methG {pl : Sem Bool} (he : CE X w E o co) (hC : X.mg c = some (.ref C)) (cl : Cls X.K C) (hm : Meth X.K C m f) (Fk : FnG X.prog X.w X.K X.mg X.base k f fd ps (SpT X.K X.mg (n + 1) F)) (gd : X.A.guards = some []) (hr : Room k X.A) (hb : Binds X.K fd ps []) (hx : Passes (L2.CX X.prog X.w) X E)
    (ha : CA X w E (e :: es) cs) (hl : Len cs n) (hst : starEach (e :: es) X.env = (false, eval e X.env) :: starEach es X.env := by rfl) (hpl : (backTo pos (starEach es X.env)).any (·.1) = false := by rfl)
    (ht : eval (.Call (.Attribute o m apos) (e :: es) [] pos) X.env = (do
      let ov ← eval o X.env
      standAt apos.atName
      let (f, first) ← holding [ov] (getMethod ov m pl)
      callWith pos f first (backTo pos (starEach (e :: es) X.env)) (backToKw pos (keywordEach [] X.env))) := by rfl) : CE X w E (.Call (.Attribute o m apos) (e :: es) [] pos) (cMeth c m F co cs) :=
  ⟨peImp (pe_methG (pl := pl) he.pe cl hm Fk gd hr hb hx ha.pa hst hpl ht) fun σ H Q h => evMeth hC hl h⟩

/-! ### a class called with keywords only -/
structure CK (X : Cx) (w : Wd) (E : XK) (kws : List Keyword) (c : List Sl → G (List T)) : Prop where
  pk : PK X kws (EvA X.km w E c)
theorem pkImp {t t' : TA} (h : PK X kws t) (f : ∀ σ H Q, t' σ H Q → t σ H Q) : PK X kws t' := ⟨fun pos pins s σ H Q I hw => h.run pos pins s σ H Q I (f σ H Q hw)⟩
theorem ck_nil : CK X w E [] caNil := ⟨pkImp pk_nil fun σ H Q ⟨H0, Z0, r, Z, o, R, h⟩ => h [] H Z (Grow.refl R.good) .nil⟩
theorem ck_cons {nm : Option Str} {kpos : Pos} {ce : EC} (h1 : CE X w E e ce) (h2 : CK X w E kws cs) : CK X w E (⟨nm, e, kpos⟩ :: kws) (caCons ce cs) := by
  refine ⟨pkImp (pk_cons h1.pe h2.pk) fun σ H Q h => ?_⟩
  obtain ⟨H0, Z0, r, Z, o, R, h⟩ := h
  refine evSeq (P := fun H Z => PostA X.km w H Z Q) (PX := fun _ => True) R (fun g => PostA.weak g) h fun x H1 Z1 a R1 g1 t1 h1 => ?_
  refine evSeqA (P := fun H Z => PostA X.km w H Z Q) R1 (fun g => PostA.weak g) h1 fun xs H2 Z2 ts R2 g2 t2 h2 => ?_
  exact h2 _ H2 Z2 (Grow.refl R2.good) (.cons (t1.mono g2.zz) t2)
/-- the keywords' values in the parameters' order -/
def pickL {α : Type} (perm : List Nat) (l : List α) : List α := perm.filterMap (l[·]?)
theorem pick_vals {vs : List V} {us : List Value} (h : Vals vs us) : ∀ perm, Vals (pickL perm vs) (pickL perm us)
  | [] => .nil
  | i :: r => by
    have hl := h.length
    unfold pickL
    rw [List.filterMap_cons, List.filterMap_cons]
    cases e : vs[i]? with
    | none =>
      have : us[i]? = none := by rw [List.getElem?_eq_none_iff] at e ⊢; omega
      rw [this]; exact pick_vals h r
    | some v =>
      obtain ⟨u, hu, ru⟩ := h.get e
      rw [hu]; exact .cons ru (pick_vals h r)
theorem pick_trs {K : PySem.W.Frag} {mg : Str → Option Value} {Z : Hp} {ts : List T} {vs : List V} (h : Trs K mg w Z ts vs) : ∀ perm, Trs K mg w Z (pickL perm ts) (pickL perm vs)
  | [] => .nil
  | i :: r => by
    have hl := h.length
    unfold pickL
    rw [List.filterMap_cons, List.filterMap_cons]
    cases e : ts[i]? with
    | none =>
      have : vs[i]? = none := by rw [List.getElem?_eq_none_iff] at e ⊢; omega
      rw [this]; exact pick_trs h r
    | some t =>
      obtain ⟨v, hv, tv⟩ := h.get e
      rw [hv]; exact .cons tv (pick_trs h r)
/-- how keywords bind -/
def KwB (K : PySem.W.Frag) (fd : FuncData) (ps ks : List Str) (perm : List Nat) : Prop := ∀ (s : Shared) (v : Value) (ws : List Value), K.In s.heap → ws.length = ks.length → BindsTo s fd ⟨[v], ks.zip ws⟩ (ps.zip (v :: pickL perm ws))
/-- C(k = e, ..) -/
theorem cf_makeK {perm : List Nat} (M : Mk X.K C f) (Fk : FnG X.prog X.w X.K X.mg X.base k f fd ps (SpI X.K X.mg c C n F)) (gd : X.A.guards = some []) (hr : Room (k + 1) X.A) (hx : Passes (L2.CX X.prog X.w) X E) (hg : Gl X c) (hm : X.mg c = some (.ref C)) (hb : KwB X.K fd ps ks perm) (hn : perm.length = n) (hp : ∀ i ∈ perm, i < ks.length)
    (ha : CK X w E kws ck) (hl : Len ck ks.length) (hall : (backToKw pos (keywordEach kws X.env)).all (·.1.isSome) = true := by rfl) (hks : (backToKw pos (keywordEach kws X.env)).filterMap (·.1) = ks := by rfl) (hdb : (c == ("__debug__" : Str)) = false := by decide)
    (hpl : ((backTo pos (starEach [] X.env)).any (·.1) || (backToKw pos (keywordEach kws X.env)).any (·.1.isNone)) = false := by rfl) :
    CF X w E (.Call (.Name c pn) [] kws pos) (cCall (fun ts => F (pickL perm ts)) ck) := by
  refine ⟨⟨fun pins s σ H Q I h => ?_⟩⟩
  refine wpAny_Call_Name_kw (ld_glob I hg hm ?_ hdb)
  refine PySem.W.callWith_KW0 (h₀ := X.base) I.ok.mod.kin M.kp hall ?_ hpl
  have hev : EvA X.km w E ck σ H fun vs H1 => vs.length = ks.length ∧ ∀ x dx, H1 x = none → H1 dx = none → dx ≠ x →
      SpI X.K X.mg c C n F (.ref x :: pickL perm vs) (upd (upd H1 dx (.own x)) x (.ins C dx [])) (fun v H2 => v = .non ∧ Q (.ref x) H2) E := by
    obtain ⟨H0, Z0, r, Z, o, R, h⟩ := h
    have h' : (ck r >>= fun ts => if ts.length = ks.length then F (pickL perm ts) else .stuck).wp (PostF X.km w H Z Q) (PostX X.km w E H0 Z0) :=
      G.wp_bind.mpr (G.wp_mono (hl r _ _ (G.wp_bind.mp h)) (fun ts q => by rw [if_pos q.1]; exact q.2) fun _ x => x)
    refine evSeqA (P := fun H Z => PostF X.km w H Z Q) R (fun g => PostF.weak g) h' fun xs H1 Z1 ts R1 g1 t1 h1 => ?_
    by_cases e : ts.length = ks.length
    · rw [if_pos e] at h1
      refine ⟨by rw [← t1.length, e], fun x dx hx hd ne => ?_⟩
      have hpl : (pickL perm xs).length = n := by
        rw [← hn]
        have hlx : xs.length = ks.length := by rw [← t1.length, e]
        have : ∀ perm : List Nat, (∀ i ∈ perm, i < xs.length) → (pickL perm xs).length = perm.length := fun perm => by
          induction perm with
          | nil => intro _; rfl
          | cons i r ih =>
            intro q
            unfold pickL
            rw [List.filterMap_cons, List.getElem?_eq_getElem (q i (by simp))]
            exact congrArg Nat.succ (ih fun j hj => q j (by simp [hj]))
        exact this perm fun i hi => by rw [hlx]; exact hp i hi
      exact ⟨w, pickL perm ts, H1, Z1, x, dx, pickL perm xs, rfl, hpl, hm, R1.good, hx, hd, ne, rfl, pick_trs t1 perm, G.wp_mono h1 (fun t ht oo H' Z' g rt f => ⟨rfl, ht x oo H' Z' g rt f⟩) fun ex hxx cls d H' Z' g q => hxx cls d H' Z' (R1.gr.trans g) q⟩
    · rw [if_neg e] at h1; exact h1.elim
  refine thn (ha.pk.run pos pins s σ H _ I hev) fun ws s2 ⟨zs, H2, I2, rz, l2, q2⟩ => ⟨I2.kIn, ?_⟩
  rw [hks]
  exact run_makeG (us := []) (us2 := pickL perm ws) M Fk gd hr hx I2 (pick_vals rz perm) (fun s v hk => hb s v ws hk (by rw [← rz.length, l2])) q2
end
end TL
end s_TL18
section s_TL19
set_option Elab.async false
set_option linter.all false
set_option maxRecDepth 100000
set_option maxHeartbeats 4000000
/-! TL19: dicts: displays, copies, walks; anything that is walked -/
namespace TL
open PySem PySem.Spec PyProof.Rows L2
section
variable {X : Cx} {w : Wd} {E : XK} {tg e e2 : Expr} {p pos tpos apos cpos : Pos} {ca cb : EC} {cs : List Sl → G (List T)} {H0 Z0 H Z : Hp} {r : List Sl} {σ : L2.St} {o : Nat → List Addr}
/-! ### displays -/
def cPairs : List (EC × EC) → List Sl → G (List (T × T))
  | [], _ => .ret []
  | (a, b) :: l, r => a r >>= fun k => b r >>= fun v => cPairs l r >>= fun kts => .ret ((k, v) :: kts)
def trOf (X : Km) (w : Wd) (E : XK) (l : List (EC × EC)) : List (TE × TE) := l.map fun p => (EvE X.km w E p.1, EvE X.km w E p.2)
structure CPs (X : Cx) (w : Wd) (E : XK) (pos : Pos) (keys : List (Option Expr)) (values : List Expr) (l : List (EC × EC)) : Prop where
  pps : PPs X pos keys values (trOf X.km w E l)
theorem cps_nil : CPs X w E pos [] [] [] := ⟨pps_nil⟩
theorem cps_cons {ks : List (Option Expr)} {vs : List Expr} {l : List (EC × EC)} (h1 : CE X w E e ca) (h2 : CE X w E e2 cb) (h3 : CPs X w E pos ks vs l) : CPs X w E pos (some e :: ks) (e2 :: vs) ((ca, cb) :: l) := ⟨pps_cons h1.pe h2.pe h3.pps⟩
inductive Trp (K : PySem.W.Frag) (mg : Str → Option Value) (w : Wd) (Z : Hp) : List (T × T) → List (V × V) → Prop
  | nil : Trp K mg w Z [] []
  | cons {a b x y l m} : Tr K mg w Z a x → Tr K mg w Z b y → Trp K mg w Z l m → Trp K mg w Z ((a, b) :: l) ((x, y) :: m)
theorem Trp.mono {K : PySem.W.Frag} {mg : Str → Option Value} {w : Wd} {Z Z' : Hp} (s : Sub Z Z') : ∀ {l m}, Trp K mg w Z l m → Trp K mg w Z' l m
  | _, _, .nil => .nil
  | _, _, .cons a b r => .cons (a.mono s) (b.mono s) (Trp.mono s r)
theorem evPairs : ∀ (l : List (EC × EC)) {H Z : Hp} {β : Type} {k : List (T × T) → G β} {P : Hp → Hp → β → Prop} {Q : List (V × V) → Hp → Prop}, EnvR X.km w H0 Z0 r σ H Z o → (∀ {H Z H1 Z1 b}, Grow w H Z H1 Z1 → P H Z b → P H1 Z1 b) →
    (cPairs l r >>= k).wp (P H Z) (PostX X.km w E H0 Z0) →
    (∀ ps H1 Z1 kts, EnvR X.km w H0 Z0 r σ H1 Z1 o → Grow w H Z H1 Z1 → Trp X.K X.mg w Z1 kts ps → (k kts).wp (P H1 Z1) (PostX X.km w E H0 Z0) → Q ps H1) → tPairs (trOf X.km w E l) σ H Q
  | [], H, Z, β, k, P, Q, R, hP, h, fin => fin [] H Z [] R (Grow.refl R.good) .nil h
  | (a, b) :: l, H, Z, β, k, P, Q, R, hP, h, fin => by
    have h' : (a r >>= fun x => b r >>= fun y => cPairs l r >>= fun kts => k ((x, y) :: kts)).wp (P H Z) (PostX X.km w E H0 Z0) := by
      have e : (cPairs ((a, b) :: l) r >>= k) = (a r >>= fun x => b r >>= fun y => cPairs l r >>= fun kts => k ((x, y) :: kts)) := by
        show ((a r >>= fun x => b r >>= fun y => cPairs l r >>= fun kts => G.ret ((x, y) :: kts)) >>= k) = _
        rw [G.bind_assoc]
        congr 1; funext x
        rw [G.bind_assoc]
        congr 1; funext y
        rw [G.bind_assoc]
        rfl
      rw [← e]; exact h
    show EvE X.km w E a σ H fun x H1 => EvE X.km w E b σ H1 fun y H2 => tPairs (trOf X.km w E l) σ H2 fun ps H3 => Q ((x, y) :: ps) H3
    refine evSeq (P := P) (PX := fun _ => True) R (fun g => hP g) h' fun x H1 Z1 ta R1 g1 t1 h1 => ?_
    refine evSeq (P := P) (PX := fun _ => True) R1 (fun g => hP g) h1 fun y H2 Z2 tb R2 g2 t2 h2 => ?_
    exact evPairs l (k := fun kts => k ((ta, tb) :: kts)) (P := P) R2 hP h2 fun ps H3 Z3 kts R3 g3 t3 h3 => fin _ H3 Z3 _ R3 ((g1.trans g2).trans g3) (.cons (t1.mono (g2.zz.trans g3.zz)) (t2.mono g3.zz) t3) h3
/-- the pairs' keys are ints and texts -/
def allKeys (kts : List (T × T)) : Bool := kts.all fun p => (keyT p.1).isSome
theorem Trp.keys {K : PySem.W.Frag} {mg : Str → Option Value} : ∀ {kts : List (T × T)} {ps : List (V × V)}, Trp K mg w Z kts ps → allKeys kts = true → ∃ kvs : List (Key × V), ps = kvs.map (fun kv => (kV kv.1, kv.2)) ∧ Trd K mg w Z kts kvs
  | _, _, .nil, _ => ⟨[], rfl, .nil⟩
  | _, _, @Trp.cons _ _ _ _ a b x y l m ta tb r, h => by
    simp only [allKeys, List.all_cons, Bool.and_eq_true] at h
    obtain ⟨key, hk⟩ := Option.isSome_iff_exists.mp h.1
    obtain ⟨kvs, e, tr⟩ := Trp.keys r h.2
    refine ⟨(key, y) :: kvs, ?_, .cons hk tb tr⟩
    rw [List.map_cons, e, ta.key hk]
def cDisp (l : List (EC × EC)) : EC := fun r => cPairs l r >>= fun kts => if allKeys kts = true ∧ kts.length ≤ 15 then .ret (.dic (mergeT [] kts)) else .stuck
theorem cf_disp {keys : List (Option Expr)} {values : List Expr} {l : List (EC × EC)} (h : CPs X w E pos keys values l) (hall : keys.all (·.isSome) = true := by rfl) (hl : keys.length = values.length := by rfl) (h0 : keys ≠ [] := by intro h; cases h)
    (h15 : keys.length ≤ 15 := by decide) : CF X w E (.Dict keys values pos) (cDisp l) := by
  refine ⟨peImp (pe_disp h.pps hall hl h0 h15) fun σ H Q hh => ?_⟩
  obtain ⟨H0, Z0, r, Z, o, R, hh⟩ := hh
  intro p hp
  have hz : Z p = none := R.good.tracked hp
  have hw : p ∉ w.W := fun hm => R.good.nw hp p hm rfl
  have h0' : H0 p = none := by
    cases e : H0 p with
    | none => rfl
    | some u => have z := R.gr.hh p u e hw; rw [hp] at z; cases z
  have ho : ∀ i, p ∉ o i := fun i hm => R.tr i p hm hp
  have R1 : EnvR X.km w H0 Z0 r σ (upd H p (.dK [])) Z o := R.beside h0' hz hw ho
  have g0 : Grow w H Z (upd H p (.dK [])) Z := Grow.beside (Grow.refl R.good) hp hz hw
  refine evPairs l (P := fun _ _ => PostF X.km w H Z Q) R1 (fun g q => q) hh fun ps H2 Z2 kts R2 g2 t2 h2 => ?_
  have hH2 : H2 p = some (.dK []) := g2.hh p _ upd_same hw
  by_cases hc : allKeys kts = true ∧ kts.length ≤ 15
  · rw [if_pos hc] at h2
    obtain ⟨kvs, e, tr⟩ := t2.keys hc.1
    have hl2 := tr.length
    have hz2 : Z2 p = none := g2.free hz (by rw [upd_same]; simp)
    refine ⟨hH2, kvs, e, by omega, ?_⟩
    refine h2 p [p] _ Z2 ((g0.trans g2).beside hp hz2 hw) ⟨rfl, _, upd_same, ?_, tr.merge .nil⟩ fun a ha => ?_
    · have h1 := length_mergeK kvs []
      rw [List.length_nil] at h1
      rw [sizeLine_eq]; omega
    · simp at ha; subst ha; exact ⟨hp, hz2, hw⟩
  · rw [if_neg hc] at h2; exact False.elim h2
end
end TL
end s_TL19
section s_TL20
set_option Elab.async false
set_option linter.all false
set_option maxRecDepth 100000
set_option maxHeartbeats 4000000
/-! TL20: what is walked; dict(x), list(x), list(d.values()) -/
namespace TL
open PySem PySem.Spec PyProof.Rows L2
section
variable {X : Cx} {M : Km} {w : Wd} {E : XK} {tg e e2 l : Expr} {p pos tpos apos cpos : Pos} {ca cb : EC} {cs : List Sl → G (List T)} {H0 Z0 H Z : Hp} {r : List Sl} {σ : L2.St} {o : Nat → List Addr}
/-! ### list, tuple, dict, text: whichever it is -/
def iAny (K : PySem.W.Frag) (tl : TE) : TI := fun σ H R => tl σ H fun x H1 => (∃ a, x = .ref a ∧ (((∃ xs, SqL K H1 a xs) ∧ R (Itl K a) H1) ∨ ((∃ xs, SqT K H1 a xs) ∧ R (Itt K a) H1) ∨ ∃ o kvs, H1 a = some (.frz o (.dK kvs)) ∧ R (Itk a o kvs) H1)) ∨ ∃ z, x = .str z ∧ R (Its z) H1
theorem pi_any {tl : TE} (hl : PE X l tl) : PI X tg l (iAny X.K tl) := by
  refine ⟨fun pins s σ H R I h => ?_⟩
  refine thn (hl.run pins s σ H _ I h) fun v s1 ⟨x, H1, I1, r1, q1⟩ => ?_
  rcases q1 with ⟨a, e, q⟩ | ⟨z, e, q⟩
  · subst e
    cases r1
    rcases q with ⟨⟨xs, hq⟩, q⟩ | ⟨⟨xs, hq⟩, q⟩ | ⟨od, kvs, hd, q⟩
    · obtain ⟨its, rv, p, hz⟩ := I1.list hq
      refine wpAny_pyIter_list p.isList ?_
      refine ⟨s1.heap.objs.size, [s1.heap.objs.size], _, _, H1, rfl, I1.kept (t' := s1.toks) fun b o e => Heap.get?_push_of_some _ e, turn_list a _, ⟨_, Heap.get?_push_size _ rfl, rfl, rfl⟩, fun b hb => ?_, q⟩
      have e : b = s1.heap.objs.size := by simpa using hb
      subst e
      exact I1.fpOk (Nat.le_refl _) (I1.hok.fresh (Nat.le_refl _))
    · obtain ⟨its, rv, p, hz⟩ := I1.tuple hq
      refine wpAny_pyIter_tuple (show s1.heap.IsTuple a its.toArray from p) ?_
      refine ⟨s1.heap.objs.size, [s1.heap.objs.size], _, _, H1, rfl, I1.kept (t' := s1.toks) fun b o e => Heap.get?_push_of_some _ e, turn_tuple a _, ⟨_, Heap.get?_push_size _ rfl, rfl, rfl⟩, fun b hb => ?_, q⟩
      have e : b = s1.heap.objs.size := by simpa using hb
      subst e
      exact I1.fpOk (Nat.le_refl _) (I1.hok.fresh (Nat.le_refl _))
    · obtain ⟨hs, hgd, hx, es, ep, vs, hdt, hsz, kv, hm⟩ := I1.frzK hd
      refine iter_keys hs hgd hx hdt (pi_one (tk := s1.toks) I1 _ (turn_keys _ hdt) ⟨_, Heap.get?_push_size _ rfl, rfl, ?_⟩ q)
      rw [hsz] <;> rfl
  · subst e
    obtain ⟨t, rfl⟩ := r1
    cases ha : z.cps.all (· < 128)
    · exact wpAny_pyIter_wide ha (pi_one (tk := s1.toks) I1 _ (turn_str _ z t "str_iterator" (.inr rfl)) ⟨_, Heap.get?_push_size _ rfl, rfl, rfl⟩ q)
    · exact wpAny_pyIter_ascii ha (pi_one (tk := s1.toks) I1 _ (turn_str _ z t "str_ascii_iterator" (.inl rfl)) ⟨_, Heap.get?_push_size _ rfl, rfl, rfl⟩ q)
def chars (z : Str) : List T := z.cps.toList.map fun c => .str ⟨#[c]⟩
def anyOf : T → G (List T)
  | .lst ts => .ret ts
  | .tup ts => .ret ts
  | .scr ns => .ret (ns.map .int)
  | .dic kts => .ret (kts.map (·.1))
  | .str z => if fits z.cps.size then .ret (chars z) else .stuck
  | _ => .stuck
theorem tr_key {k : T} {key : Key} (e : keyT k = some key) : Tr M.K M.mg w Z k (kV key) := by
  cases k <;> simp only [keyT, Option.some.injEq, reduceCtorEq] at e
  · subst e; exact .int _
  · subst e; exact .str _
theorem Trd.at : ∀ {kts : List (T × T)} {kvs : List (Key × V)} {i : Nat} {t : T × T}, Trd M.K M.mg w Z kts kvs → kts[i]? = some t → ∃ k v, kvs[i]? = some (k, v) ∧ keyT t.1 = some k ∧ Tr M.K M.mg w Z t.2 v
  | _, _, _, _, .nil, e => by simp at e
  | _, _, 0, _, .cons k a _, e => by simp at e; subst e; exact ⟨_, _, rfl, k, a⟩
  | _, _, i + 1, t, .cons _ _ b, e => by
    obtain ⟨k, v, h1, h2⟩ := Trd.at (i := i) (t := t) b (by simpa using e)
    exact ⟨k, v, by simpa using h1, h2⟩
theorem iter_keysT {d : Addr} {od : Obj} {kts : List (T × T)} {kvs : List (Key × V)} {Zs : Hp} (h : Zs d = some (.frz od (.dK kvs))) (tr : Trd M.K M.mg w Zs kts kvs) : IterOk M w (Itk d od kvs) (kts.map (·.1)) Zs := fun i H Z s g => by
  have hH := g.zh _ _ (s _ _ h)
  have hl := tr.length
  refine ⟨fun t ht => ?_, fun e => ⟨hH, by rw [List.length_map] at e; omega⟩⟩
  rw [List.getElem?_map, Option.map_eq_some_iff] at ht
  obtain ⟨p, hp, rfl⟩ := ht
  obtain ⟨k, v, h1, h2, h3⟩ := Trd.at tr hp
  refine ⟨⟨hH, (List.getElem?_eq_some_iff.mp h1).1⟩, fun x H' y => ?_⟩
  obtain ⟨rfl, k', v', e1, rfl⟩ := y
  rw [h1] at e1; cases e1
  exact ⟨Z, Grow.refl g, tr_key h2⟩
theorem iter_str {z : Str} {Zs : Hp} : IterOk M w (Its z) (chars z) Zs := fun i H Z s g => by
  unfold chars
  refine ⟨fun t ht => ?_, fun e => ?_⟩
  · rw [List.getElem?_map, Option.map_eq_some_iff] at ht
    obtain ⟨c, hc, rfl⟩ := ht
    rw [Array.getElem?_toList] at hc
    refine ⟨(Array.getElem?_eq_some_iff.mp hc).1, fun x H' y => ?_⟩
    obtain ⟨rfl, c', e1, rfl⟩ := y
    rw [hc] at e1; cases e1
    exact ⟨Z, Grow.refl g, .str _⟩
  · rw [List.length_map, Array.length_toList] at e
    exact Nat.le_of_eq e
theorem iter_scr {a : Addr} {ns : List Int} {Zs : Hp} (h : SqL M.K Zs a (ns.map V.int)) : IterOk M w (Itl M.K a) (ns.map T.int) Zs := fun i H Z s g => by
  have q : SqL M.K H a (ns.map V.int) := g.sqL (s.sqL h)
  refine ⟨fun t ht => ?_, fun hl => ⟨_, q, by rw [List.length_map] at hl ⊢; omega⟩⟩
  rw [List.getElem?_map, Option.map_eq_some_iff] at ht
  obtain ⟨n, hn, rfl⟩ := ht
  have hv : (ns.map V.int)[i]? = some (.int n) := by rw [List.getElem?_map, hn]; rfl
  refine ⟨⟨_, _, q, hv⟩, fun x H' y => ?_⟩
  obtain ⟨rfl, y⟩ := y
  have e := y _ q
  rw [hv] at e
  cases e
  exact ⟨Z, Grow.refl g, .int _⟩
theorem ci_any (h : CE X w E l ca) : CI X w E tg l (fun r => ca r >>= anyOf) := by
  refine ⟨piImp (pi_any h.pe) fun σ H R h => ?_⟩
  obtain ⟨H0, Z0, r, Z, o, R1, h⟩ := h
  refine evSeqI (P := fun _ => True) R1 h fun x H1 Z1 a R2 g1 t1 h1 => ?_
  cases t1 with
  | @lst ts p vs hq hz hts => exact .inl ⟨p, rfl, .inl ⟨⟨vs, SqL.of (R2.good.zh _ _ hq)⟩, h1 _ H1 Z1 (Grow.refl R2.good) (by rw [hts.length]; exact hz) (iter_list hq hts)⟩⟩
  | @tup ts p vs hq hz hts => exact .inl ⟨p, rfl, .inr (.inl ⟨⟨vs, R2.good.sqT hq⟩, h1 _ H1 Z1 (Grow.refl R2.good) (by rw [hts.length]; exact hz) (iter_tup hq hts)⟩)⟩
  | @scr ns p hq hz => exact .inl ⟨p, rfl, .inl ⟨⟨_, R2.good.sqL hq⟩, h1 _ H1 Z1 (Grow.refl R2.good) (by rw [List.length_map]; exact Nat.le_of_lt (small1000 hz)) (iter_scr (M := X.km) hq)⟩⟩
  | @dic kts p kvs hq hz tr =>
    obtain ⟨od, hd⟩ := hq
    exact .inl ⟨p, rfl, .inr (.inr ⟨od, kvs, R2.good.zh _ _ hd, h1 _ H1 Z1 (Grow.refl R2.good) (by rw [List.length_map, tr.length]; exact hz) (iter_keysT (M := X.km) hd tr)⟩)⟩
  | str z =>
    have h1' : (if fits z.cps.size then G.ret (chars z) else .stuck).wp (fun ts => ∀ J H' Z', Grow w H1 Z1 H' Z' → ts.length ≤ sizeLine → IterOk X.km w J ts Z' → R J H') (PostX X.km w E H0 Z0) := h1
    by_cases hf : fits z.cps.size = true
    · rw [if_pos hf] at h1'
      exact .inr ⟨z, rfl, h1' _ H1 Z1 (Grow.refl R2.good) (by unfold chars; rw [List.length_map, Array.length_toList]; exact fits_line hf) (iter_str (M := X.km))⟩
    · rw [if_neg hf] at h1'; exact False.elim h1'
  | _ => exact False.elim h1
/-- for k, v in d.items() -/
def itemsOf : T → G (List T)
  | .dic kts => .ret (kts.map fun p => .tup [p.1, p.2])
  | _ => .stuck
def valuesOf : T → G (List T)
  | .dic kts => .ret (kts.map (·.2))
  | _ => .stuck
theorem ci_items {elts : List Expr} {kk : Nat} (h : CE X w E e ca) (hbase : attributeBase e "items" X.env (eval e X.env) = eval e X.env := by rfl) (hline : (apos.endLine == cpos.line) = true := by rfl) :
    CI X w E (.Tuple elts kk tpos) (.Call (.Attribute e "items" apos) [] [] cpos) (fun r => ca r >>= itemsOf) := by
  refine ⟨piImp (pi_items h.pe hbase hline) fun σ H R h => ?_⟩
  obtain ⟨H0, Z0, r, Z, o, R1, h⟩ := h
  refine evSeqI (P := fun _ => True) R1 h fun x H1 Z1 a R2 g1 t1 h1 => ?_
  cases t1 with
  | @dic kts p kvs hq hz tr =>
    obtain ⟨od, hd⟩ := hq
    refine ⟨p, od, kvs, rfl, R2.good.zh _ _ hd, h1 _ H1 Z1 (Grow.refl R2.good) (by rw [List.length_map, tr.length]; exact hz) fun i H Z s g => ?_⟩
    have hH := g.zh _ _ (s _ _ hd)
    have hl := tr.length
    refine ⟨fun t ht => ?_, fun e => ⟨hH, by rw [List.length_map] at e; omega⟩⟩
    rw [List.getElem?_map, Option.map_eq_some_iff] at ht
    obtain ⟨q, hp, rfl⟩ := ht
    obtain ⟨k, v, e1, e2, e3⟩ := Trd.at (M := X.km) (w := w) tr hp
    refine ⟨⟨hH, (List.getElem?_eq_some_iff.mp e1).1⟩, fun x H' y => ?_⟩
    obtain ⟨T', k', v', f1, rfl, hT, rfl⟩ := y
    rw [e1] at f1; cases f1
    have gl := Grow.laidF (o := .tup [kV k, v]) g hT
    exact ⟨_, gl, .tup (SqT.of upd_same) (by show 2 ≤ sizeLine; decide) (.cons (tr_key (M := X.km) e2) (.cons ((e3.mono s).mono gl.zz) .nil))⟩
  | _ => exact False.elim h1
theorem ci_values (h : CE X w E e ca) (hbase : attributeBase e "values" X.env (eval e X.env) = eval e X.env := by rfl) (hline : (apos.endLine == cpos.line) = true := by rfl) :
    CI X w E tg (.Call (.Attribute e "values" apos) [] [] cpos) (fun r => ca r >>= valuesOf) := by
  refine ⟨piImp (pi_values h.pe hbase hline) fun σ H R h => ?_⟩
  obtain ⟨H0, Z0, r, Z, o, R1, h⟩ := h
  refine evSeqI (P := fun _ => True) R1 h fun x H1 Z1 a R2 g1 t1 h1 => ?_
  cases t1 with
  | @dic kts p kvs hq hz tr =>
    obtain ⟨od, hd⟩ := hq
    refine ⟨p, od, kvs, rfl, R2.good.zh _ _ hd, h1 _ H1 Z1 (Grow.refl R2.good) (by rw [List.length_map, tr.length]; exact hz) fun i H Z s g => ?_⟩
    have hH := g.zh _ _ (s _ _ hd)
    have hl := tr.length
    refine ⟨fun t ht => ?_, fun e => ⟨hH, by rw [List.length_map] at e; omega⟩⟩
    rw [List.getElem?_map, Option.map_eq_some_iff] at ht
    obtain ⟨q, hp, rfl⟩ := ht
    obtain ⟨k, v, e1, e2, e3⟩ := Trd.at (M := X.km) (w := w) tr hp
    refine ⟨⟨hH, (List.getElem?_eq_some_iff.mp e1).1⟩, fun x H' y => ?_⟩
    obtain ⟨rfl, k', f1⟩ := y
    rw [e1] at f1; cases f1
    exact ⟨Z, Grow.refl g, e3.mono s⟩
  | _ => exact False.elim h1

/-! ### dict(x), list(x) -/
def fDict : List T → G T
  | [.dic kts] => .ret (.dic kts)
  | _ => .stuck
theorem tn_dict : TNF M w E (fun xs H Q => ∃ (a : Addr) (kvs : List (Key × V)), xs = [.ref a] ∧ Rd H a (.dK kvs) ∧ ∀ p, H p = none → Q (.ref p) (upd H p (.dK kvs))) fDict := fun H0 Z0 r σ H Z o R ts vs Q tr hw => by
  unfold fDict at hw
  split at hw
  · rename_i kts
    obtain ⟨v, rfl, tv⟩ := trs1 tr
    cases tv with
    | @dic _ p kvs hq hz trd =>
      exact ⟨p, kvs, rfl, Sub.rd R.good.zh hq.rd, fun c hc => hw c [c] _ Z (Grow.laid R.good hc) ⟨rfl, kvs, upd_same, hz, trd⟩ (Grow.newRoot R.good hc)⟩
  · exact False.elim hw
end
end TL
end s_TL20
section s_TL21
set_option Elab.async false
set_option linter.all false
set_option maxRecDepth 100000
set_option maxHeartbeats 4000000
/-! TL21: x op= e, x[k] = e; looks in passing; several values at once -/
namespace TL
open PySem PySem.Spec PyProof.Rows L2
section
variable {X : Cx} {M : Km} {w : Wd} {E : XK} {fr : Bool} {e e2 ik : Expr} {pos pos' p0 : Pos} {ca cb ci : EC} {cs : List Sl → G (List T)} {H0 Z0 H Z : Hp} {r : List Sl} {σ : L2.St} {o : Nat → List Addr} {D : Ends}
/-! ### x += e, a number -/
def cAugI (i : Nat) (f : Int → Int → Int) (ca : EC) : SC := fun r => match r[i]? with
  | some (.fz (.int a)) => ca r >>= fun t => (match t with | .int b => .ret (.nx (r.set i (.fz (.int (f a b))))) | _ => .stuck)
  | _ => .stuck
theorem cs_augI (i : Nat) {x : Str} {op : Operator} {f : Int → Int → Int} (hN : X.N.Nodup) (ho : PIp X op (ipI f)) (he : CE X w E e ca) (hi : X.N[i]? = some x := by rfl) (hx : Loc X.env.scope x := by first | exact Or.inl rfl | exact Or.inr rfl)
    (hf : X.fn x = true ∨ X.env.scope.names.lookup x = some .local := by first | exact .inl rfl | exact .inr rfl | assumption) : CS X w E fr (.AugAssign (.Name x p0) op e pos) (cAugI i f ca) := by
  refine ⟨psImp (ps_aug hN hi hx he.pe ho hf) fun D σ H h => ?_⟩
  obtain ⟨H0, Z0, r, Z, o, R, h⟩ := h
  unfold cAugI at h
  split at h
  · rename_i a er
    have hi' : i < σ.length := by
      have := (List.getElem?_eq_some_iff.mp er).1
      rw [R.len] at this; exact this
    obtain ⟨_, v, ev, tr⟩ := R.sl i _ _ er (List.getElem?_eq_getElem hi')
    cases tr
    refine ⟨.int a, (List.getElem?_eq_getElem hi').trans (congrArg some ev), evSeqS R h fun y H1 Z1 t R1 g1 t1 h1 => ?_⟩
    cases t1 with
    | int b => exact ⟨a, b, rfl, rfl, h1 _ H1 Z1 _ (R1.setF i (.int _)) (Sub.refl _)⟩
    | _ => exact False.elim h1
  · exact False.elim h

/-! ### x[k] = e, x a slot's own dict or list -/
def putAt : T → T → T → Option T
  | .dic kts, k, t => if (keyT k).isSome && fits (kts.length + 1) then some (.dic (putT kts k t)) else none
  | .lst ts, .int i, t => (ixN ts.length i).map fun j => .lst (ts.set j t)
  | _, _, _ => none
def rSetA : TSet := fun o i v H Q => rSetL o i v H Q ∨ rSetD o i v H Q
theorem set_any (hu : X.A.units + 1 < cLine) : PSet X rSetA := fun pins s σ H o i v ov iv u Q I ro ri rv h => by
  rcases h with h | h
  · exact set_list pins s σ H o i v ov iv u Q I ro ri rv h
  · exact set_dict hu pins s σ H o i v ov iv u Q I ro ri rv h
theorem put_root {H Z : Hp} {p : Addr} {oo : List Addr} {b k t b' : T} {kv v : V} {Q : Hp → Prop} (rt : Root M.K M.mg w Z H b p oo) (tk : Tr M.K M.mg w Z k kv) (tv : Tr M.K M.mg w Z t v) (e : putAt b k t = some b') (h : ∀ u, Root M.K M.mg w Z (upd H p u) b' p oo → Q (upd H p u)) : rSetA (.ref p) kv v H Q := by
  unfold putAt at e
  split at e
  · rename_i kts k t
    split at e
    · rename_i hc
      cases e
      rw [Bool.and_eq_true] at hc
      obtain ⟨key, hk⟩ := Option.isSome_iff_exists.mp hc.1
      obtain ⟨rfl, kvs, eh, l, tr⟩ := rt
      have hl := fits_line hc.2
      rw [tr.length] at hl
      refine .inr ⟨p, _, rfl, .inl ⟨kvs, key, eh, tk.key hk, by omega, rfl⟩, h _ ⟨rfl, _, upd_same, ?_, tr.put hk tv⟩⟩
      have := length_putK kvs key v
      omega
    · cases e
  · obtain ⟨j, hj, rfl⟩ := Option.map_eq_some_iff.mp e
    cases tk
    obtain ⟨rfl, vs, eh, l, tr⟩ := rt
    refine .inl ⟨p, vs, _, j, rfl, rfl, eh, by rw [← tr.length]; exact hj, h _ ⟨rfl, _, upd_same, by rw [List.length_set]; exact l, tr.set tv j⟩⟩
  · cases e
def cPut (i : Nat) (ci ca : EC) : SC := fun r => ca r >>= fun t => match r[i]? with
  | some (.ow b) => ci r >>= fun k => (match putAt b k t with | some b' => .ret (.nx (r.set i (.ow b'))) | none => .stuck)
  | _ => .stuck
theorem cs_put (i : Nat) {x : Str} (hu : X.A.units + 1 < cLine) (he : CE X w E e ca) (hk : CE X w E ik ci) (hN : X.N[i]? = some x := by rfl) (hv : Vis X.env.scope x := by first | exact Or.inl rfl | exact Or.inr (Or.inl rfl) | exact Or.inr (Or.inr rfl)) (hd : (x == ("__debug__" : Str)) = false := by decide)
    (hcd : (x == ("__classdict__" : Str)) = false := by decide) (hs : swapsWithSole [.Subscript (.Name x p0) ik pos'] e pos.line X.env = pure false := by rfl) (hw : swappedStores [.Subscript (.Name x p0) ik pos'] e X.env = pure none := by rfl)
    (h1 : (assignEach [.Subscript (.Name x p0) ik pos'] X.env).map (·.2) = [assign (.Subscript (.Name x p0) ik pos') X.env] := by rfl)
    (ha : ∀ v, assign (.Subscript (.Name x p0) ik pos') X.env v = (do
      let ov ← holding [v] (eval (.Name x p0) X.env)
      let iv ← holding [v, ov] (eval ik X.env)
      standAt pos'
      holding [v, ov, iv] (setItem ov iv v)
      release [v, ov, iv] []) := by intro _; rfl) : CS X w E fr (.Assign [.Subscript (.Name x p0) ik pos'] e pos) (cPut i ci ca) := by
  refine ⟨psImp (ps_asg he.pe (pg_sub (pe_var hN hv hd hcd) hk.pe (set_any hu) ha) hs hw h1) fun D σ H h => ?_⟩
  obtain ⟨H0, Z0, r, Z, o, R, h⟩ := h
  refine evSeqS R h fun y H1 Z1 t R1 g1 t1 h1 => ?_
  split at h1
  · rename_i b er
    obtain ⟨p, es, rt⟩ := R1.own er
    refine ⟨.ref p, es, evSeqS R1 h1 fun kv H2 Z2 k R2 g2 t2 h2 => ?_⟩
    cases f : putAt b k t with
    | none => rw [f] at h2; exact False.elim h2
    | some b' =>
      rw [f] at h2
      obtain ⟨p2, es2, rt2⟩ := R2.own er
      rw [es] at es2; cases es2
      exact put_root (M := X.km) rt2 t2 (t1.mono g2.zz) f fun u ru => h2 σ _ Z2 o (R2.rew er es (rt2.mem (by cases b <;> first | rfl | (simp only [putAt, reduceCtorEq] at f))) ru) (Sub.refl _)
  · exact False.elim h1

/-! ### a slot's own thing looked at in passing -/
def hard : T → Bool
  | .non | .bl _ | .int _ | .str _ | .ty _ | .fn _ | .drw => true
  | _ => false
theorem Tr.hardMono {K : PySem.W.Frag} {mg : Str → Option Value} {Z Z' : Hp} {t : T} {v : V} (h : Tr K mg w Z t v) (hh : hard t = true) : Tr K mg w Z' t v := by
  cases h <;> simp [hard] at hh
  · exact .non
  · exact .bl _
  · exact .int _
  · exact .str _
  · exact .ty _
  · rename_i m; exact .fn m
  · rename_i m; exact .drw m
theorem mut_frz {u : HO} {od : Obj} (mu : Mut (some u)) : (HO.frz od u) ≠ u := fun e => by
  rw [← e] at mu; exact mu
def cPk (i : Nat) (c : EC) : EC := fun r => c (frzS i r) >>= fun t => if hard t then .ret t else .stuck
theorem pe_fz {t : TE} (h : PE X e t) : PE X e (fun σ H Q => t σ H Q ∨ ∃ d u, H d = some u ∧ Mut (some u) ∧ ∀ od, t σ (upd H d (.frz od u)) fun v H' => H' d = some (.frz od u) ∧ Q v (upd H' d u)) := by
  refine ⟨fun pins s σ H Q I hw => ?_⟩
  rcases hw with q | q
  · exact h.run pins s σ H Q I q
  · exact (pe_lock h).run pins s σ H Q I q
theorem CE.pk (i : Nat) (h : CE X w E e ca) : CE X w E e (cPk i ca) := by
  refine ⟨peImp (pe_fz h.pe) fun σ H Q hh => ?_⟩
  obtain ⟨H0, Z0, r, Z, o, R, hh⟩ := hh
  have hw := G.wp_bind.mp hh
  have fin : ∀ (t : T) (Q' : VK), ((if hard t then G.ret t else .stuck : G T).wp (Post X.km w H Z Q) (PostX X.km w E H0 Z0)) → (∀ v H', (∃ Z2, Grow w H Z H' Z2 ∧ Tr X.K X.mg w Z2 t v) → Q v H' → Q' v H') → True := fun _ _ _ _ => trivial
  rcases R.frz i with ⟨Z', o', R', sb, hW⟩ | ⟨d, u, hd, mu, P⟩
  · refine .inl ⟨H0, Z0, _, Z', o', R', G.wp_mono hw (fun t ht v H2 Z2 g tr => ?_) fun _ x => x⟩
    by_cases hc : hard t = true
    · rw [if_pos hc] at ht
      refine ht v H2 Z ⟨⟨fun a q e => g.good.zh _ _ (g.zz _ _ (sb _ _ e)), R.good.zw, g.good.wi⟩, Sub.refl _, fun _ _ q => .inl q, g.hh⟩ (tr.hardMono hc)
    · rw [if_neg hc] at ht; exact False.elim ht
  · refine .inr ⟨d, u, hd, mu, fun od => ?_⟩
    obtain ⟨Z', o', R', sb, hW⟩ := P od
    have hdw : d ∉ w.W := fun hm => by
      have e := hW d hm
      rw [upd_same, hd] at e
      exact absurd (Option.some.inj e) (mut_frz mu)
    have hdz : Z d = none := by
      cases e : Z d with
      | none => rfl
      | some q =>
        have e1 := R.good.zh _ _ e
        have e2 := R'.good.zh _ _ (sb _ _ e)
        rw [hd] at e1; cases e1
        rw [upd_same] at e2
        exact absurd (Option.some.inj e2) (mut_frz mu)
    refine ⟨H0, Z0, _, Z', o', R', G.wp_mono hw (fun t ht v H2 Z2 g tr => ?_) fun _ x => x⟩
    by_cases hc : hard t = true
    · rw [if_pos hc] at ht
      refine ⟨g.hh d _ upd_same hdw, ht v _ Z ⟨⟨fun a q e => ?_, R.good.zw, w.loc _ _ (fun a ha => upd_ne fun z => hdw (z ▸ ha)) g.good.wi⟩, Sub.refl _, fun _ _ q => .inl q, fun a q e hb => ?_⟩ (tr.hardMono hc)⟩
      · have ne : a ≠ d := fun z => by rw [z, hdz] at e; cases e
        rw [upd_ne ne]; exact g.good.zh _ _ (g.zz _ _ (sb _ _ e))
      · by_cases ne : a = d
        · subst ne; rw [hd] at e; cases e; exact upd_same
        · rw [upd_ne ne]; exact g.hh a q (by rw [upd_ne ne]; exact e) hb
    · rw [if_neg hc] at ht; exact False.elim ht
end
end TL
end s_TL21
section s_TL22
set_option Elab.async false
set_option linter.all false
set_option maxRecDepth 100000
set_option maxHeartbeats 4000000
/-! TL22: several values at once, some of them new: a, b = e, f -/
namespace TL
open PySem PySem.Spec PyProof.Rows L2
def cMany : List (Bool × EC) → List Sl → G (List Sl)
  | [], _ => .ret []
  | (own, c) :: l, r => c r >>= fun t => cMany l r >>= fun ss => .ret ((if own then .ow t else .fz t) :: ss)
/-- values laid since H -/
inductive Sls (M : Km) (w : Wd) (H Z' H' : Hp) : List Sl → List V → List (List Addr) → Prop
  | nil : Sls M w H Z' H' [] [] []
  | fz {t v ss vs oo} : Tr M.K M.mg w Z' t v → Sls M w H Z' H' ss vs oo → Sls M w H Z' H' (.fz t :: ss) (v :: vs) ([] :: oo)
  | ow {t p o ss vs oo} : Root M.K M.mg w Z' H' t p o → Fresh w H Z' o → (∀ o' ∈ oo, ∀ a ∈ o, a ∉ o') → Sls M w H Z' H' ss vs oo → Sls M w H Z' H' (.ow t :: ss) (.ref p :: vs) (o :: oo)
section
variable {M : Km} {w : Wd} {H0 Z0 H Z H1 Z1 H' Z' : Hp} {r : List Sl} {σ : L2.St} {o : Nat → List Addr}
theorem Fresh.base {oo : List Addr} (g : Grow w H Z H1 Z1) (f : Fresh w H1 Z' oo) : Fresh w H Z' oo := fun a ha => by
  refine ⟨?_, (f a ha).2⟩
  cases q : H a with
  | none => rfl
  | some u =>
    have z := (f a ha).1
    rw [g.hh a u q (f a ha).2.2] at z
    cases z
theorem Sls.base (g : Grow w H Z H1 Z1) : ∀ {ss vs oo}, Sls M w H1 Z' H' ss vs oo → Sls M w H Z' H' ss vs oo
  | _, _, _, .nil => .nil
  | _, _, _, .fz a b => .fz a (Sls.base g b)
  | _, _, _, .ow a f d b => .ow a (f.base g) d (Sls.base g b)
theorem Sls.fresh : ∀ {ss vs oo}, Sls M w H Z' H' ss vs oo → ∀ o' ∈ oo, ∀ a ∈ o', H a = none
  | _, _, _, .nil, _, h, _, _ => by cases h
  | _, _, _, .fz _ b, o', h, a, ha => by
    rcases List.mem_cons.mp h with rfl | h
    · cases ha
    · exact b.fresh o' h a ha
  | _, _, _, .ow _ f _ b, o', h, a, ha => by
    rcases List.mem_cons.mp h with rfl | h
    · exact (f a ha).1
    · exact b.fresh o' h a ha
def setR (r : List Sl) : List Nat → List Sl → List Sl
  | i :: is, s :: ss => setR (r.set i s) is ss
  | _, _ => r
def setV (σ : L2.St) : List Nat → List V → L2.St
  | i :: is, v :: vs => setV (σ.set i (some v)) is vs
  | _, _ => σ
theorem EnvR.setMany {X : Cx} (h0 : ∀ a, H a = none → a ∉ w.W → H0 a = none) : ∀ {ss : List Sl} {vs : List V} {oo : List (List Addr)} (is : List Nat) {r : List Sl} {σ : L2.St} {o : Nat → List Addr}, Sls X.km w H Z' H' ss vs oo → (∀ i ∈ is, i < r.length) → EnvR X.km w H0 Z0 r σ H' Z' o →
    (∀ j a, a ∈ o j → ∀ o' ∈ oo, a ∉ o') → ∃ o2, EnvR X.km w H0 Z0 (setR r is ss) (setV σ is vs) H' Z' o2
  | _, _, _, [], r, σ, o, _, _, R, _ => ⟨o, by unfold setR setV; exact R⟩
  | _, _, _, i :: is, r, σ, o, .nil, _, R, _ => ⟨o, by unfold setR setV; exact R⟩
  | _, _, _, i :: is, r, σ, o, @Sls.fz _ _ _ _ _ t v ss vs oo a b, hl, R, d => by
    unfold setR setV
    refine EnvR.setMany h0 is b (fun j hj => by rw [List.length_set]; exact hl j (List.mem_cons_of_mem _ hj)) (EnvR.setF (X := X) R i a) fun j x hx o' ho' => ?_
    by_cases e : j = i
    · simp [e] at hx
    · simp only [if_neg e] at hx; exact d j x hx o' (List.mem_cons_of_mem _ ho')
  | _, _, _, i :: is, r, σ, o, @Sls.ow _ _ _ _ _ t p oi ss vs oo a f dd b, hl, R, d => by
    unfold setR setV
    refine EnvR.setMany h0 is b (fun j hj => by rw [List.length_set]; exact hl j (List.mem_cons_of_mem _ hj)) (EnvR.setO (X := X) R i (hl i (List.mem_cons_self ..)) a (fun x hx => ⟨h0 x (f x hx).1 (f x hx).2.2, (f x hx).2⟩) fun j x hx => d j x hx _ (List.mem_cons_self ..)) fun j x hx o' ho' => ?_
    by_cases e : j = i
    · simp only [e, if_true] at hx; exact dd o' ho' x hx
    · simp only [if_neg e] at hx; exact d j x hx o' (List.mem_cons_of_mem _ ho')
end
section
variable {X : Cx} {w : Wd} {E : XK} {fr : Bool} {e a b c : Expr} {es : List Expr} {ca : EC} {l : List (Bool × EC)} {pos : Pos}
def PostM (M : Km) (w : Wd) (H Z : Hp) (Q : List V → Hp → Prop) : List Sl → Prop := fun ss => ∀ vs oo H' Z', Grow w H Z H' Z' → Sls M w H Z' H' ss vs oo → Q vs H'
def EvM (M : Km) (w : Wd) (E : XK) (l : List (Bool × EC)) : TA := fun σ H Q => ∃ H0 Z0 r Z o, EnvR M w H0 Z0 r σ H Z o ∧ (cMany l r).wp (PostM M w H Z Q) (PostX M w E H0 Z0)
structure CM (X : Cx) (w : Wd) (E : XK) (es : List Expr) (l : List (Bool × EC)) : Prop where
  pa : PA X es (EvM X.km w E l)
theorem cm_nil : CM X w E [] [] := ⟨paImp pa_nil fun σ H Q ⟨H0, Z0, r, Z, o, R, h⟩ => h [] [] H Z (Grow.refl R.good) .nil⟩
theorem cm_fz (h1 : CE X w E e ca) (h2 : CM X w E es l) (hs : starEach (e :: es) X.env = (false, eval e X.env) :: starEach es X.env := by rfl) : CM X w E (e :: es) ((false, ca) :: l) := by
  refine ⟨paImp (pa_cons h1.pe h2.pa hs) fun σ H Q h => ?_⟩
  obtain ⟨H0, Z0, r, Z, o, R, h⟩ := h
  refine ⟨H0, Z0, r, Z, o, R, G.wp_mono (G.wp_bind.mp h) (fun t ht v H1 Z1 g tr => ?_) fun _ x => x⟩
  refine ⟨H0, Z0, r, Z1, o, R.grow g, G.wp_mono (G.wp_bind.mp ht) (fun ss hss vs oo H' Z' g' sl => ?_) fun _ x => x⟩
  exact hss (v :: vs) ([] :: oo) H' Z' (g.trans g') (.fz (tr.mono g'.zz) (sl.base g))
theorem cm_ow (h1 : CF X w E e ca) (h2 : CM X w E es l) (hs : starEach (e :: es) X.env = (false, eval e X.env) :: starEach es X.env := by rfl) : CM X w E (e :: es) ((true, ca) :: l) := by
  refine ⟨paImp (pa_cons h1.pe h2.pa hs) fun σ H Q h => ?_⟩
  obtain ⟨H0, Z0, r, Z, o, R, h⟩ := h
  refine ⟨H0, Z0, r, Z, o, R, G.wp_mono (G.wp_bind.mp h) (fun t ht p oo1 H1 Z1 g rt f => ?_) fun _ x => x⟩
  refine ⟨H0, Z0, r, Z1, o, R.grow g, G.wp_mono (G.wp_bind.mp ht) (fun ss hss vs oo H' Z' g' sl => ?_) fun _ x => x⟩
  have tk := rt.tracked
  refine hss (.ref p :: vs) (oo1 :: oo) H' Z' (g.trans g') (.ow (rt.move g'.zz fun a ha u q => g'.hh a u q (f a ha).2.2) (fun a ha => ⟨(f a ha).1, g'.free (f a ha).2.1 (tk a ha), (f a ha).2.2⟩) (fun o' ho' a ha hb => tk a ha (sl.fresh o' ho' a hb)) (sl.base g))
def cPar (is : List Nat) (l : List (Bool × EC)) : SC := fun r => cMany l r >>= fun ss => if ss.length = is.length then .ret (.nx (setR r is ss)) else .stuck
theorem Sls.len {M : Km} {H Z' H' : Hp} : ∀ {ss vs oo}, Sls M w H Z' H' ss vs oo → ss.length = vs.length
  | _, _, _, .nil => rfl
  | _, _, _, .fz _ b => by rw [List.length_cons, List.length_cons, b.len]
  | _, _, _, .ow _ _ _ b => by rw [List.length_cons, List.length_cons, b.len]
theorem evPar {is : List Nat} {σ : L2.St} {H : Hp} {D : Ends} (hi : ∀ i ∈ is, i < σ.length) (h : EvS X.km w E fr (cPar is l) D σ H) : EvM X.km w E l σ H fun vs H1 => vs.length = is.length ∧ D.nx (setV σ is vs) H1 := by
  obtain ⟨H0, Z0, r, Z, o, R, h⟩ := h
  refine ⟨H0, Z0, r, Z, o, R, G.wp_mono (G.wp_bind.mp h) (fun ss hss vs oo H' Z' g sl => ?_) fun _ x => x⟩
  by_cases e : ss.length = is.length
  · rw [if_pos e] at hss
    obtain ⟨o2, R2⟩ := EnvR.setMany (X := X) (H := H) (fun a ha hw => by
      cases q : H0 a with
      | none => rfl
      | some u => have z := R.gr.hh a u q hw; rw [ha] at z; cases z) is sl (fun i hi' => by rw [R.len]; exact hi i hi') (R.grow g) fun j a ha o' ho' hb => R.tr j a ha (sl.fresh o' ho' a hb)
    exact ⟨by rw [← sl.len, e], hss _ H' Z' o2 R2 g.zz⟩
  · rw [if_neg e] at hss; exact False.elim hss
theorem cs_par {i j : Nat} {x y : Str} {px py pt : Pos} {kt k2 pt2} (hN : X.N.Nodup) (h : CM X w E [a, b] l) (hij : i ≠ j := by decide) (hi : X.N[i]? = some x := by rfl) (hj : X.N[j]? = some y := by rfl) (hx : X.env.scope.names.lookup x = some .local := by rfl) (hy : X.env.scope.names.lookup y = some .local := by rfl)
    (hc : X.calm = true := by rfl) (hw : swappedStores [.Tuple [.Name x px, .Name y py] kt pt] (.Tuple [a, b] k2 pt2) X.env = pure (some [x, y]) := by rfl)
    (hs : swapsWithSole [.Tuple [.Name x px, .Name y py] kt pt] (.Tuple [a, b] k2 pt2) pos.line X.env = pure false := by rfl) :
    CS X w E fr (.Assign [.Tuple [.Name x px, .Name y py] kt pt] (.Tuple [a, b] k2 pt2) pos) (cPar [i, j] l) := by
  refine ⟨⟨fun pins s σ H D I hh => ?_⟩⟩
  have hl := I.len
  refine (ps_par hc hN hi hj hij hx hy h.pa hw hs).run pins s σ H D I ?_
  have q := evPar (is := [i, j]) (by
    intro k hk
    rcases List.mem_cons.mp hk with rfl | hk
    · rw [hl]; exact (List.getElem?_eq_some_iff.mp hi).1
    · rcases List.mem_cons.mp hk with rfl | hk
      · rw [hl]; exact (List.getElem?_eq_some_iff.mp hj).1
      · cases hk) hh
  obtain ⟨H0, Z0, r, Z, o, R, q⟩ := q
  refine ⟨H0, Z0, r, Z, o, R, G.wp_mono q (fun ss hss vs oo H' Z' g sl => ?_) fun _ x => x⟩
  obtain ⟨e, hn⟩ := hss vs oo H' Z' g sl
  match vs, e, hn with
  | [v, u], _, hn => exact ⟨v, u, rfl, hn⟩
theorem cs_par3 {i j k : Nat} {x y z : Str} {px py pz pt : Pos} {kt k2 pt2} (hN : X.N.Nodup) (h : CM X w E [a, b, c] l) (hij : i ≠ j := by decide) (hik : i ≠ k := by decide) (hjk : j ≠ k := by decide) (hi : X.N[i]? = some x := by rfl) (hj : X.N[j]? = some y := by rfl) (hk : X.N[k]? = some z := by rfl)
    (hx : X.env.scope.names.lookup x = some .local := by rfl) (hy : X.env.scope.names.lookup y = some .local := by rfl) (hz : X.env.scope.names.lookup z = some .local := by rfl)
    (hc : X.calm = true := by rfl) (hw : swappedStores [.Tuple [.Name x px, .Name y py, .Name z pz] kt pt] (.Tuple [a, b, c] k2 pt2) X.env = pure (some [x, y, z]) := by rfl)
    (hs : swapsWithSole [.Tuple [.Name x px, .Name y py, .Name z pz] kt pt] (.Tuple [a, b, c] k2 pt2) pos.line X.env = pure false := by rfl) :
    CS X w E fr (.Assign [.Tuple [.Name x px, .Name y py, .Name z pz] kt pt] (.Tuple [a, b, c] k2 pt2) pos) (cPar [i, j, k] l) := by
  refine ⟨⟨fun pins s σ H D I hh => ?_⟩⟩
  have hl := I.len
  refine (ps_par3 hc hN hi hj hk hij hik hjk hx hy hz h.pa hw hs).run pins s σ H D I ?_
  have q := evPar (is := [i, j, k]) (by
    intro m hm
    simp only [List.mem_cons, List.not_mem_nil, or_false] at hm
    rcases hm with rfl | rfl | rfl
    · rw [hl]; exact (List.getElem?_eq_some_iff.mp hi).1
    · rw [hl]; exact (List.getElem?_eq_some_iff.mp hj).1
    · rw [hl]; exact (List.getElem?_eq_some_iff.mp hk).1) hh
  obtain ⟨H0, Z0, r, Z, o, R, q⟩ := q
  refine ⟨H0, Z0, r, Z, o, R, G.wp_mono q (fun ss hss vs oo H' Z' g sl => ?_) fun _ x => x⟩
  obtain ⟨e, hn⟩ := hss vs oo H' Z' g sl
  match vs, e, hn with
  | [v, u, t], _, hn => exact ⟨v, u, t, rfl, hn⟩
end
end TL
end s_TL22
section s_TL23
set_option Elab.async false
set_option linter.all false
set_option maxRecDepth 100000
set_option maxHeartbeats 4000000
/-! TL23: the law's call where no repr is under way; the promise of the law by a computation -/
namespace TL
open PySem PySem.Spec PyProof.Rows L2
/-- what the script's tracking may look like behind the top -/
structure Scr (K : PySem.W.Frag) (h : Heap) (a : Addr) (ns : List Int) (H : Hp) : Prop where
  only : ∀ b u, H b = some u → b = a ∧ ∃ xs, u = .frz { cls := .type "list", data := .seq xs } (.lst (ns.map .int)) ∧ h.get? a = some { cls := .type "list", data := .seq xs }
  seq : SqL K H a (ns.map V.int)
  out : H a ≠ none → K.lookup a = none
theorem scr_of {K : PySem.W.Frag} {h : Heap} {a : Addr} {vs : List Value} {ns : List Int} (KX : K.In h) (ha : h.get? a = some { cls := .type "list", data := .seq vs.toArray }) (hi : IntsAre vs ns) (hl : ns.length ≤ sizeLine) : ∃ H, Scr K h a ns H := by
  have rel := vals_ints hi
  cases q : K.lookup a with
  | some o =>
    have e := KX a o q
    rw [ha] at e; cases e
    refine ⟨fun _ => none, fun b u z => (nomatch z), .inr ⟨_, vs.toArray, _, q, rfl, rfl, rfl, ?_, by simpa using rel⟩, fun z => absurd rfl z⟩
    rw [List.size_toArray, hi.length]; exact hl
  | none =>
    refine ⟨fun b => if b = a then some (.frz { cls := .type "list", data := .seq vs.toArray } (.lst (ns.map V.int))) else none, fun b u z => ?_, .inl (.inr ⟨_, if_pos rfl⟩), fun _ => q⟩
    by_cases e : b = a
    · simp only [if_pos e, Option.some.injEq] at z
      exact ⟨e, _, z.symm, ha⟩
    · simp only [if_neg e] at z; cases z
theorem scr_hok {P : Program} {w : World} {K : PySem.W.Frag} {h : Heap} {a : Addr} {vs : List Value} {ns : List Int} {H : Hp} (S : Scr K h a ns H) (ha : h.get? a = some { cls := .type "list", data := .seq vs.toArray }) (hi : IntsAre vs ns) (hl : ns.length ≤ sizeLine) : HOk P w H h := fun b u e => by
  obtain ⟨rfl, xs, rfl, q⟩ := S.only b u e
  rw [ha] at q
  cases q
  exact ⟨ha, by rw [List.length_map]; exact hl, vs, _, vals_ints hi, ha⟩
theorem law_callG {P : Program} {w : World} {K : PySem.W.Frag} {mg mb : Str → Option Value} {k : Nat} {fa a : Addr} {fd : FuncData} {x : Str} {sp : Sp} {s : Shared} {vs : List Value} {ns : List Int}
    (KX : K.In s.heap) (hns : s.heap.Ns mainGlobals mg) (hb : s.heap.Ns builtinsNs mb) (hbb : ∀ y : Str, y ≠ "__name__" → mb y = bootBuiltins y) (hlim : s.heap.NoLimit) (hg : s.gens = #[])
    (ha : s.heap.get? a = some { cls := .type "list", data := .seq vs.toArray }) (hi : IntsAre vs ns) (hl : ns.length ≤ sizeLine) (hr : Room k callerA)
    (F : ∀ base : Heap, K.In base → base.Ns mainGlobals mg → FnG P w K mg base k fa fd [x] sp) (hbind : ∀ (s : Shared) (u : Value), BindsTo s fd ⟨[u], []⟩ [(x, u)])
    (hsp : ∀ H : Hp, SqL K H a (ns.map V.int) → sp [.ref a] H (fun v _ => v = .bl true) fun _ _ _ => False) :
    codeAny (model P w) callerA (.call (.ref fa) ⟨[.ref a], []⟩) (fun r s' => r = .ok (.ret (.bool true)) ∧ OldK s.heap s'.heap ∧ s'.os = s.os ∧ AllBare s'.gens) s := by
  obtain ⟨H, S⟩ := scr_of KX ha hi hl
  have hok : HOk P w H s.heap := scr_hok S ha hi hl
  -- the base: what is not tracked
  have gone : ∀ {b : Addr} {o : Obj}, s.heap.get? b = some o → b ≠ a ∨ H a = none → (hidT s.heap H).get? b = some o := fun {b o} e h => hidT_get e (by
    cases q : H b with
    | none => rfl
    | some u =>
      obtain ⟨rfl, _⟩ := S.only b u q
      rcases h with h | h
      · exact absurd rfl h
      · rw [q] at h; cases h)
  have nsB : ∀ {b : Addr} {m : Str → Option Value}, s.heap.Ns b m → (hidT s.heap H).Ns b m := fun {b m} ⟨o, es, ep, e, d, r⟩ => ⟨o, es, ep, gone e (.inl fun z => by
    subst z
    rw [ha] at e; cases e
    have d' : Data.seq vs.toArray _ = Data.dict es ep := d
    cases d'), d, r⟩
  have kB : K.In (hidT s.heap H) := fun b o e => gone (KX b o e) (by
    by_cases z : H a = none
    · exact .inr z
    · exact .inl fun q => by subst q; rw [S.out z] at e; cases e)
  have modB : Mod K mg (hidT s.heap H) := ⟨kB, nsB hns, ⟨mb, nsB hb, hbb⟩, let ⟨mc, h1, h2⟩ := hlim; ⟨mc, nsB h1, h2⟩⟩
  have env : Env0 P w K mg (hidT s.heap H) callerA [] s H := ⟨rfl, modB, fun b o e => of_hidT e, Nat.le_of_eq (hidT_size _ _), trivial, fun b hb => (nomatch hb), hok, .of_eq hg⟩
  refine codeAny_mono ((F _ kB (nsB hns)).go callerA [] s H ⟨[.ref a], []⟩ [.ref a] [.ref a] _ _ rfl hr env (hbind s (.ref a)) (.cons rfl .nil) (hsp H S.seq)) fun r s' hq => ?_
  rcases r with e | (_ | _ | _ | u)
  · obtain ⟨_, _, _, _, _, _, _, _, _, _, _, _, f⟩ := hq; exact False.elim f
  · exact False.elim hq
  · exact False.elim hq
  · exact False.elim hq
  · obtain ⟨v, H', os, bare, un, hok', r', q⟩ := hq
    have q' : v = .bl true := q
    subst q'
    obtain rfl : u = Value.bool true := r'
    refine ⟨rfl, OldK.of_keep fun b o e => ?_, os, bare⟩
    cases z : H b with
    | none => exact un.keep b o e z (fun q => nomatch q) (by simp)
    | some u =>
      obtain ⟨rfl, xs, rfl, g⟩ := S.only b u z
      have z2 := un.frzs b _ _ z
      obtain ⟨e2, _⟩ := hok' b _ z2
      rw [g] at e; cases e
      exact e2
/-- the goal behind the top, by a promise over the law's computation -/
theorem walk_ofG {l : PySem.W.OpenLaw} {n k : Nat} {q : Program} {loose : List Str} {XP : (Str → Option Value) → Heap → Prop} {YP : World → Heap → Prop} {d : DefRec} {K : Params → PySem.W.Frag} {x : Str} {F : List T → G T}
    (hn : l.most = some n) (hn2 : n ≤ 1000) (hdf : d.params.defaults = []) (hr : Room k callerA)
    (hY : ∀ (w : World) (h : Heap), YP w h → (K w.params).In h)
    (hF : ∀ (w : World) (mg : Str → Option Value) (fa : Addr) (h : Heap), (K w.params).In h → h.Ns mainGlobals mg → mg d.name = some (.ref fa) →
      ∃ fd : FuncData, (∀ (s : Shared) (u : Value), BindsTo s fd ⟨[u], []⟩ [(x, u)]) ∧
        ∀ base : Heap, (K w.params).In base → base.Ns mainGlobals mg → FnG l.prog w (K w.params) mg base k fa fd [x] (SpT (K w.params) mg 1 F))
    (hsp : ∀ ns : List Int, (F [.scr ns]).wp (fun t => t = .bl true) (fun _ => False)) :
    PySem.W.WalkO q loose XP YP l.row.toRowW d [] (fun f vs => PySem.call f vs) := by
  refine Att.attach_call hn hdf fun w s₀ s₁ mg mb fa o pm cd doc a vs ns G0 Y ho hd hcd hmg hobj hints hlen hg => ?_
  have KX := hY w _ Y
  obtain ⟨fd, hb, hfn⟩ := hF w mg fa _ KX G0.T.g hmg
  have hl : ns.length ≤ 1000 := Nat.le_trans hlen hn2
  refine law_callG KX G0.T.g G0.T.b G0.T.builtins G0.T.nolimit hg hobj hints (Nat.le_of_lt (small1000 hl)) hr hfn hb fun H hS => ?_
  refine ⟨⟨[], fun _ => True, fun _ _ _ h => h, fun _ _ a ha => (nomatch ha), fun a r e => (nomatch e), 0⟩, [.scr ns], H, rfl, ⟨Sub.refl _, fun a ha => (nomatch ha), trivial⟩, .cons (.scr hS hl) .nil, G.wp_mono (hsp ns) (fun t ht v H' Z' g tr => ?_) fun e h => False.elim h⟩
  subst ht
  cases tr
  rfl
end TL
end s_TL23
section s_TL24
set_option Elab.async false
set_option linter.all false
set_option maxRecDepth 100000
set_option maxHeartbeats 4000000
/-! TL24: the draws' dict -/
namespace TL
open PySem PySem.Spec PyProof.Rows L2
def drk (g c : Addr) (rest turn : Nat) : List (Key × V) := [(.inr "great", .ref g), (.inr "rest", .int rest), (.inr "cells", .ref c), (.inr "turn", .int turn)]
def natsV (l : List Nat) : List V := l.map fun n : Nat => V.int (n : Int)
theorem dr_great {g c : Addr} {rest turn : Nat} : valV (drk g c rest turn) (.inr "great") = some (.ref g) := by rfl
theorem dr_rest {g c : Addr} {rest turn : Nat} : valV (drk g c rest turn) (.inr "rest") = some (.int rest) := by rfl
theorem dr_cells {g c : Addr} {rest turn : Nat} : valV (drk g c rest turn) (.inr "cells") = some (.ref c) := by rfl
theorem dr_turn {g c : Addr} {rest turn : Nat} : valV (drk g c rest turn) (.inr "turn") = some (.int turn) := by rfl
theorem dr_setRest {g c : Addr} {rest turn : Nat} {v : V} : putK (drk g c rest turn) (.inr "rest") v = [(.inr "great", .ref g), (.inr "rest", v), (.inr "cells", .ref c), (.inr "turn", .int turn)] := by rfl
theorem dr_setTurn {g c : Addr} {rest turn : Nat} {v : V} : putK (drk g c rest turn) (.inr "turn") v = [(.inr "great", .ref g), (.inr "rest", .int rest), (.inr "cells", .ref c), (.inr "turn", v)] := by rfl
section
variable {X : Cx} {w : Wd} {E : XK} {fr : Bool} {H0 Z0 H Z H2 : Hp} {r : List Sl} {σ : L2.St} {o : Nat → List Addr} {D : Ends} {e : Expr} {ca : EC} {k : Nat}
theorem tr_drw {K : PySem.W.Frag} {mg : Str → Option Value} {v : V} (h : Tr K mg w Z .drw v) : ∃ d g c cs, v = .ref d ∧ w.W = [d, g, c] ∧ ∀ H, w.WI H ↔ DrI d g c cs H := by
  cases h with
  | @drw a r e =>
    obtain ⟨g, c, cs, rfl, q⟩ := w.ok _ _ e
    exact ⟨a, g, c, cs, rfl, e, q⟩
theorem EnvR.draw (R : EnvR X.km w H0 Z0 r σ H Z o) (h : ∀ a, a ∉ w.W → H2 a = H a) (hi : w.WI H2) : EnvR X.km w H0 Z0 r σ H2 Z o := by
  refine ⟨⟨⟨fun a u e => ?_, R.good.zw, hi⟩, R.gr.zz, R.gr.new, fun a u e hw => ?_⟩, R.len, fun i s x h1 h2 => (R.sl i s x h1 h2).move (Sub.refl _) fun b hb v q => by rw [h b (R.fr i b hb).2.2]; exact q, R.out, R.dis, R.fr⟩
  · have nw : a ∉ w.W := fun hm => by rw [R.good.zw a hm] at e; cases e
    rw [h a nw]; exact R.good.zh a u e
  · rw [h a hw]; exact R.gr.hh a u e hw
/-- the slot that holds the draws -/
theorem EnvR.drw (R : EnvR X.km w H0 Z0 r σ H Z o) {i : Nat} (hr : r[i]? = some (.fz .drw)) : ∃ d g c cs, σ[i]? = some (some (.ref d)) ∧ w.W = [d, g, c] ∧ (∀ H, w.WI H ↔ DrI d g c cs H) ∧ DrI d g c cs H := by
  have hi : i < σ.length := by
    have := (List.getElem?_eq_some_iff.mp hr).1
    rw [R.len] at this; exact this
  obtain ⟨_, v, ev, tr⟩ := R.sl i _ _ hr (List.getElem?_eq_getElem hi)
  obtain ⟨d, g, c, cs, rfl, e1, e2⟩ := tr_drw tr
  exact ⟨d, g, c, cs, (List.getElem?_eq_getElem hi).trans (congrArg some ev), e1, e2, (e2 H).mp R.good.wi⟩
/-- draw['rest'], draw['turn'] -/
def cDr (i : Nat) : EC := fun r => match r[i]? with
  | some (.fz .drw) => .any fun l => .ret (.int l.length)
  | _ => .stuck
theorem ce_dr (i : Nat) {x key : Str} {j : Nat} {p1 p2 pos : Pos} (hkey : key = "rest" ∨ key = "turn") (hr : Room k X.A) (hN : X.N[i]? = some x := by rfl) (hv : Vis X.env.scope x := by first | exact Or.inl rfl | exact Or.inr (Or.inl rfl) | exact Or.inr (Or.inr rfl)) (hd : (x == ("__debug__" : Str)) = false := by decide)
    (hcd : (x == ("__classdict__" : Str)) = false := by decide) (hs : PlainIx (.Constant (.str key) j p2) := by exact fun _ _ => rfl) : CE X w E (.Subscript (.Name x p1) (.Constant (.str key) j p2) pos) (cDr i) := by
  refine ⟨peImp (pe_ix (o_ix hr) (pe_var hN hv hd hcd) pe_str hs) fun σ H Q h => ?_⟩
  obtain ⟨H0, Z0, r, Z, o, R, h⟩ := h
  unfold cDr at h
  split at h
  · rename_i er
    obtain ⟨d, g, c, cs, es, hW, hWI, hdg, hdc, hgc, lc, gs, rest, turn, lg, e1, e2, e3⟩ := R.drw er
    refine ⟨.ref d, es, ?_⟩
    rcases hkey with rfl | rfl
    · have q := h (List.replicate rest 0) (.int rest) H Z (Grow.refl R.good) (by have z := Tr.int (K := X.K) (mg := X.mg) (w := w) (Z := Z) ((List.replicate rest 0).length : Int); rw [List.length_replicate] at z ⊢; exact z)
      exact .inr ⟨d, _, rfl, .inl ⟨_, _, .inl e1, rfl, dr_rest.symm⟩, q⟩
    · have q := h (List.replicate turn 0) (.int turn) H Z (Grow.refl R.good) (by have z := Tr.int (K := X.K) (mg := X.mg) (w := w) (Z := Z) ((List.replicate turn 0).length : Int); rw [List.length_replicate] at z ⊢; exact z)
      exact .inr ⟨d, _, rfl, .inl ⟨_, _, .inl e1, rfl, dr_turn.symm⟩, q⟩
  · exact False.elim h
/-- draw['rest'] = e, draw['turn'] = e -/
def cDrPut (i : Nat) (ca : EC) : SC := fun r => ca r >>= fun t => match r[i]?, t with
  | some (.fz .drw), .int n => if 0 ≤ n then .ret (.nx r) else .stuck
  | _, _ => .stuck
theorem cs_drPut (i : Nat) {x key : Str} {j : Nat} {p1 p2 pos' pos : Pos} (hkey : key = "rest" ∨ key = "turn") (hu : X.A.units + 1 < cLine) (he : CE X w E e ca) (hN : X.N[i]? = some x := by rfl) (hv : Vis X.env.scope x := by first | exact Or.inl rfl | exact Or.inr (Or.inl rfl) | exact Or.inr (Or.inr rfl))
    (hd : (x == ("__debug__" : Str)) = false := by decide) (hcd : (x == ("__classdict__" : Str)) = false := by decide) (hs : swapsWith e (some (.Subscript (.Name x p1) (.Constant (.str key) j p2) pos')) pos.line X.env = pure false := by rfl) :
    CS X w E fr (.Assign [.Subscript (.Name x p1) (.Constant (.str key) j p2) pos'] e pos) (cDrPut i ca) := by
  refine ⟨psImp (ps_dput hu (pe_var hN hv hd hcd) pe_str he.pe hs) fun D σ H h => ?_⟩
  obtain ⟨H0, Z0, r, Z, o, R, h⟩ := h
  refine evSeqS R h fun y H1 Z1 t R1 g1 t1 h1 => ?_
  split at h1
  · rename_i n er
    split at h1
    · rename_i hn
      cases t1
      obtain ⟨m, rfl⟩ := Int.eq_ofNat_of_zero_le hn
      obtain ⟨d, g, c, cs, es, hW, hWI, hdg, hdc, hgc, lc, gs, rest, turn, lg, e1, e2, e3⟩ := R1.drw er
      have out : ∀ u a, a ∉ w.W → (upd H1 d u) a = H1 a := fun u a ha => upd_ne fun z => ha (by rw [hW, z]; simp)
      rcases hkey with rfl | rfl
      · refine ⟨.ref d, es, d, _, rfl, .inl ⟨_, .inr "rest", e1, rfl, by show (4 : Nat) < sizeLine; rw [sizeLine_eq]; decide, rfl⟩, ?_⟩
        rw [show putK [((.inr "great" : Key), V.ref g), (.inr "rest", .int rest), (.inr "cells", .ref c), (.inr "turn", .int turn)] (.inr "rest") (.int (m : Int)) = _ from dr_setRest (rest := rest)]
        refine h1 σ _ Z1 o (R1.draw (out _) ((hWI _).mpr ⟨hdg, hdc, hgc, lc, gs, m, turn, lg, upd_same, ?_, ?_⟩)) (Sub.refl _)
        · rw [upd_ne hdg.symm]; exact e2
        · rw [upd_ne hdc.symm]; exact e3
      · refine ⟨.ref d, es, d, _, rfl, .inl ⟨_, .inr "turn", e1, rfl, by show (4 : Nat) < sizeLine; rw [sizeLine_eq]; decide, rfl⟩, ?_⟩
        rw [show putK [((.inr "great" : Key), V.ref g), (.inr "rest", .int rest), (.inr "cells", .ref c), (.inr "turn", .int turn)] (.inr "turn") (.int (m : Int)) = _ from dr_setTurn (turn := turn)]
        refine h1 σ _ Z1 o (R1.draw (out _) ((hWI _).mpr ⟨hdg, hdc, hgc, lc, gs, rest, m, lg, upd_same, ?_, ?_⟩)) (Sub.refl _)
        · rw [upd_ne hdg.symm]; exact e2
        · rw [upd_ne hdc.symm]; exact e3
    · exact False.elim h1
  · exact False.elim h1
/-- for cell in draw['cells'] -/
def cDrCells (i : Nat) : List Sl → G (List T) := fun r => match r[i]? with
  | some (.fz .drw) => .any fun l => if l.length ≤ 1000 then .ret (l.map fun n : Nat => T.int (n : Int)) else .ret []
  | _ => .stuck
theorem ci_drCells (i : Nat) {tg : Expr} {x : Str} {j : Nat} {p1 p2 pos : Pos} (hr : Room k X.A) (hN : X.N[i]? = some x := by rfl) (hv : Vis X.env.scope x := by first | exact Or.inl rfl | exact Or.inr (Or.inl rfl) | exact Or.inr (Or.inr rfl)) (hd : (x == ("__debug__" : Str)) = false := by decide)
    (hcd : (x == ("__classdict__" : Str)) = false := by decide) (hs : PlainIx (.Constant (.str "cells") j p2) := by exact fun _ _ => rfl) : CI X w E tg (.Subscript (.Name x p1) (.Constant (.str "cells") j p2) pos) (cDrCells i) := by
  refine ⟨piImp (pi_list (pe_ix (o_ix hr) (pe_var hN hv hd hcd) pe_str hs)) fun σ H Rr h => ?_⟩
  obtain ⟨H0, Z0, r, Z, o, R, h⟩ := h
  unfold cDrCells at h
  split at h
  · rename_i er
    obtain ⟨d, g, c, cs, es, hW, hWI, hdg, hdc, hgc, lc, gs, rest, turn, lg, e1, e2, e3⟩ := R.drw er
    refine ⟨.ref d, es, .inr ⟨d, _, rfl, .inl ⟨_, _, .inl e1, rfl, dr_cells.symm⟩, ?_⟩⟩
    have q : (if cs.length ≤ 1000 then G.ret (cs.map fun n : Nat => T.int (n : Int)) else .ret [] : G (List T)).wp (fun ts => ∀ J H' Z', Grow w H Z H' Z' → ts.length ≤ sizeLine → IterOk X.km w J ts Z' → Rr J H') (PostX X.km w E H0 Z0) := h cs
    rw [if_pos lc] at q
    refine ⟨c, rfl, ⟨_, .inl (.inl e3)⟩, q _ H Z (Grow.refl R.good) (by rw [List.length_map]; exact Nat.le_of_lt (small1000 lc)) fun n H1 Z1 s g1 => ?_⟩
    obtain ⟨_, _, _, _, gs', rest', turn', _, _, _, f3⟩ := (hWI H1).mp g1.wi
    have hS : SqL X.K H1 c (cs.map fun n : Nat => V.int (n : Int)) := .inl (.inl f3)
    refine ⟨fun t ht => ?_, fun hl => ⟨_, hS, by rw [List.length_map] at hl ⊢; omega⟩⟩
    rw [List.getElem?_map, Option.map_eq_some_iff] at ht
    obtain ⟨m, hm, rfl⟩ := ht
    have hv : (cs.map fun n : Nat => V.int (n : Int))[n]? = some (.int m) := by rw [List.getElem?_map, hm]; rfl
    refine ⟨⟨_, _, hS, hv⟩, fun x H' y => ?_⟩
    obtain ⟨rfl, y⟩ := y
    have e := y _ hS
    rw [hv] at e
    cases e
    exact ⟨Z1, Grow.refl g1, .int _⟩
  · exact False.elim h
end
end TL
end s_TL24
section s_TL25
set_option Elab.async false
set_option linter.all false
set_option maxRecDepth 100000
set_option maxHeartbeats 4000000
/-! TL25: the draws' taking and making -/
namespace TL
open PySem PySem.Spec PyProof.Rows L2
theorem dp_nats {K : PySem.W.Frag} {H : Hp} : ∀ l : List Nat, DpAll K H (natsV l) (l.map fun n : Nat => PyData.int (n : Int))
  | [] => .nil
  | n :: l => .cons (.int _) (dp_nats l)
theorem lay_nats : ∀ l : List Nat, PyData.canLayAll0 (l.map fun n : Nat => PyData.int (n : Int)) = true ∧ PyData.depthAll (l.map fun n : Nat => PyData.int (n : Int)) = 0
  | [] => ⟨rfl, rfl⟩
  | n :: l => by
    obtain ⟨h1, h2⟩ := lay_nats l
    refine ⟨?_, ?_⟩
    · show (true && _) = true
      rw [Bool.true_and]; exact h1
    · show max 0 _ = 0
      rw [h2]; rfl
theorem shaped_nats (l : List Nat) : SeqAt.shaped (.list (l.map fun n : Nat => PyData.int (n : Int))) = true := by
  obtain ⟨h1, h2⟩ := lay_nats l
  show (PyData.canLayAll0 _ && decide (PyData.depthAll _ + 1 ≤ 64)) = true
  rw [h1, h2]; rfl
section
variable {X : Cx} {w : Wd} {E : XK} {fr : Bool} {H0 Z0 H Z H2 : Hp} {r : List Sl} {σ : L2.St} {o : Nat → List Addr} {D : Ends} {e : Expr} {ca : EC} {k : Nat}
def cDrIf (i : Nat) : SC := fun r => match r[i]? with
  | some (.fz .drw) => .ret (.nx r)
  | _ => .stuck
theorem cs_drIf (i : Nat) {x : Str} {p1 p2 p3 p4 p5 p6 p7 p8 p9 p10 p11 p12 p13 p14 p15 p16 p17 p18 p19 p20 pos apos : Pos} {j1 j2 j3 j4 j5 j6 : Nat} (hr : Room k X.A) (hN : X.N[i]? = some x := by rfl) (hv : Vis X.env.scope x := by first | exact Or.inl rfl | exact Or.inr (Or.inl rfl) | exact Or.inr (Or.inr rfl))
    (hd : (x == ("__debug__" : Str)) = false := by decide) (hcd : (x == ("__classdict__" : Str)) = false := by decide) (hline : (apos.endLine == p14.line) = true := by rfl) :
    CS X w E fr (.If (.BoolOp .And [.Compare (.Subscript (.Name x p1) (.Constant (.str "rest") j1 p2) p3) [.Eq] [.Constant (.int 0) j2 p4] p5,
        .Compare (.Subscript (.Name x p6) (.Constant (.str "great") j3 p7) p8) [.NotEq] [.List [] p9] p10] p11)
      [.Assign [.Subscript (.Name x p12) (.Constant (.str "rest") j4 p13) p15] (.Call (.Attribute (.Subscript (.Name x p16) (.Constant (.str "great") j5 p17) p18) "pop" apos) [.Constant (.int 0) j6 p19] [] p14) p20] [] pos) (cDrIf i) := by
  refine ⟨psImp (ps_if (PW.pt (pw_and (pt_cmpR (o_eq hr) (pe_ix (o_ix hr) (pe_var hN hv hd hcd) pe_str fun _ _ => rfl) pe_int rfl) (pw_and1 (pt_cmpR (o_ne hr) (pe_ix (o_ix hr) (pe_var hN hv hd hcd) pe_str fun _ _ => rfl) (pe_lst pa_nil) rfl))))
    (pss_one (ps_dput (hu_of hr) (pe_var hN hv hd hcd) pe_str (pe_bm F.plainAttrs_list F.slot_list_pop F.type_list_pop mt_popAt (pe_ix (o_ix hr) (pe_var hN hv hd hcd) pe_str fun _ _ => rfl) (pa_cons pe_int pa_nil) (hline := hline)) rfl)) pss_nil) fun D σ H h => ?_⟩
  obtain ⟨H0, Z0, r, Z, o, R, h⟩ := h
  unfold cDrIf at h
  split at h
  · rename_i er
    obtain ⟨d, g, c, cs, es, hW, hWI, hdg, hdc, hgc, lc, gs, rest, turn, lg, e1, e2, e3⟩ := R.drw er
    have g_rest : ∀ {H' : Hp} {v : V}, H' d = some (.dK [(.inr "great", .ref g), (.inr "rest", v), (.inr "cells", .ref c), (.inr "turn", .int turn)]) → DGet H' d (.str "rest") (some v) := fun q => .inl ⟨_, .inr "rest", .inl q, rfl, rfl⟩
    have g_great : ∀ {H' : Hp} {v : V}, H' d = some (.dK [(.inr "great", .ref g), (.inr "rest", v), (.inr "cells", .ref c), (.inr "turn", .int turn)]) → DGet H' d (.str "great") (some (.ref g)) := fun q => .inl ⟨_, .inr "great", .inl q, rfl, rfl⟩
    -- draw['rest'] == 0
    refine ⟨.ref d, es, .inr ⟨d, _, rfl, g_rest e1, .inl ⟨rfl, ?_⟩⟩⟩
    refine ⟨_, rfl, ?_⟩
    cases hz : decide (V.int (rest : Int) = V.int 0) with
    | true =>
      refine iteT ?_
      -- draw['great'] != []
      refine ⟨.ref d, es, .inr ⟨d, _, rfl, g_great e1, ?_⟩⟩
      refine ⟨Nat.zero_le _, fun p hp => ?_⟩
      have nd : d ≠ p := ne_of_none e1 hp
      have ng : g ≠ p := ne_of_none e2 hp
      have nc : c ≠ p := ne_of_none e3 hp
      have hpw : p ∉ w.W := fun hm => R.good.nw hp p hm rfl
      refine .inr ⟨.list (gs.map fun n : Nat => PyData.int (n : Int)), .list [], .lst (.inl (.inl (by rw [upd_ne ng]; exact e2))) (dp_nats gs), .lst (.inl (.inl upd_same)) .nil, shaped_nats gs, rfl, _, rfl, ?_⟩
      have R1 : EnvR X.km w H0 Z0 r σ (upd H p (.lst [])) Z o := R.grow (Grow.laid R.good hp)
      cases gs with
      | nil => exact iteF (h σ _ Z o R1 (Sub.refl _))
      | cons g0 gs =>
        refine iteT ?_
        refine ⟨.ref d, by exact es, .inr ⟨d, _, rfl, g_great (v := .int rest) (by rw [upd_ne nd]; exact e1), ?_⟩⟩
        have eg : (upd H p (.lst [])) g = some (.lst ((g0 :: gs).map fun n : Nat => V.int (n : Int))) := by rw [upd_ne ng]; exact e2
        refine ⟨.inl ⟨rfl, _, .inl (.inl eg)⟩, ?_⟩
        refine ⟨g, _, 0, 0, .int g0, rfl, rfl, eg, by decide, by decide, seqIndex_of (by decide) (by simp), rfl, ?_⟩
        have ed : (upd (upd H p (.lst [])) g (.lst (gs.map fun n : Nat => V.int (n : Int)))) d = some (.dK (drk g c rest turn)) := by
          rw [upd_ne hdg, upd_ne nd]; exact e1
        refine ⟨.ref d, es, d, _, rfl, .inl ⟨_, .inr "rest", ed, rfl, by show (4 : Nat) < sizeLine; rw [sizeLine_eq]; decide, rfl⟩, ?_⟩
        rw [dr_setRest]
        refine h σ _ Z o (R1.draw (fun a ha => ?_) ((hWI _).mpr ⟨hdg, hdc, hgc, lc, gs, g0, turn, by rw [List.length_cons] at lg; omega, upd_same, ?_, ?_⟩)) (Sub.refl _)
        · rw [hW] at ha
          simp only [List.mem_cons, List.not_mem_nil, or_false, not_or] at ha
          rw [upd_ne ha.1, upd_ne ha.2.1]
        · rw [upd_ne hdg.symm]; exact upd_same
        · rw [upd_ne hdc.symm, upd_ne hgc.symm, upd_ne nc]; exact e3
    | false => exact iteF (iteF (h σ H Z o R (Sub.refl _)))
  · exact False.elim h
end
end TL
end s_TL25
section s_TL26
set_option Elab.async false
set_option linter.all false
set_option maxRecDepth 100000
set_option maxHeartbeats 4000000
/-! TL26: the draws are made: a world of one's own from then on -/
namespace TL
open PySem PySem.Spec PyProof.Rows L2
/-- the world of draws at d, g, c -/
def drWd (d g c : Addr) (cs : List Nat) (me : Addr) : Wd where
  W := [d, g, c]
  WI := DrI d g c cs
  loc := fun H H' h ⟨a1, a2, a3, lc, gs, rest, turn, lg, e1, e2, e3⟩ => ⟨a1, a2, a3, lc, gs, rest, turn, lg, by rw [h d (by simp)]; exact e1, by rw [h g (by simp)]; exact e2, by rw [h c (by simp)]; exact e3⟩
  tr := fun H ⟨a1, a2, a3, lc, gs, rest, turn, lg, e1, e2, e3⟩ a ha => by
    simp only [List.mem_cons, List.not_mem_nil, or_false] at ha
    rcases ha with rfl | rfl | rfl
    · rw [e1]; simp
    · rw [e2]; simp
    · rw [e3]; simp
  ok := fun a r e => by
    cases e
    exact ⟨g, c, cs, rfl, fun H => Iff.rfl⟩
  me := me
/-- what _law_begin is to do: the draws' dict of its own -/
def SpBegin (K : PySem.W.Frag) : Sp := fun vs H Q _ => ∃ (a : Addr) (ns : List Int), vs = [.ref a] ∧ SqL K H a (ns.map V.int) ∧ ns.length ≤ 1000 ∧
  ∀ d g c cs H', (∀ b u, H b = some u → H' b = some u) → H d = none → H g = none → H c = none → DrI d g c cs H' → Q (.ref d) H'
section
variable {X : Cx} {w : Wd} {E : XK} {fr : Bool} {k : Nat} {f : Addr} {fd : FuncData} {ps : List Str} {sts : List Stmt} {c : SC}
def plainSl : Sl → Bool
  | .un => true
  | .fz (.scr _) => true
  | _ => false
def cBegin (i j : Nat) (c : SC) : SC := fun r => match r[j]? with
  | some (.fz (.scr ns)) => if r.all plainSl = true then (c (r.set i (.fz .drw))).nox >>= fun k => (match k with | .rt (.bl b) => .ret (.rt (.bl b)) | _ => .stuck) else .stuck
  | _ => .stuck
/-- the first statement of the law: draw = _law_begin(script) -/
theorem css_begin (hw0 : w.W = []) {x s : Str} {i j : Nat} {fn : Str} {p1 p2 p3 p4 pos : Pos} (hN : X.N.Nodup) (Fk : FnG X.prog X.w X.K X.mg X.base k f fd ps (SpBegin X.K)) (gd : X.A.guards = some []) (hr : Room k X.A) (hg : Gl X fn) (hm : X.mg fn = some (.ref f)) (hk : PySem.W.keepIn X.K (.ref f) = true) (hb : Binds X.K fd ps [])
    (rest : ∀ w' : Wd, CSs X w' E false sts c) (hi : X.N[i]? = some x := by rfl) (hx : Loc X.env.scope x := by first | exact Or.inl rfl | exact Or.inr rfl) (hj : X.N[j]? = some s := by rfl) (hv : Vis X.env.scope s := by first | exact Or.inl rfl | exact Or.inr (Or.inl rfl) | exact Or.inr (Or.inr rfl))
    (hd : (s == ("__debug__" : Str)) = false := by decide) (hcd : (s == ("__classdict__" : Str)) = false := by decide) (hdb : (fn == ("__debug__" : Str)) = false := by decide) (hij : i ≠ j := by decide)
    (hs : swapsWith (.Call (.Name fn p1) [.Name s p2] [] p3) (some (.Name x p4)) pos.line X.env = pure false := by rfl) (hf : X.fn x = true ∨ X.env.scope.names.lookup x = some .local := by first | exact .inl rfl | exact .inr rfl | assumption) :
    CSs X w E false (.Assign [.Name x p4] (.Call (.Name fn p1) [.Name s p2] [] p3) pos :: sts)
      (cBegin i j c) := by
  have hp := ps_set (pos' := p4) hN hi hx (peG (p := p1) (pos := p3) Fk gd hr hg hm hk hb (E := fun _ _ _ => False) passes_false (pa_cons (pe_var (pos := p2) hj hv hd hcd) pa_nil) hdb) hs hf
  have hrest : PSs X sts (fun D σ H => ∃ w', EvS X.km w' E false c D σ H) := ⟨fun pins s σ H D I ⟨w', h⟩ => (rest w').ps.run pins s σ H D I h⟩
  refine ⟨pssImp (pss_cons hp hrest) fun D σ H h => ?_⟩
  obtain ⟨H0, Z0, r, Z, o, R, h⟩ := h
  unfold cBegin at h
  split at h
  · rename_i ns er
    split at h
    · rename_i hall
      have hj' : j < σ.length := by
        have := (List.getElem?_eq_some_iff.mp er).1
        rw [R.len] at this; exact this
      obtain ⟨_, v, ev, tv⟩ := R.sl j _ _ er (List.getElem?_eq_getElem hj')
      cases tv with
      | @scr _ a hS hl =>
        refine ⟨.ref a, (List.getElem?_eq_getElem hj').trans (congrArg some ev), a, ns, rfl, R.good.sqL hS, hl, fun d g c' cs H' hext hd' hg' hc' hDr => ?_⟩
        have zn : ∀ b, H b = none → Z b = none := fun b hb => R.good.tracked hb
        have good' : Good (drWd d g c' cs w.me) H' Z := ⟨fun b u e => hext b u (R.good.zh b u e), fun b hb => by
          have hb' : b = d ∨ b = g ∨ b = c' := by simpa [drWd] using hb
          rcases hb' with rfl | rfl | rfl
          · exact zn _ hd'
          · exact zn _ hg'
          · exact zn _ hc', hDr⟩
        refine ⟨drWd d g c' cs w.me, H', Z, r.set i (.fz .drw), Z, fun _ => [], ?_, ?_⟩
        · refine ⟨Grow.refl good', by rw [List.length_set, List.length_set]; exact R.len, fun n s y h1 h2 => ?_, fun _ _ => rfl, fun _ _ _ hm => (nomatch hm), fun _ _ hm => (nomatch hm)⟩
          by_cases en : n = i
          · subst en
            have hn : n < r.length := by
              have := (List.getElem?_eq_some_iff.mp h1).1
              rwa [List.length_set] at this
            rw [List.getElem?_set_self hn] at h1
            rw [List.getElem?_set_self (R.len ▸ hn)] at h2
            cases h1; cases h2
            exact ⟨rfl, _, rfl, .drw rfl⟩
          · rw [List.getElem?_set_ne (Ne.symm en)] at h1 h2
            have q := R.sl n s y h1 h2
            have hs : plainSl s = true := List.all_eq_true.mp hall s (List.mem_of_getElem? h1)
            cases s with
            | un => exact rfl
            | fz t =>
              cases t with
              | scr ms =>
                obtain ⟨_, v, rfl, tv⟩ := q
                cases tv with
                | scr a b => exact ⟨rfl, _, rfl, .scr a b⟩
              | _ => cases hs
            | ow t => cases hs
            | me t => cases hs
            | dp t => cases hs
        · have h1 := G.wp_bind.mp h
          refine G.wp_nox (G.wp_mono h1 (fun kk hk => ?_) fun _ x => x)
          cases kk with
          | rt t =>
            cases t with
            | bl b =>
              · have goal : PostR X.km (drWd d g c' cs w.me) false H' Z (.bl b) D.rt := fun v H2 Z2 g2 tv => by
                  cases tv
                  have hk' : PostR X.km w false H0 Z0 (.bl b) D.rt := hk
                  refine hk' (.bl b) H2 Z2 ⟨⟨g2.good.zh, fun a ha => (by rw [hw0] at ha; cases ha), w.loc H H2 (fun a ha => (by rw [hw0] at ha; cases ha)) R.good.wi⟩, R.gr.zz.trans g2.zz, fun a u e => ?_, fun a u e _ => ?_⟩ (.bl b)
                  · rcases g2.new a u e with q | q
                    · exact R.gr.new a u q
                    · refine .inr ?_
                      cases z : H0 a with
                      | none => rfl
                      | some u' =>
                        have z1 := hext a u' (R.gr.hh a u' z (by rw [hw0]; simp))
                        rw [q] at z1; cases z1
                  · have z1 := R.gr.hh a u e (by rw [hw0]; simp)
                    refine g2.hh a u (hext a u z1) fun hm => ?_
                    have hm' : a = d ∨ a = g ∨ a = c' := by simpa [drWd] using hm
                    rcases hm' with rfl | rfl | rfl
                    · rw [hd'] at z1; cases z1
                    · rw [hg'] at z1; cases z1
                    · rw [hc'] at z1; cases z1
                exact goal
            | _ => exact False.elim hk
          | nx r => exact False.elim hk
          | bk r => exact False.elim hk
          | ct r => exact False.elim hk
    · exact False.elim h
  · exact False.elim h
end
end TL
end s_TL26
section s_TL27
set_option Elab.async false
set_option linter.all false
set_option maxRecDepth 100000
set_option maxHeartbeats 4000000
/-! TL27: _law_begin -/
namespace TL
open PySem PySem.Spec PyProof.Rows L2
abbrev natsT (l : List Nat) : List T := l.map fun n : Nat => T.int (n : Int)
theorem trs_nats {K : PySem.W.Frag} {mg : Str → Option Value} {w : Wd} {Z : Hp} : ∀ {l : List Nat} {vs : List V}, Trs K mg w Z (natsT l) vs → vs = natsV l
  | [], _, h => by cases h; rfl
  | n :: l, _, h => by
    cases h with
    | cons a b =>
      cases a
      rw [trs_nats b]
      rfl
section
variable {X : Cx} {w : Wd} {E : XK} {e2 : Expr} {cc : EC}
/-- return {'great': great, 'rest': 0, 'cells': [..], 'turn': 0} -/
def tBeg (X : Km) (w : Wd) (E : XK) (i : Nat) (cc : EC) : TS := fun D σ H => ∃ H0 Z0 r Z o, w.W = [] ∧ EnvR X.km w H0 Z0 r σ H Z o ∧ ∃ gs : List Nat, r[i]? = some (.ow (.lst (natsT gs))) ∧ gs.length ≤ 1000 ∧
  (cc r).wp (fun t => ∃ cs : List Nat, t = .lst (natsT cs) ∧ cs.length ≤ 1000) (fun _ => False) ∧
  ∀ d g c cs H', (∀ b u, H0 b = some u → H' b = some u) → H0 d = none → H0 g = none → H0 c = none → DrI d g c cs H' → D.rt (.ref d) H'
theorem ps_beg (i : Nat) {x : Str} {p1 p2 p3 p4 p5 p6 p7 p8 pos : Pos} {j1 j2 j3 j4 j5 j6 : Nat} (hcc : CF X w E e2 cc) (hN : X.N[i]? = some x := by rfl) (hv : Vis X.env.scope x := by first | exact Or.inl rfl | exact Or.inr (Or.inl rfl) | exact Or.inr (Or.inr rfl)) (hd : (x == ("__debug__" : Str)) = false := by decide)
    (hcd : (x == ("__classdict__" : Str)) = false := by decide) :
    PS X (.Return (some (.Dict [some (.Constant (.str "great") j1 p1), some (.Constant (.str "rest") j2 p2), some (.Constant (.str "cells") j3 p3), some (.Constant (.str "turn") j4 p4)] [.Name x p5, .Constant (.int 0) j5 p6, e2, .Constant (.int 0) j6 p7] p8)) pos) (tBeg X.km w E i cc) := by
  refine psImp (ps_ret (pe_disp (pps_cons pe_str (pe_var hN hv hd hcd) (pps_cons pe_str pe_int (pps_cons pe_str hcc.pe (pps_cons pe_str pe_int pps_nil)))) rfl rfl (by intro h; cases h) (by simp))) fun D σ H h => ?_
  obtain ⟨H0, Z0, r, Z, o, hw0, R, gs, er, lg, hc, fin⟩ := h
  intro p hp
  obtain ⟨g, es, rt⟩ := R.own er
  obtain ⟨eo, vs, hg, lv, tr⟩ := rt
  have ev := trs_nats tr
  subst ev
  have nil : ∀ a, a ∉ w.W := fun a ha => by rw [hw0] at ha; cases ha
  have hz : Z p = none := R.good.tracked hp
  have back : ∀ a, H a = none → H0 a = none := fun a ha => by
    cases e : H0 a with
    | none => rfl
    | some u => have z := R.gr.hh a u e (nil a); rw [ha] at z; cases z
  have ho : ∀ n, p ∉ o n := fun n hm => R.tr n p hm hp
  have R1 : EnvR X.km w H0 Z0 r σ (upd H p (.dK [])) Z o := R.beside (back p hp) hz (nil p) ho
  have gp : g ≠ p := ne_of_none hg hp
  refine ⟨.ref g, es, ?_⟩
  refine ⟨H0, Z0, r, Z, o, R1, G.wp_mono hc (fun t ⟨cs, et, lc⟩ c oo H2 Z2 g2 rt2 f2 => ?_) fun _ x => False.elim x⟩
  subst et
  obtain ⟨eo2, vs2, hc2, lv2, tr2⟩ := rt2
  have ev2 := trs_nats tr2
  subst ev2 eo2
  have hcn := (f2 c (by simp)).1
  have cp : c ≠ p := fun z => by rw [z, upd_same] at hcn; cases hcn
  have hcn' : H c = none := by rw [upd_ne cp] at hcn; exact hcn
  have gc : g ≠ c := ne_of_none hg hcn'
  have hg2 : H2 g = some (.lst (natsV gs)) := g2.hh g _ (by rw [upd_ne gp]; exact hg) (nil g)
  refine ⟨g2.hh p _ upd_same (nil p), [(.inr "great", .ref g), (.inr "rest", .int 0), (.inr "cells", .ref c), (.inr "turn", .int 0)], rfl, by simp, ?_⟩
  refine fin p g c cs _ (fun b u e => ?_) (back p hp) (R.fr i g (by rw [eo]; simp)).1 (back c hcn') ⟨gp.symm, cp.symm, gc, lc, gs, 0, 0, lg, ?_, ?_, ?_⟩
  · have e1 := R.gr.hh b u e (nil b)
    have nb : b ≠ p := ne_of_none e1 hp
    rw [upd_ne nb]
    exact g2.hh b u (by rw [upd_ne nb]; exact e1) (nil b)
  · rw [upd_same]; rfl
  · rw [upd_ne gp]; exact hg2
  · rw [upd_ne cp]; exact hc2
end
section
variable {P : Program} {wd : World} {K : PySem.W.Frag} {mg : Str → Option Value} {base : Heap} {k : Nat} {f : Addr} {fd : FuncData} {N : List Str} {ps : List Str} {x qual : Str} {st st1 st2 : Stmt} {c1 : SC} {cc : EC}
theorem fn_begin (F : Fun K x qual st f fd) (S : FnScope N ps (defScope st)) (hps : ps.length = 1) (hst : defBody st = [st1, st2])
    (body : ∀ (w : Wd) (cdv : Value) (A : Around) (outer : List Env) (s : Shared) (H : Hp) (E : XK), (A.deeper (envOfC qual (defScope st) s.heap.objs.size f cdv)).guards = some [] → Room k (A.deeper (envOfC qual (defScope st) s.heap.objs.size f cdv)) →
      CS (cxOf (L2.CX P wd) P wd K mg base N qual (defScope st) f cdv A outer s H E) w E false st1 c1 ∧ PS (cxOf (L2.CX P wd) P wd K mg base N qual (defScope st) f cdv A outer s H E) st2 (tBeg ⟨K, mg⟩ w E 1 cc))
    (hc : ∀ ns : List Int, ns.length ≤ 1000 → (c1 (.fz (.scr ns) :: List.replicate (N.length - 1) .un)).wp (fun k => ∃ r gs, k = .nx r ∧ r[1]? = some (.ow (.lst (natsT gs))) ∧ gs.length ≤ 1000 ∧
      (cc r).wp (fun t => ∃ cs : List Nat, t = .lst (natsT cs) ∧ cs.length ≤ 1000) (fun _ => False)) (fun _ => False)) : FnG P wd K mg base (k + 1) f fd ps (SpBegin K) := by
  have hpl : ps.length ≤ N.length := by have := congrArg List.length S.pre; rw [List.length_take] at this; omega
  refine fnG_of F S (fun vs H Q E h => by obtain ⟨a, ns, rfl, _⟩ := h; rw [hps]; rfl) fun cdv A outer s H vs Q E gd hr h => ?_
  obtain ⟨a, ns, rfl, hS, hl, hQ⟩ := h
  obtain ⟨b1, b2⟩ := body ⟨[], fun _ => True, fun _ _ _ h => h, fun _ _ a ha => (nomatch ha), fun a r e => (nomatch e), 0⟩ cdv A outer s H E gd hr
  refine ⟨_, by rw [hst]; exact pss_cons b1.ps (pss_one b2), ?_⟩
  have g0 : Good (⟨[], fun _ => True, fun _ _ _ h => h, fun _ _ a ha => (nomatch ha), fun a r e => (nomatch e), 0⟩ : Wd) H H := ⟨Sub.refl _, fun a ha => (nomatch ha), trivial⟩
  have es := env_start (M := ⟨K, mg⟩) (N := N) (ts := [.scr ns]) (vs := [.ref a]) g0 (.cons (.scr hS hl) .nil) (by rw [List.length_singleton]; omega)
  refine ⟨H, H, _, H, _, es, G.wp_mono (hc ns hl) (fun kk ⟨r, gs, ek, er, lg, hcc⟩ => ?_) fun _ x => False.elim x⟩
  subst ek
  refine fun σ' H' Z' o' R' s' => ?_
  exact ⟨H, H, r, Z', o', rfl, R', gs, er, lg, hcc, hQ⟩
end
end TL
end s_TL27
section s_TL28
set_option Elab.async false
set_option linter.all false
set_option maxRecDepth 100000
set_option maxHeartbeats 4000000
/-! TL28: numbers' operators; what the draws compute; the take -/
namespace TL
open PySem PySem.Spec PyProof.Rows L2
section
variable {M : Km} {w : Wd} {E : XK}
def fDivI : T → T → G T
  | .int i, .int j => if 0 < j ∧ j < 1073741824 then .ret (.int (i / j)) else .stuck
  | _, _ => .stuck
def fModI : T → T → G T
  | .int i, .int j => if 0 < j then .ret (.int (i % j)) else .stuck
  | _, _ => .stuck
def fMulI : T → T → G T
  | .int i, .int j => if (-(2 ^ 64) < i ∧ i < 2 ^ 64) ∨ (-(2 ^ 64) < j ∧ j < 2 ^ 64) then .ret (.int (i * j)) else .stuck
  | _, _ => .stuck
instance : ∀ i j, Decidable (CMul i j) := fun i j => by unfold CMul; infer_instance
def fPowI : T → T → G T
  | .int i, .int j => if 0 ≤ j ∧ j ≤ 1000000 ∧ i.natAbs < 2 ^ 64 then .ret (.int (i ^ j.toNat)) else .stuck
  | _, _ => .stuck
theorem t2_rI {C : Int → Int → Prop} [∀ i j, Decidable (C i j)] {g : Int → Int → Int} {f : T → T → G T} (hf : ∀ i j, f (.int i) (.int j) = if C i j then .ret (.int (g i j)) else .stuck) (hs : ∀ a b, (∀ i j, ¬ (a = .int i ∧ b = .int j)) → f a b = .stuck) : T2 M w E (rI C fun i j => .int (g i j)) f := fun H0 Z0 r σ H Z o R a b x y Q ta tb hw => by
  by_cases h : ∃ i j, a = .int i ∧ b = .int j
  · obtain ⟨i, j, rfl, rfl⟩ := h
    rw [hf] at hw
    by_cases hc : C i j
    · rw [if_pos hc] at hw
      cases ta; cases tb
      exact ⟨i, j, rfl, rfl, hc, hw _ H Z (Grow.refl R.good) (.int _)⟩
    · rw [if_neg hc] at hw; exact False.elim hw
  · rw [hs a b fun i j q => h ⟨i, j, q⟩] at hw; exact False.elim hw
instance : ∀ i j, Decidable (CDiv i j) := fun i j => by unfold CDiv; infer_instance
instance : ∀ i j, Decidable (CPow i j) := fun i j => by unfold CPow; infer_instance
theorem t2_div : T2 M w E (rI CDiv fun i j => .int (i / j)) fDivI := t2_rI (fun i j => by unfold fDivI; by_cases h : 0 < j ∧ j < 1073741824 <;> simp [CDiv, h]) fun a b h => by
  unfold fDivI; split
  · exact absurd ⟨rfl, rfl⟩ (h _ _)
  · rfl
theorem t2_mod : T2 M w E (rI (fun _ j => 0 < j) fun i j => .int (i % j)) fModI := t2_rI (fun i j => by unfold fModI; by_cases h : 0 < j <;> simp [h]) fun a b h => by
  unfold fModI; split
  · exact absurd ⟨rfl, rfl⟩ (h _ _)
  · rfl
theorem t2_pow : T2 M w E (rI CPow fun i j => .int (i ^ j.toNat)) fPowI := t2_rI (fun i j => by unfold fPowI; by_cases h : 0 ≤ j ∧ j ≤ 1000000 ∧ i.natAbs < 2 ^ 64 <;> simp [CPow, h]) fun a b h => by
  unfold fPowI; split
  · exact absurd ⟨rfl, rfl⟩ (h _ _)
  · rfl
theorem t2_mul : T2 M w E (rI CMul fun i j => .int (i * j)) fMulI := t2_rI (fun i j => by unfold fMulI; by_cases h : (-(2 ^ 64) < i ∧ i < 2 ^ 64) ∨ (-(2 ^ 64) < j ∧ j < 2 ^ 64) <;> simp [CMul, h]) fun a b h => by
  unfold fMulI; split
  · exact absurd ⟨rfl, rfl⟩ (h _ _)
  · rfl
end
end TL
end s_TL28
section s_TL29
set_option Elab.async false
set_option linter.all false
set_option maxRecDepth 100000
set_option maxHeartbeats 4000000
/-! TL29: defs by their names: what a law's text is walked with -/
namespace TL
open PySem PySem.Spec PyProof.Rows L2
/-- what a body is walked with -/
structure Bd (X : Cx) (k : Nat) (E : XK) : Prop where
  gd : X.A.guards = some []
  hr : Room k X.A
  hx : Passes (L2.CX X.prog X.w) X E
  po : PassesOwn (model X.prog X.w) X.A X.env X.xe
theorem Bd.blk {X : Cx} {k : Nat} {E : XK} (B : Bd X k E) (s : Shared) (H : Hp) (scope : Scope) (env : Env) (fp : List Addr) : Bd (X.blk s H scope env fp) k (fun _ _ _ => False) := ⟨B.gd, B.hr, passes_false, PassesOwn.never⟩
/-- the def x stands at the top -/
structure FunAt (K : PySem.W.Frag) (mg : Str → Option Value) (x qual : Str) (st : Stmt) (ps : List Str) : Prop where
  ex : ∃ f fd, mg x = some (.ref f) ∧ PySem.W.keepIn K (.ref f) = true ∧ Fun K x qual st f fd ∧ Binds K fd ps []
/-- it may be called -/
structure CallG (P : Program) (wd : World) (K : PySem.W.Frag) (mg : Str → Option Value) (base : Heap) (k : Nat) (x : Str) (sp : Sp) : Prop where
  ex : ∃ f fd ps, mg x = some (.ref f) ∧ PySem.W.keepIn K (.ref f) = true ∧ Binds K fd ps [] ∧ FnG P wd K mg base k f fd ps sp
abbrev CallT (P : Program) (wd : World) (K : PySem.W.Frag) (mg : Str → Option Value) (base : Heap) (k : Nat) (x : Str) (n : Nat) (F : List T → G T) : Prop := CallG P wd K mg base k x (SpT K mg n F)
abbrev CallN (P : Program) (wd : World) (K : PySem.W.Frag) (mg : Str → Option Value) (base : Heap) (k : Nat) (x : Str) (n : Nat) (F : List T → G T) : Prop := CallG P wd K mg base k x (SpF K mg n F)
section
variable {X : Cx} {w : Wd} {E : XK} {j k n : Nat} {x : Str} {p pos : Pos} {e : Expr} {es : List Expr} {cs : List Sl → G (List T)} {F : List T → G T}
theorem ce_fn (B : Bd X k E) (C : CallT X.prog X.w X.K X.mg X.base j x n F) (ha : CA X w E (e :: es) cs) (hl : Len cs n) (hj : j ≤ k := by decide) (hg : Gl X x := by rfl) (hdb : (x == ("__debug__" : Str)) = false := by decide) (he : starEach (e :: es) X.env = (false, eval e X.env) :: starEach es X.env := by rfl)
    (hpl : (backTo pos (starEach es X.env)).any (·.1) = false := by rfl) : CE X w E (.Call (.Name x p) (e :: es) [] pos) (cCall F cs) := by
  obtain ⟨f, fd, ps, hm, hk, hb, Fk⟩ := C.ex
  exact ce_callG (Fk.mono hj) B.gd B.hr B.hx hg hm hk hb ha hl hdb he hpl
theorem cf_fn (B : Bd X k E) (C : CallN X.prog X.w X.K X.mg X.base j x n F) (ha : CA X w E (e :: es) cs) (hl : Len cs n) (hj : j ≤ k := by decide) (hg : Gl X x := by rfl) (hdb : (x == ("__debug__" : Str)) = false := by decide) (he : starEach (e :: es) X.env = (false, eval e X.env) :: starEach es X.env := by rfl)
    (hpl : (backTo pos (starEach es X.env)).any (·.1) = false := by rfl) : CF X w E (.Call (.Name x p) (e :: es) [] pos) (cCall F cs) := by
  obtain ⟨f, fd, ps, hm, hk, hb, Fk⟩ := C.ex
  exact cf_callG (Fk.mono hj) B.gd B.hr B.hx hg hm hk hb ha hl hdb he hpl
theorem ce_fn0 (B : Bd X k E) (C : CallT X.prog X.w X.K X.mg X.base j x 0 F) (hj : j ≤ k := by decide) (hg : Gl X x := by rfl) (hdb : (x == ("__debug__" : Str)) = false := by decide) : CE X w E (.Call (.Name x p) [] [] pos) (cCall F caNil) := by
  obtain ⟨f, fd, ps, hm, hk, hb, Fk⟩ := C.ex
  exact ce_callG0 (Fk.mono hj) B.gd B.hr B.hx hg hm hk hb hdb
theorem cf_fn0 (B : Bd X k E) (C : CallN X.prog X.w X.K X.mg X.base j x 0 F) (hj : j ≤ k := by decide) (hg : Gl X x := by rfl) (hdb : (x == ("__debug__" : Str)) = false := by decide) : CF X w E (.Call (.Name x p) [] [] pos) (cCall F caNil) := by
  obtain ⟨f, fd, ps, hm, hk, hb, Fk⟩ := C.ex
  exact cf_callG0 (Fk.mono hj) B.gd B.hr B.hx hg hm hk hb hdb
end
section
variable {P : Program} {wd : World} {K : PySem.W.Frag} {mg : Str → Option Value} {base : Heap} {k : Nat} {ps N : List Str} {x qual : Str} {st : Stmt} {c : SC}
/-- the context of a def's body -/
abbrev bx (P : Program) (wd : World) (K : PySem.W.Frag) (mg : Str → Option Value) (base : Heap) (N : List Str) (qual : Str) (st : Stmt) (f : Addr) (cdv : Value) (A : Around) (outer : List Env) (s : Shared) (H : Hp) (E : XK) : Cx :=
  cxOf (L2.CX P wd) P wd K mg base N qual (defScope st) f cdv A outer s H E
theorem fn_at (A : FunAt K mg x qual st ps) (S : FnScope N ps (defScope st))
    (body : ∀ (f : Addr) (cdv : Value) (A : Around) (outer : List Env) (s : Shared) (H : Hp) (w : Wd) (E : XK), Bd (bx P wd K mg base N qual st f cdv A outer s H E) k E → CSs (bx P wd K mg base N qual st f cdv A outer s H E) w E false (defBody st) c) :
    CallT P wd K mg base (k + 1) x ps.length (runB c N.length) := by
  obtain ⟨f, fd, hm, hk, F, hb⟩ := A.ex
  exact ⟨f, fd, ps, hm, hk, hb, fnT F S fun w cdv A outer s H E gd hr hx => body f cdv A outer s H w E ⟨gd, hr, hx, passes_of rfl⟩⟩
theorem fnN_at (A : FunAt K mg x qual st ps) (S : FnScope N ps (defScope st))
    (body : ∀ (f : Addr) (cdv : Value) (A : Around) (outer : List Env) (s : Shared) (H : Hp) (w : Wd) (E : XK), Bd (bx P wd K mg base N qual st f cdv A outer s H E) k E → CSs (bx P wd K mg base N qual st f cdv A outer s H E) w E true (defBody st) c) :
    CallN P wd K mg base (k + 1) x ps.length (runR c N.length) := by
  obtain ⟨f, fd, hm, hk, F, hb⟩ := A.ex
  exact ⟨f, fd, ps, hm, hk, hb, fnF F S fun w cdv A outer s H E gd hr hx => body f cdv A outer s H w E ⟨gd, hr, hx, passes_of rfl⟩⟩
end
/-- the body of a class -/
def clsBody : Stmt → List Stmt
  | .ClassDef (body := b) .. => b
  | _ => []
def inBody (l : List Stmt) (i : Nat) : Stmt := l.getD i (.Pass ⟨0, 0, 0, 0⟩)
end TL
end s_TL29
section s_TL30
set_option Elab.async false
set_option linter.all false
set_option maxRecDepth 100000
set_option maxHeartbeats 4000000
/-! TL30: what the draws compute -/
namespace TL
open PySem PySem.Spec PyProof.Rows L2
theorem forG_inv {g : GC} {c : SC} {I : List Sl → Prop} : ∀ {ts : List T} {r : List Sl}, (∀ t ∈ ts, ∀ r, I r → (g t r).wp (fun r' => (c r').wp (fun k => ∃ r2, (k = .nx r2 ∨ k = .ct r2) ∧ I r2) (fun _ => False)) (fun _ => False)) → I r →
    (forG g c ts r).wp (fun k => ∃ r', k = .nx r' ∧ I r') (fun _ => False)
  | [], r, _, h => ⟨r, rfl, h⟩
  | t :: ts, r, hs, h => by
    unfold forG
    refine G.wp_bind.mpr (G.wp_mono (hs t (by simp) r h) (fun r' h' => G.wp_bind.mpr (G.wp_mono h' (fun k hk => ?_) fun _ x => x)) fun _ x => x)
    obtain ⟨r2, e, h2⟩ := hk
    have ih := forG_inv (ts := ts) (r := r2) (fun t ht => hs t (by simp [ht])) h2
    rcases e with rfl | rfl <;> exact ih
theorem CallG.imp {P : Program} {wd : World} {K : PySem.W.Frag} {mg : Str → Option Value} {base : Heap} {k : Nat} {x : Str} {sp sp' : Sp} (C : CallG P wd K mg base k x sp) (h : ∀ vs H Q E, sp' vs H Q E → sp vs H Q E) : CallG P wd K mg base k x sp' :=
  let ⟨f, fd, ps, a, b, c, F⟩ := C.ex; ⟨f, fd, ps, a, b, c, F.imp h⟩
theorem SpT.le {K : PySem.W.Frag} {mg : Str → Option Value} {n : Nat} {F F' : List T → G T} (h : ∀ ts Q E, (F' ts).wp Q E → (F ts).wp Q E) : ∀ vs H Q E, SpT K mg n F' vs H Q E → SpT K mg n F vs H Q E :=
  fun vs H Q E ⟨w, ts, Z, a, b, c, q⟩ => ⟨w, ts, Z, a, b, c, h _ _ _ q⟩
/-! ### _law_blend -/
@[irreducible] def c_law_blend : SC :=
  cSeq (cSet 1 (cOp2 fAdd (cDr 0) (cC (.int 1)))) (cSeq (cDrPut 0 (cVar 1)) (cSeq (cSet 2 (cC (.int 0))) (cSeq
    (cFor (fun r => (cLst (caCons (cC (.int 2147483629)) (caCons (cC (.int 2147483587)) (caCons (cC (.int 2147483579)) (caCons (cC (.int 2147483563)) caNil))))) r >>= anyOf) (gcName 3)
      (cSeq (cSet 4 (cOp2 fModI (cCall fInt (caCons (cOp2 fAdd (cOp2 fMulI (cVar 1) (cC (.int 69621))) (cOp2 fDivI (cVar 3) (cC (.int 7)))) caNil)) (cVar 3)))
      (cSeq (cFor (cDrCells 0) (gcName 5) (cSet 4 (cOp2 fModI (cCall fInt (caCons (cOp2 fAdd (cOp2 fMulI (cVar 4) (cC (.int 48271))) (cVar 5)) caNil)) (cVar 3))))
        (cSet 2 (cOp2 fAdd (cOp2 fMulI (cVar 2) (cC (.int 2147483647))) (cOp2 fModI (cCall fInt (caCons (cOp2 fPowI (cVar 4) (cC (.int 5))) caNil)) (cVar 3)))))))
    (cRet (cVar 2)))))
/-- a state inside the loop over the primes -/
def BlI (p : Int) (r : List Sl) : Prop := ∃ (a b v : Int) (s5 : Sl), r = [.fz .drw, .fz (.int a), .fz (.int b), .fz (.int p), .fz (.int v), s5] ∧ 0 ≤ a ∧ 0 ≤ b ∧ 0 ≤ v ∧ v < 2147483648
theorem blend_cell (p : Int) (hp : 0 < p ∧ p < 2147483648) (n : Nat) (r : List Sl) (h : BlI p r) :
    (gcName 5 (.int n) r).wp (fun r' => (cSet 4 (cOp2 fModI (cCall fInt (caCons (cOp2 fAdd (cOp2 fMulI (cVar 4) (cC (.int 48271))) (cVar 5)) caNil)) (cVar 3)) r').wp (fun k => ∃ r2, (k = .nx r2 ∨ k = .ct r2) ∧ BlI p r2) (fun _ => False)) (fun _ => False) := by
  obtain ⟨a, b, v, s5, rfl, ha, hb, hv, hv2⟩ := h
  have hm : (-(2 ^ 64) < v ∧ v < 2 ^ 64) ∨ (-(2 ^ 64) < (48271 : Int) ∧ (48271 : Int) < 2 ^ 64) := .inr (by decide)
  have hmod := Int.emod_nonneg (v * 48271 + n) (show p ≠ 0 by omega)
  have hmod2 := Int.emod_lt_of_pos (v * 48271 + n) hp.1
  simp [gcName, cSet, cOp2, cCall, caCons, caNil, cVar, cC, fMulI, fAdd, fInt, fModI, hp.1, G.wp]
  exact ⟨a, b, _, _, rfl, ha, hb, hmod, by omega⟩
theorem wp_seq {c d : SC} {r : List Sl} {Q : Ctl → Prop} {E : T → Prop} : (cSeq c d r).wp Q E ↔ (c r).wp (fun k => (match k with | .nx r' => d r' | k => .ret k : G Ctl).wp Q E) E := G.wp_bind
theorem wp_eq {α : Type} {m : G α} {a : α} {Q : α → Prop} {E : T → Prop} (e : m = .ret a) (h : Q a) : m.wp Q E := by rw [e]; exact h
theorem cells_wp {r : List Sl} {Q : List T → Prop} (h0 : r[0]? = some (.fz .drw)) (h : ∀ ts : List T, (∀ t ∈ ts, ∃ n : Nat, t = .int n) → Q ts) : (cDrCells 0 r).wp Q (fun _ => False) := by
  unfold cDrCells
  rw [h0]
  intro l
  by_cases hl : l.length ≤ 1000
  · show (if l.length ≤ 1000 then G.ret (l.map fun n : Nat => T.int (n : Int)) else G.ret [] : G (List T)).wp Q _
    rw [if_pos hl]
    exact h _ fun t ht => by obtain ⟨n, _, rfl⟩ := List.mem_map.mp ht; exact ⟨n, rfl⟩
  · show (if l.length ≤ 1000 then G.ret (l.map fun n : Nat => T.int (n : Int)) else G.ret [] : G (List T)).wp Q _
    rw [if_neg hl]
    exact h _ fun t ht => nomatch ht
/-- between two primes -/
def BlO (r : List Sl) : Prop := ∃ (a b : Int) (s3 s4 s5 : Sl), r = [.fz .drw, .fz (.int a), .fz (.int b), s3, s4, s5] ∧ 0 ≤ a ∧ 0 ≤ b
theorem blend_prime (p : Int) (hp : 0 < p ∧ p < 2147483648) (r : List Sl) (h : BlO r) :
    (gcName 3 (.int p) r).wp (fun r' => ((cSeq (cSet 4 (cOp2 fModI (cCall fInt (caCons (cOp2 fAdd (cOp2 fMulI (cVar 1) (cC (.int 69621))) (cOp2 fDivI (cVar 3) (cC (.int 7)))) caNil)) (cVar 3)))
      (cSeq (cFor (cDrCells 0) (gcName 5) (cSet 4 (cOp2 fModI (cCall fInt (caCons (cOp2 fAdd (cOp2 fMulI (cVar 4) (cC (.int 48271))) (cVar 5)) caNil)) (cVar 3))))
        (cSet 2 (cOp2 fAdd (cOp2 fMulI (cVar 2) (cC (.int 2147483647))) (cOp2 fModI (cCall fInt (caCons (cOp2 fPowI (cVar 4) (cC (.int 5))) caNil)) (cVar 3)))))) r').wp (fun k => ∃ r2, (k = .nx r2 ∨ k = .ct r2) ∧ BlO r2) (fun _ => False)) (fun _ => False) := by
  obtain ⟨a, b, s3, s4, s5, rfl, ha, hb⟩ := h
  have hmod := Int.emod_nonneg (a * 69621 + p / 7) (show p ≠ 0 by omega)
  have hmod2 := Int.emod_lt_of_pos (a * 69621 + p / 7) hp.1
  have first : BlI p [.fz .drw, .fz (.int a), .fz (.int b), .fz (.int p), .fz (.int ((a * 69621 + p / 7) % p)), s5] := ⟨a, b, _, _, rfl, ha, hb, hmod, by omega⟩
  refine wp_seq.mpr (wp_eq (a := .nx [.fz .drw, .fz (.int a), .fz (.int b), .fz (.int p), .fz (.int ((a * 69621 + p / 7) % p)), s5]) ?_ ?_)
  · simp [cSet, cOp2, cCall, caCons, caNil, cVar, cC, fMulI, fAdd, fInt, fModI, fDivI, hp.1]
  refine wp_seq.mpr (G.wp_bind.mpr (cells_wp rfl fun ts hts => ?_))
  refine G.wp_mono (forG_inv (I := BlI p) (fun t ht r hr => ?_) first) (fun k hk => ?_) fun _ x => x
  · obtain ⟨n, rfl⟩ := hts t ht
    exact blend_cell p hp n r hr
  · obtain ⟨r', rfl, a', b', v, s5', rfl, ha', hb', hv, hv2⟩ := hk
    have hv3 : v.natAbs < 2 ^ 64 := by omega
    have q1 := Int.emod_nonneg (v ^ (5 : Int).toNat) (show p ≠ 0 by omega)
    have hq : (0 : Int) ≤ b' * 2147483647 + v ^ (5 : Int).toNat % p := by
      have := Int.mul_nonneg hb' (show (0 : Int) ≤ 2147483647 by decide)
      omega
    refine wp_eq (a := .nx [.fz .drw, .fz (.int a'), .fz (.int (b' * 2147483647 + v ^ (5 : Int).toNat % p)), .fz (.int p), .fz (.int v), s5']) ?_ ⟨_, .inl rfl, a', _, _, _, _, rfl, ha', hq⟩
    simp [cSet, cOp2, cCall, caCons, caNil, cVar, cC, fMulI, fAdd, fInt, fModI, fPowI, hp.1]
    simp [hv3, fInt, hp.1]
theorem blend_head {D : SC} {Q : Ctl → Prop} {E : T → Prop} (h : ∀ a : Int, 0 ≤ a → (D [.fz .drw, .fz (.int a), .un, .un, .un, .un]).wp Q E) :
    (cSeq (cSet 1 (cOp2 fAdd (cDr 0) (cC (.int 1)))) (cSeq (cDrPut 0 (cVar 1)) D) [.fz .drw, .un, .un, .un, .un, .un]).wp Q E := by
  have e1 : cSet 1 (cOp2 fAdd (cDr 0) (cC (.int 1))) [.fz .drw, .un, .un, .un, .un, .un] = .any fun l => .ret (.nx [.fz .drw, .fz (.int ((l.length : Int) + 1)), .un, .un, .un, .un]) := by
    simp [cSet, cOp2, cDr, cC, fAdd]
  refine wp_seq.mpr ?_
  rw [e1]
  intro l
  have h0 : (0 : Int) ≤ (l.length : Int) + 1 := by omega
  have e2 : cDrPut 0 (cVar 1) [.fz .drw, .fz (.int ((l.length : Int) + 1)), .un, .un, .un, .un] = .ret (.nx [.fz .drw, .fz (.int ((l.length : Int) + 1)), .un, .un, .un, .un]) := by simp [cDrPut, cVar, h0]
  have e3 : cSeq (cDrPut 0 (cVar 1)) D [.fz .drw, .fz (.int ((l.length : Int) + 1)), .un, .un, .un, .un] = D [.fz .drw, .fz (.int ((l.length : Int) + 1)), .un, .un, .un, .un] := by
    unfold cSeq; rw [e2]; rfl
  have q := h _ h0
  rw [← e3] at q
  exact q
theorem blend_tail {B : SC} (hB : ∀ p : Int, 0 < p ∧ p < 2147483648 → ∀ r, BlO r → (gcName 3 (.int p) r).wp (fun r' => (B r').wp (fun k => ∃ r2, (k = .nx r2 ∨ k = .ct r2) ∧ BlO r2) (fun _ => False)) (fun _ => False)) (a : Int) (ha : 0 ≤ a) :
    (cSeq (cSet 2 (cC (.int 0))) (cSeq (cFor (fun r => (cLst (caCons (cC (.int 2147483629)) (caCons (cC (.int 2147483587)) (caCons (cC (.int 2147483579)) (caCons (cC (.int 2147483563)) caNil))))) r >>= anyOf) (gcName 3) B) (cRet (cVar 2))) [.fz .drw, .fz (.int a), .un, .un, .un, .un]).wp
      (fun k => ∃ n : Int, k = .rt (.int n) ∧ 0 ≤ n) (fun _ => False) := by
  refine wp_seq.mpr (wp_eq (a := .nx [.fz .drw, .fz (.int a), .fz (.int 0), .un, .un, .un]) (by simp [cSet, cC]) ?_)
  refine wp_seq.mpr (G.wp_bind.mpr (wp_eq (a := [.int 2147483629, .int 2147483587, .int 2147483579, .int 2147483563]) (by simp [cLst, caCons, caNil, cC, anyOf]) ?_))
  refine G.wp_mono (forG_inv (I := BlO) (fun t ht r hr => ?_) ⟨_, 0, .un, .un, .un, rfl, ha, by decide⟩) (fun k hk => ?_) fun _ x => x
  · simp only [List.mem_cons, List.not_mem_nil, or_false] at ht
    rcases ht with rfl | rfl | rfl | rfl <;> exact hB _ (by decide) r hr
  · obtain ⟨r', rfl, a', b', s3, s4, s5, rfl, ha', hb'⟩ := hk
    refine wp_eq (a := .rt (.int b')) (by simp [cRet, cVar]) ⟨b', rfl, hb'⟩
theorem blend_body : (c_law_blend [.fz .drw, .un, .un, .un, .un, .un]).wp (fun k => ∃ n : Int, k = .rt (.int n) ∧ 0 ≤ n) (fun _ => False) := by
  unfold c_law_blend
  exact @blend_head _ _ _ fun a ha => @blend_tail _ blend_prime a ha
theorem runB_wp {c : SC} {m : Nat} {ts : List T} {Q : T → Prop} {E : T → Prop} {P : Ctl → Prop} (h : (c (ts.map .fz ++ List.replicate (m - ts.length) .un)).wp P E) (hP : ∀ k, P k → ∃ t, k = .rt t ∧ Q t) : (runB c m ts).wp Q E :=
  G.wp_bind.mpr (G.wp_mono h (fun k hk => by obtain ⟨t, rfl, ht⟩ := hP k hk; exact ht) fun _ x => x)
theorem blend_wp : (runB c_law_blend 6 [.drw]).wp (fun t => ∃ n : Int, t = .int n ∧ 0 ≤ n) (fun _ => False) :=
  runB_wp blend_body fun k ⟨n, e, hn⟩ => ⟨.int n, e, n, rfl, hn⟩
end TL
end s_TL30
section s_TL31
set_option Elab.async false
set_option linter.all false
set_option maxRecDepth 100000
set_option maxHeartbeats 4000000
/-! TL31: a take is a pick -/
namespace TL
open PySem PySem.Spec PyProof.Rows L2
def fBlend : List T → G T
  | [.drw] => .any fun l => .ret (.int l.length)
  | _ => .stuck
theorem blend_le : ∀ ts Q E, (fBlend ts).wp Q E → (runB c_law_blend 6 ts).wp Q E := fun ts Q E h => by
  unfold fBlend at h
  split at h
  · refine G.wp_mono blend_wp (fun t ht => ?_) fun _ x => False.elim x
    obtain ⟨n, rfl, hn⟩ := ht
    obtain ⟨m, rfl⟩ := Int.eq_ofNat_of_zero_le hn
    have q : Q (.int ((List.replicate m 0).length : Int)) := h (List.replicate m 0)
    rw [List.length_replicate] at q
    exact q
  · exact False.elim h
@[irreducible] def c_law_take : SC := cSeq (cDrIf 0) (cSeq (cIfS (cB (cOp2 fEq (cDr 0) (cC (.int 0)))) (cDrPut 0 (cCall fBlend (caCons (cVar 0) caNil))) (fun r => .ret (.nx r)))
  (cSeq (cSet 2 (cOp2 fModI (cCall fInt (caCons (cDr 0) caNil)) (cVar 1))) (cSeq (cDrPut 0 (cOp2 fDivI (cDr 0) (cVar 1))) (cRet (cVar 2)))))
theorem take_tail {n : Int} (hn : 1 ≤ n ∧ n < 1073741824) {Q : T → Prop} {E : T → Prop} (h : ∀ i : Nat, i < n.toNat → Q (.int i)) {s2 : Sl} :
    ((cSeq (cSet 2 (cOp2 fModI (cCall fInt (caCons (cDr 0) caNil)) (cVar 1))) (cSeq (cDrPut 0 (cOp2 fDivI (cDr 0) (cVar 1))) (cRet (cVar 2)))) [.fz .drw, .fz (.int n), s2]).wp (fun k => ∃ t, k = .rt t ∧ Q t) E := by
  have h0 : (0 : Int) < n := by omega
  have e1 : cSet 2 (cOp2 fModI (cCall fInt (caCons (cDr 0) caNil)) (cVar 1)) [.fz .drw, .fz (.int n), s2] = .any fun l => .ret (.nx [.fz .drw, .fz (.int n), .fz (.int ((l.length : Int) % n))]) := by
    simp [cSet, cOp2, cCall, caCons, caNil, cDr, cVar, fInt, fModI, h0]
  refine wp_seq.mpr ?_
  rw [e1]
  intro l
  have e2 : cDrPut 0 (cOp2 fDivI (cDr 0) (cVar 1)) [.fz .drw, .fz (.int n), .fz (.int ((l.length : Int) % n))] = .any fun l2 => if 0 ≤ (l2.length : Int) / n then .ret (.nx [.fz .drw, .fz (.int n), .fz (.int ((l.length : Int) % n))]) else .stuck := by
    simp [cDrPut, cOp2, cDr, cVar, fDivI, h0, hn.2]
  have q : (cSeq (cDrPut 0 (cOp2 fDivI (cDr 0) (cVar 1))) (cRet (cVar 2)) [.fz .drw, .fz (.int n), .fz (.int ((l.length : Int) % n))]).wp (fun k => ∃ t, k = .rt t ∧ Q t) E := by
    refine wp_seq.mpr ?_
    rw [e2]
    intro l2
    have hd : 0 ≤ (l2.length : Int) / n := Int.ediv_nonneg (by omega) (by omega)
    have q3 : ∃ t, Ctl.rt (T.int ((l.length : Int) % n)) = .rt t ∧ Q t := by
      have a1 := Int.emod_nonneg (l.length : Int) (show n ≠ 0 by omega)
      have a2 := Int.emod_lt_of_pos (l.length : Int) h0
      obtain ⟨m, hm⟩ := Int.eq_ofNat_of_zero_le a1
      refine ⟨_, rfl, ?_⟩
      rw [hm]
      exact h m (by omega)
    simp only [if_pos hd]
    exact q3
  exact q
theorem take_body {n : Int} (hn : 1 ≤ n ∧ n < 1073741824) {Q : T → Prop} {E : T → Prop} (h : ∀ i : Nat, i < n.toNat → Q (.int i)) : (c_law_take [.fz .drw, .fz (.int n), .un]).wp (fun k => ∃ t, k = .rt t ∧ Q t) E := by
  unfold c_law_take
  refine wp_seq.mpr (wp_eq (a := .nx [.fz .drw, .fz (.int n), .un]) (by simp [cDrIf]) ?_)
  refine wp_seq.mpr ?_
  have e1 : (cB (cOp2 fEq (cDr 0) (cC (.int 0)))) [.fz .drw, .fz (.int n), .un] = .any fun l => fEq (.int l.length) (.int 0) >>= asB := by
    simp [cB, cOp2, cDr, cC]
  have e2 : ∀ b : Bool, (fun r : List Sl => (if b = true then cDrPut 0 (cCall fBlend (caCons (cVar 0) caNil)) r else .ret (.nx r) : G Ctl)) [.fz .drw, .fz (.int n), .un] = if b = true then .any fun _ => .ret (.nx [.fz .drw, .fz (.int n), .un]) else .ret (.nx [.fz .drw, .fz (.int n), .un]) := by
    intro b; cases b
    · rfl
    · simp [cDrPut, cCall, caCons, caNil, cVar, fBlend]
  have fin : ∀ k, k = Ctl.nx [Sl.fz .drw, .fz (.int n), .un] → ((match k with | .nx r' => cSeq (cSet 2 (cOp2 fModI (cCall fInt (caCons (cDr 0) caNil)) (cVar 1))) (cSeq (cDrPut 0 (cOp2 fDivI (cDr 0) (cVar 1))) (cRet (cVar 2))) r' | k => .ret k : G Ctl)).wp (fun k => ∃ t, k = .rt t ∧ Q t) E := by
    rintro _ rfl
    exact take_tail hn h
  refine G.wp_mono (Q := fun k => k = Ctl.nx [Sl.fz .drw, .fz (.int n), .un]) (E := fun _ => False) ?_ fin fun _ x => False.elim x
  unfold cIfS
  refine G.wp_bind.mpr ?_
  rw [e1]
  intro l
  have e3 : (fEq (.int l.length) (.int 0) >>= asB) = .ret (eqT (.int l.length) (.int 0)) := by
    simp [fEq, fEqB, okT, toPy, asB, SeqAt.shaped, PyData.canLay0, PyData.depth]
  have e4 : ∀ b : Bool, (if b = true then cDrPut 0 (cCall fBlend (caCons (cVar 0) caNil)) [.fz .drw, .fz (.int n), .un] else .ret (.nx [.fz .drw, .fz (.int n), .un]) : G Ctl).wp (fun k => k = Ctl.nx [Sl.fz .drw, .fz (.int n), .un]) (fun _ => False) := fun b => by
    have := e2 b
    simp only at this
    rw [this]
    cases b
    · rfl
    · intro _; rfl
  have q : (fEq (.int l.length) (.int 0) >>= asB : G Bool).wp (fun p => (if p = true then cDrPut 0 (cCall fBlend (caCons (cVar 0) caNil)) [.fz .drw, .fz (.int n), .un] else .ret (.nx [.fz .drw, .fz (.int n), .un]) : G Ctl).wp (fun k => k = Ctl.nx [Sl.fz .drw, .fz (.int n), .un]) (fun _ => False)) (fun _ => False) := by
    rw [e3]; exact e4 _
  exact q
def fTake : List T → G T
  | [.drw, .int n] => if 1 ≤ n ∧ n < 1073741824 then .pick n.toNat fun i => .ret (.int i) else .stuck
  | _ => .stuck
theorem take_le : ∀ ts Q E, (fTake ts).wp Q E → (runB c_law_take 3 ts).wp Q E := fun ts Q E h => by
  unfold fTake at h
  split at h
  · rename_i n
    split at h
    · rename_i hn
      exact runB_wp (P := fun k => ∃ t, k = .rt t ∧ Q t) (take_body hn fun i hi => h i hi) fun k x => x
    · exact False.elim h
  · exact False.elim h
end TL
end s_TL31
section s_TL32
set_option Elab.async false
set_option linter.all false
set_option maxRecDepth 100000
set_option maxHeartbeats 4000000
/-! TL32: what _law_begin and _law_pick compute -/
namespace TL
open PySem PySem.Spec PyProof.Rows L2
abbrev fSubI := fII fun i j => T.int (i - j)
abbrev fGeI := fII fun i j => T.bl (decide (j ≤ i))
abbrev cAbs2 : EC := cCall fAbs (caCons (cVar 2) caNil)
abbrev cE18 : EC := cOp2 fPowI (cC (.int 10)) (cC (.int 18))
@[irreducible] def c_begin1 : SC := cSetO 1 (cComp (fun r => cVar 0 r >>= anyOf) (gcName 2) (cB (cOp2 fGeI cAbs2 cE18)) (cOp2 fSubI cAbs2 cE18) [2])
@[irreducible] def c_begin2 : EC := cComp (fun r => cVar 0 r >>= anyOf) (gcName 2) (fun _ => .ret true) cAbs2 [2]
/-- a comprehension over whole numbers that gives natural numbers -/
theorem compG_nats {tt : List Sl → G Bool} {te : EC} {r : List Sl} (h : ∀ n : Int, ∃ b, tt (r.set 2 (.fz (.int n))) = .ret b ∧ (b = true → ∃ m : Nat, te (r.set 2 (.fz (.int n))) = .ret (.int m))) :
    ∀ ns : List Int, ∃ l : List Nat, compG (gcName 2) tt te (ns.map .int) r = .ret (natsT l) ∧ l.length ≤ ns.length
  | [] => ⟨[], rfl, Nat.le_refl _⟩
  | n :: ns => by
    obtain ⟨l, e, hl⟩ := compG_nats h ns
    obtain ⟨b, eb, hb⟩ := h n
    cases b with
    | false => exact ⟨l, by simp [compG, gcName, G.nox, eb, e], by simp; omega⟩
    | true =>
      obtain ⟨m, em⟩ := hb rfl
      exact ⟨m :: l, by simp [compG, gcName, G.nox, eb, em, e], by simp; omega⟩
theorem begin_wp (ns : List Int) (hl : ns.length ≤ 1000) : (c_begin1 [.fz (.scr ns), .un, .un]).wp (fun k => ∃ r gs, k = .nx r ∧ r[1]? = some (.ow (.lst (natsT gs))) ∧ gs.length ≤ 1000 ∧
    (c_begin2 r).wp (fun t => ∃ cs : List Nat, t = .lst (natsT cs) ∧ cs.length ≤ 1000) (fun _ => False)) (fun _ => False) := by
  have ab : ∀ n : Int, ∃ m : Nat, (if n < 0 then -n else n) = (m : Int) := fun n => ⟨n.natAbs, by split <;> omega⟩
  obtain ⟨g, eg, lg⟩ := compG_nats (tt := cB (cOp2 fGeI cAbs2 cE18)) (te := cOp2 fSubI cAbs2 cE18) (r := [.fz (.scr ns), .un, .un]) (fun n => by
    refine ⟨decide ((10 : Int) ^ (18 : Int).toNat ≤ if n < 0 then -n else n), by simp [cB, cOp2, cCall, caCons, caNil, cVar, cC, fAbs, fPowI, fII, asB], fun hb => ?_⟩
    have hb' := of_decide_eq_true hb
    obtain ⟨m, hm⟩ := Int.eq_ofNat_of_zero_le (show 0 ≤ (if n < 0 then -n else n) - (10 : Int) ^ (18 : Int).toNat by omega)
    refine ⟨m, ?_⟩
    have e : (cOp2 fSubI cAbs2 cE18) ([Sl.fz (.scr ns), .un, .un].set 2 (.fz (.int n))) = .ret (.int ((if n < 0 then -n else n) - (10 : Int) ^ (18 : Int).toNat)) := by simp [cOp2, cCall, caCons, caNil, cVar, cC, fAbs, fPowI, fII]
    rw [e, hm]) ns
  obtain ⟨c, ec, lc⟩ := compG_nats (tt := fun _ => .ret true) (te := cAbs2) (r := [.fz (.scr ns), .ow (.lst (natsT g)), .un]) (fun n => by
    refine ⟨true, rfl, fun _ => ?_⟩
    obtain ⟨m, hm⟩ := ab n
    refine ⟨m, ?_⟩
    have e : cAbs2 ([Sl.fz (.scr ns), .ow (.lst (natsT g)), .un].set 2 (.fz (.int n))) = .ret (.int (if n < 0 then -n else n)) := by simp [cCall, caCons, caNil, cVar, fAbs]
    rw [e, hm]) ns
  have e1 : c_begin1 [.fz (.scr ns), .un, .un] = .ret (.nx [.fz (.scr ns), .ow (.lst (natsT g)), .un]) := by
    unfold c_begin1
    simp [cSetO, cComp, cVar, anyOf, wipeR, eg]
  have e2 : c_begin2 [.fz (.scr ns), .ow (.lst (natsT g)), .un] = .ret (.lst (natsT c)) := by
    unfold c_begin2
    simp [cComp, cVar, anyOf, wipeR, ec]
  exact wp_eq e1 ⟨_, g, rfl, rfl, by omega, wp_eq e2 ⟨c, rfl, by omega⟩⟩
@[irreducible] def c_law_pick : SC := cRet (cOp2 fIx (cVar 1) (cCall fTake (caCons (cVar 0) (caCons (cCall fLen (caCons (cVar 1) caNil)) caNil))))
end TL
end s_TL32
section s_TL33
set_option Elab.async false
set_option linter.all false
set_option maxRecDepth 100000
set_option maxHeartbeats 4000000
/-! TL33: classes by their names -/
namespace TL
open PySem PySem.Spec PyProof.Rows L2
section
variable (P : Program) (wd : World) (K : PySem.W.Frag) (mg : Str → Option Value) (base : Heap) (k : Nat) (c : Str)
/-- the class c may be called with n values -/
structure MakeT (n : Nat) (F : List T → G T) : Prop where
  ex : ∃ C f fd ps, mg c = some (.ref C) ∧ Mk K C f ∧ Binds K fd ps [] ∧ ps.length = n + 1 ∧ FnG P wd K mg base k f fd ps (SpI K mg c C n F)
/-- .. with keywords -/
structure MakeK (ks : List Str) (perm : List Nat) (n : Nat) (F : List T → G T) : Prop where
  ex : ∃ C f fd ps, mg c = some (.ref C) ∧ Mk K C f ∧ KwB K fd ps ks perm ∧ FnG P wd K mg base k f fd ps (SpI K mg c C n F)
/-- the class c has the property m, which gives the attribute own -/
structure PropT (m own : Str) : Prop where
  ex : ∃ C p g fd ps, mg c = some (.ref C) ∧ Cls K C ∧ PropOf K C m p g ∧ Binds K fd ps [] ∧ FnOk P wd K mg base (L2.CX P wd) k g fd ps (getSp C own)
/-- the class c has the method m -/
structure MethT (m : Str) (n : Nat) (F : List T → G T) : Prop where
  ex : ∃ C f fd ps, mg c = some (.ref C) ∧ Cls K C ∧ Meth K C m f ∧ Binds K fd ps [] ∧ FnG P wd K mg base k f fd ps (SpT K mg (n + 1) F)
/-- the class c has __eq__ -/
structure EqT (F : List T → G T) : Prop where
  ex : ∃ C f fd ps, EqF K mg c C f ∧ Binds K fd ps [] ∧ FnG P wd K mg base k f fd ps (SpT K mg 2 F)
end
structure FldT (K : PySem.W.Frag) (mg : Str → Option Value) (c f : Str) : Prop where
  ex : ∃ C, FldF K mg c f C
structure InsT (K : PySem.W.Frag) (mg : Str → Option Value) (c : Str) : Prop where
  ex : ∃ C, InsF K mg c C
section
variable {X : Cx} {w : Wd} {E : XK} {fr : Bool} {j k n : Nat} {c m own f x : Str} {pn pos apos p1 p2 : Pos} {e e2 o : Expr} {es : List Expr} {kws : List Keyword} {ca cb co : EC} {cs ck : List Sl → G (List T)} {F : List T → G T} {ks : List Str} {perm : List Nat}
theorem cf_mk (B : Bd X k E) (C : MakeT X.prog X.w X.K X.mg X.base j c n F) (ha : CA X w E (e :: es) cs) (hl : Len cs n) (hj : j + 1 ≤ k := by decide) (hg : Gl X c := by rfl) (hdb : (c == ("__debug__" : Str)) = false := by decide)
    (he : starEach (e :: es) X.env = (false, eval e X.env) :: starEach es X.env := by rfl) (hpl : (backTo pos (starEach es X.env)).any (·.1) = false := by rfl) : CF X w E (.Call (.Name c pn) (e :: es) [] pos) (cCall F cs) := by
  obtain ⟨C, f, fd, ps, hm, M, hb, hn, Fk⟩ := C.ex
  exact cf_make M Fk B.gd (B.hr.mono hj) B.hx hg hm hb hn ha hl hdb he hpl
theorem cf_mkK (B : Bd X k E) (C : MakeK X.prog X.w X.K X.mg X.base j c ks perm n F) (ha : CK X w E kws ck) (hl : Len ck ks.length) (hn : perm.length = n := by rfl) (hp : ∀ i ∈ perm, i < ks.length := by decide) (hj : j + 1 ≤ k := by decide) (hg : Gl X c := by rfl)
    (hall : (backToKw pos (keywordEach kws X.env)).all (·.1.isSome) = true := by rfl) (hks : (backToKw pos (keywordEach kws X.env)).filterMap (·.1) = ks := by rfl) (hdb : (c == ("__debug__" : Str)) = false := by decide)
    (hpl : ((backTo pos (starEach [] X.env)).any (·.1) || (backToKw pos (keywordEach kws X.env)).any (·.1.isNone)) = false := by rfl) : CF X w E (.Call (.Name c pn) [] kws pos) (cCall (fun ts => F (pickL perm ts)) ck) := by
  obtain ⟨C, f, fd, ps, hm, M, hb, Fk⟩ := C.ex
  exact cf_makeK M Fk B.gd (B.hr.mono hj) B.hx hg hm hb hn hp ha hl hall hks hdb hpl
theorem ce_prp (B : Bd X k E) (C : PropT X.prog X.w X.K X.mg X.base j c m own) (he : CE X w E e ca) (hj : j + 1 ≤ k := by decide) (hab : attributeBase e m X.env (eval e X.env) = eval e X.env := by rfl) : CE X w E (.Attribute e m pos) (cFld c own ca) := by
  obtain ⟨C, p, g, fd, ps, hm, cl, hp, hb, Fk⟩ := C.ex
  exact ce_prop (ds := []) hm cl hp Fk (B.hr.mono hj) hb passes_false he hab
theorem ce_fd (C : FldT X.K X.mg c f) (he : CE X w E e ca) (hb : attributeBase e f X.env (eval e X.env) = eval e X.env := by rfl) : CE X w E (.Attribute e f pos) (cFld c f ca) := by
  obtain ⟨C, F⟩ := C.ex
  exact ce_fld F.mg F.cls F.no he hb
theorem ce_mth {pl : Sem Bool} (B : Bd X k E) (C : MethT X.prog X.w X.K X.mg X.base j c m n F) (he : CE X w E o co) (ha : CA X w E (e :: es) cs) (hl : Len cs n) (hj : j ≤ k := by decide) (hst : starEach (e :: es) X.env = (false, eval e X.env) :: starEach es X.env := by rfl)
    (hpl : (backTo pos (starEach es X.env)).any (·.1) = false := by rfl)
    (ht : eval (.Call (.Attribute o m apos) (e :: es) [] pos) X.env = (do
      let ov ← eval o X.env
      standAt apos.atName
      let (f, first) ← holding [ov] (getMethod ov m pl)
      callWith pos f first (backTo pos (starEach (e :: es) X.env)) (backToKw pos (keywordEach [] X.env))) := by rfl) : CE X w E (.Call (.Attribute o m apos) (e :: es) [] pos) (cMeth c m F co cs) := by
  obtain ⟨C, f, fd, ps, hm, cl, M, hb, Fk⟩ := C.ex
  exact ce_methG (pl := pl) he hm cl M (Fk.mono hj) B.gd B.hr hb B.hx ha hl hst hpl ht
theorem ce_eqI (B : Bd X k E) (C : EqT X.prog X.w X.K X.mg X.base j c F) (ha : CE X w E e ca) (hb : CE X w E e2 cb) (hj : j ≤ k := by decide) (hmk : behindInMarks .Eq e2 = false := by first | exact nomark _ | rfl) : CE X w E (.Compare e [.Eq] [e2] pos) (cOp2 (fCmpI c false F) ca cb) := by
  obtain ⟨C, f, fd, ps, EF, hbd, Fk⟩ := C.ex
  exact ce_cmp (op_eqIns EF (Fk.mono hj) B.gd B.hr hbd B.hx) (t2_cmpI EF) ha hb hmk
theorem ce_neI (B : Bd X k E) (C : EqT X.prog X.w X.K X.mg X.base j c F) (ha : CE X w E e ca) (hb : CE X w E e2 cb) (hj : j + 1 ≤ k := by decide) (hmk : behindInMarks .NotEq e2 = false := by first | exact nomark _ | rfl) : CE X w E (.Compare e [.NotEq] [e2] pos) (cOp2 (fCmpI c true F) ca cb) := by
  obtain ⟨C, f, fd, ps, EF, hbd, Fk⟩ := C.ex
  exact ce_cmp (op_neIns EF (Fk.mono (Nat.le_refl _)) B.gd (B.hr.mono hj) hbd B.hx) (t2_cmpI EF) ha hb hmk
theorem ct_eqI (B : Bd X k E) (C : EqT X.prog X.w X.K X.mg X.base j c F) (ha : CE X w E e ca) (hb : CE X w E e2 cb) (hj : j ≤ k := by decide) (hmk : behindInMarks .Eq e2 = false := by first | exact nomark _ | rfl) : CT X w E (.Compare e [.Eq] [e2] pos) (cB (cOp2 (fCmpI c false F) ca cb)) := by
  obtain ⟨C, f, fd, ps, EF, hbd, Fk⟩ := C.ex
  exact ct_cmp (op_eqIns EF (Fk.mono hj) B.gd B.hr hbd B.hx) (t2_cmpI EF) ha hb hmk
theorem ct_neI (B : Bd X k E) (C : EqT X.prog X.w X.K X.mg X.base j c F) (ha : CE X w E e ca) (hb : CE X w E e2 cb) (hj : j + 1 ≤ k := by decide) (hmk : behindInMarks .NotEq e2 = false := by first | exact nomark _ | rfl) : CT X w E (.Compare e [.NotEq] [e2] pos) (cB (cOp2 (fCmpI c true F) ca cb)) := by
  obtain ⟨C, f, fd, ps, EF, hbd, Fk⟩ := C.ex
  exact ct_cmp (op_neIns EF (Fk.mono (Nat.le_refl _)) B.gd (B.hr.mono hj) hbd B.hx) (t2_cmpI EF) ha hb hmk
end
end TL
end s_TL33
section s_TL34
set_option Elab.async false
set_option linter.all false
set_option maxRecDepth 100000
set_option maxHeartbeats 4000000
/-! TL34: what the printed derivations use -/
namespace TL
open PySem PySem.Spec PyProof.Rows L2
section
variable {X : Cx} {w : Wd} {E : XK} {fr : Bool} {k n : Nat} {c f x s : Str} {pos pos' p p0 p1 : Pos} {e b : Expr} {es : List Expr} {st : Stmt} {ca : EC} {cc : SC}
theorem ce_gstr (h : ∃ t, X.mg x = some (.str s t)) (hg : Gl X x := by rfl) (hd : (x == ("__debug__" : Str)) = false := by decide) : CE X w E (.Name x pos) (cC (.str s)) := by
  obtain ⟨t, h⟩ := h
  exact ce_glob (v := .str s) hg h ⟨t, rfl⟩ (fun Z => .str s) hd
/-! ### a value stored is frozen at once -/
theorem ps_lkN {t : TS} (h : PS X st t) : PS X st (fun D σ H => t { D with nx := fun σ' H' => Fz (D.nx σ') H' } σ H) := by
  refine ⟨fun pins s σ H D I hw => ?_⟩
  refine thn (h.run pins s σ H _ I hw) fun f s1 q => ?_
  cases f with
  | next =>
    obtain ⟨σ', H', I2, q⟩ := q
    rcases q with q | ⟨d, u, hd, mu, q⟩
    · exact ⟨σ', H', I2, q⟩
    · obtain ⟨od, I3⟩ := I2.lock hd mu
      exact ⟨σ', _, I3, q od⟩
  | brk => exact q
  | cont => exact q
  | ret v => exact q
def cSeqFrz (i : Nat) (c : SC) : SC := fun r => c r >>= fun k => match k with
  | .nx r' => .ret (.nx (frzS i r'))
  | k => .ret k
theorem cs_thenFrz (i : Nat) (h : CS X w E fr st cc) : CS X w E fr st (cSeqFrz i cc) := by
  refine ⟨psImp (ps_lkN h.ps) fun D σ H hh => ?_⟩
  obtain ⟨H0, Z0, r, Z, o, R, hh⟩ := hh
  refine ⟨H0, Z0, r, Z, o, R, G.wp_mono (G.wp_bind.mp hh) (fun k hk => ?_) fun _ x => x⟩
  cases k with
  | nx r' =>
    refine fun σ' H' Z' o' R' s' => ?_
    exact (R'.frz i).imp fun H2 ⟨Z2, o2, R2, s2, _⟩ => hk σ' H2 Z2 o2 R2 (s'.trans s2)
  | bk r' => exact hk
  | ct r' => exact hk
  | rt t => exact hk
/-! ### self.f = e by the class's facts -/
theorem cs_fldMeT (i : Nat) (F : FldT X.K X.mg c f) (he : CE X w E e ca) (hN : X.N[i]? = some x := by rfl) (hv : Vis X.env.scope x := by first | exact Or.inl rfl | exact Or.inr (Or.inl rfl) | exact Or.inr (Or.inr rfl)) (hd : (x == ("__debug__" : Str)) = false := by decide)
    (hcd : (x == ("__classdict__" : Str)) = false := by decide) (hs : swapsWith e (some (.Attribute (.Name x p0) f pos')) pos.line X.env = pure false := by rfl) :
    CS X w E fr (.Assign [.Attribute (.Name x p0) f pos'] e pos) (cFldMe i c f ca) := by
  obtain ⟨C, F⟩ := F.ex
  exact cs_fldMe i F he hN hv hd hcd hs
/-! ### isinstance -/
theorem ce_isB {n : String} (I : InsT X.K X.mg c) (hg : Gl X "isinstance") (hm : X.mg "isinstance" = none) (he : CE X w E e ca) (hc : PE X b (tC (.ty n)))
    (hs1 : starEach [e, b] X.env = (false, eval e X.env) :: starEach [b] X.env := by rfl) (hs2 : starEach [b] X.env = (false, eval b X.env) :: starEach [] X.env := by rfl) (hpl : (backTo pos (starEach [b] X.env)).any (·.1) = false := by rfl) :
    CE X w E (.Call (.Name "isinstance" p) [e, b] [] pos) (cOp1 (fIsi c [.ty n]) ca) := by
  obtain ⟨C, F⟩ := I.ex
  exact ce_isi F hg hm he hc (.ty n) hs1 hs2 hpl
theorem ce_isO (I : InsT X.K X.mg c) (hg : Gl X "isinstance") (hm : X.mg "isinstance" = none) (he : CE X w E e ca) (hgc : Gl X c := by rfl) (hdc : (c == ("__debug__" : Str)) = false := by decide)
    (hs1 : starEach [e, .Name c p1] X.env = (false, eval e X.env) :: starEach [.Name c p1] X.env := by rfl) (hs2 : starEach [.Name c p1] X.env = (false, eval (.Name c p1) X.env) :: starEach [] X.env := by rfl) (hpl : (backTo pos (starEach [.Name c p1] X.env)).any (·.1) = false := by rfl) :
    CE X w E (.Call (.Name "isinstance" p) [e, .Name c p1] [] pos) (cOp1 (fIsi c [.own c]) ca) := by
  obtain ⟨C, F⟩ := I.ex
  exact ce_isi F hg hm he (pe_glob (v := .ref C) (u := .ref C) hgc F.mg rfl hdc) (.own F.mg) hs1 hs2 hpl
theorem ce_isBT {ns : List String} {x1} (I : InsT X.K X.mg c) (hg : Gl X "isinstance") (hm : X.mg "isinstance" = none) (he : CE X w E e ca) (hc : PAc X es (ns.map V.ty)) (h0 : ns.map Cl.ty ≠ [] := by decide) (hz : (ns.map V.ty).length ≤ 1000 := by decide)
    (hs1 : starEach [e, .Tuple es x1 p1] X.env = (false, eval e X.env) :: starEach [.Tuple es x1 p1] X.env := by rfl) (hs2 : starEach [.Tuple es x1 p1] X.env = (false, eval (.Tuple es x1 p1) X.env) :: starEach [] X.env := by rfl) (hpl : (backTo pos (starEach [.Tuple es x1 p1] X.env)).any (·.1) = false := by rfl) :
    CE X w E (.Call (.Name "isinstance" p) [e, .Tuple es x1 p1] [] pos) (cOp1 (fIsi c (ns.map .ty)) ca) := by
  obtain ⟨C, F⟩ := I.ex
  refine ce_isiT (us := ns.map Value.type) F hg hm he hc (by simp) (by simp) h0 (fun i cl v u h1 h2 h3 => ?_) hz hs1 hs2 hpl
  rw [List.getElem?_map, Option.map_eq_some_iff] at h1 h2 h3
  obtain ⟨a, ha, rfl⟩ := h1
  obtain ⟨b, hb, rfl⟩ := h2
  obtain ⟨d, hd, rfl⟩ := h3
  rw [ha] at hb hd
  cases hb; cases hd
  exact .ty a
end
/-- the class c's __init__ stands -/
structure InitAt (K : PySem.W.Frag) (mg : Str → Option Value) (c x qual : Str) (st : Stmt) (ps : List Str) : Prop where
  ex : ∃ C f fd, mg c = some (.ref C) ∧ Mk K C f ∧ Fun K x qual st f fd ∧ Binds K fd ps []
theorem fnI_at {P : Program} {wd : World} {K : PySem.W.Frag} {mg : Str → Option Value} {base : Heap} {k n : Nat} {ps N : List Str} {cl x qual : Str} {st : Stmt} {c : SC} (A : InitAt K mg cl x qual st ps) (S : FnScope N ps (defScope st)) (hn : ps.length = n + 1)
    (body : ∀ (f : Addr) (cdv : Value) (A : Around) (outer : List Env) (s : Shared) (H : Hp) (w : Wd) (E : XK), Bd (bx P wd K mg base N qual st f cdv A outer s H E) k E → CSs (bx P wd K mg base N qual st f cdv A outer s H E) w E false (defBody st) c) :
    MakeT P wd K mg base (k + 1) cl n (runI cl c N.length) := by
  obtain ⟨C, f, fd, hm, M, F, hb⟩ := A.ex
  exact ⟨C, f, fd, ps, hm, M, hb, hn, fnI F S hn fun w cdv A outer s H E gd hr hx => body f cdv A outer s H w E ⟨gd, hr, hx, passes_of rfl⟩⟩
end TL
end s_TL34
section s_TL35
set_option Elab.async false
set_option linter.all false
set_option maxRecDepth 100000
set_option maxHeartbeats 4000000
/-! TL35: repr -/
namespace TL
open PySem PySem.Spec PyProof.Rows L2
def rRepr (K : PySem.W.Frag) : List V → Hp → VK → Prop := fun xs H Q => ∃ x d, xs = [x] ∧ Dp K H x d ∧ d.showable = true ∧ d.hasDict = false ∧ d.depth ≤ 60 ∧ d.shown.length ≤ sizeLine ∧ Q (.str d.shown) H
section
variable {X : Cx} {M : Km} {w : Wd} {E : XK} {k : Nat}
theorem o_repr (gd : X.A.guards = some []) (hr : Room k X.A) : CallR X (.builtin "repr") (rRepr X.K) := by
  intro pins s σ H xs us Q I rx h
  obtain ⟨x, d, rfl, hd, hs, hn, hdp, hsz, q⟩ := h
  obtain ⟨u, rfl, ru⟩ := rx.one
  have hu := hr.units
  have big : ∀ a, u = .ref a → wpAny (model X.prog X.w) X.A (call (.builtin "repr") [u]) (EP X pins σ Q) X.xe s := fun a e => by
    subst e
    obtain ⟨as, r⟩ := Dp.reads I d x _ hd ru
    exact repr_of_reads' r hs (fun z => by rw [hn] at z; cases z) gd (by omega) (fun _ _ z => z) (fun h' t tk hk => ⟨.str d.shown, H, I.kept (t' := tk) hk, ⟨_, rfl⟩, q⟩) hsz
  cases hd with
  | non => cases ru; exact PySem.P.repr_of_none ⟨.str _, H, I.tok _, ⟨_, rfl⟩, q⟩
  | bl b => cases ru; exact PySem.P.repr_of_bool ⟨.str _, H, I.tok _, ⟨_, rfl⟩, q⟩
  | int i =>
    obtain ⟨t, rfl⟩ := ru
    exact PySem.P.repr_of_int (of_decide_eq_true hs) ⟨.str _, H, I.tok _, ⟨_, rfl⟩, q⟩
  | str z =>
    obtain ⟨t, rfl⟩ := ru
    exact PySem.P.repr_of_str ⟨.str _, H, I.tok _, ⟨_, rfl⟩, q⟩ hsz
  | @lst a xs ds h1 h2 => cases ru; exact big a rfl
  | @tup a xs ds h1 h2 => cases ru; exact big a rfl
def fRepr : List T → G T
  | [t] => match toPy t with
    | some d => if d.showable && !d.hasDict && decide (d.depth ≤ 60) && fits d.shown.length then .ret (.str d.shown) else .stuck
    | none => .stuck
  | _ => .stuck
theorem tn_repr : TN M w E (rRepr M.K) fRepr := fun H0 Z0 r σ H Z o R ts vs Q tr hw => by
  unfold fRepr at hw
  split at hw
  · rename_i t
    obtain ⟨v, rfl, tv⟩ := trs1 tr
    split at hw
    · rename_i d hd
      split at hw
      · rename_i hc
        simp only [Bool.and_eq_true, Bool.not_eq_true', decide_eq_true_eq] at hc
        obtain ⟨⟨⟨h1, h2⟩, h3⟩, h4⟩ := hc
        exact ⟨v, d, rfl, tv.dp R.good.zh hd, h1, h2, h3, fits_line h4, hw _ H Z (Grow.refl R.good) (.str _)⟩
      · exact False.elim hw
    · exact False.elim hw
  · exact False.elim hw
end
end TL
end s_TL35
section s_TL36
set_option Elab.async false
set_option linter.all false
set_option maxRecDepth 100000
set_option maxHeartbeats 4000000
/-! TL36: list(d.values()) -/
namespace TL
open PySem PySem.Spec PyProof.Rows L2
def VW (v d : Addr) : HO := .ext fun h => h.IsValuesView v d
section
variable {X : Cx} {w : Wd} {E : XK} {e : Expr} {te : TE} {ca : EC} {p pos apos cpos : Pos}
theorem pe_vals (he : PE X e te) (hbase : attributeBase e "values" X.env (eval e X.env) = eval e X.env := by rfl) (hline : (apos.endLine == cpos.line) = true := by rfl) :
    PE X (.Call (.Attribute e "values" apos) [] [] cpos) (fun σ H Q => te σ H fun x H1 => ∃ d kvs, x = .ref d ∧ Rd H1 d (.dK kvs) ∧ ∀ v, H1 v = none → Q (.ref v) (upd H1 v (VW v d))) := by
  refine ⟨fun pins s σ H Q I h => ?_⟩
  refine wpAny_Call_method (T := "dict") (id := "dict.values") hbase rfl hline F.plainAttrs_dict F.slot_dict_values F.type_dict_values (thn (he.run pins s σ H _ I h) fun u s1 ⟨x, H1, I1, rx, d, kvs, ex, hd, q⟩ => ?_)
  subst ex
  obtain rfl : u = Value.ref d := rx
  obtain ⟨z, hs, vs, kv, hm⟩ := dk_rd I1.hok hd
  refine ⟨hm.typeIs, hm.mapOf.noDict, ?_⟩
  have fin : EP X pins σ Q (.ref s1.heap.objs.size) { s1 with heap := s1.heap.push { cls := .type "dict_values", data := .fields #[.ref d] } } := by
    refine ⟨.ref s1.heap.objs.size, _, I1.laid (t' := s1.toks) (o := VW s1.heap.objs.size d) (fun b o e => Heap.get?_push_of_some _ e) (Nat.le_refl _) ⟨⟨_, Heap.get?_push_size _ rfl, rfl, rfl⟩, ⟨_, Heap.get?_push_size _ rfl⟩, fun h1 h2 ⟨o, a, b, c⟩ k => ⟨o, k o a, b, c⟩⟩, rfl, q _ (I1.hok.fresh (Nat.le_refl _))⟩
  show wpAny _ _ (callWith cpos (.builtin "dict.values") [.ref d] [] []) _ X.xe s1
  exact method_meetsIn F.slot_dict_values F.entry_dict_values rfl (PySem.evalArgs_none ⟨rfl, hm.typeIs, F.args_dict_values_1 _, _, meets_dict_values (mixKind X.prog X.w) d hs, ⟨vs, hm⟩, fin⟩)
def rListView : List V → Hp → VK → Prop := fun xs H Q => ∃ v d kvs, xs = [.ref v] ∧ H v = some (VW v d) ∧ Rd H d (.dK kvs) ∧ ∀ q, H q = none → Q (.ref q) (upd H q (.lst (kvs.map (·.2))))
theorem call_listView (hc : X.calm = true) : CallR X (.type "list") rListView := by
  intro pins s σ H xs us Q I r h
  obtain ⟨v, d, kvs, rfl, hv, hd, q⟩ := h
  obtain ⟨u, rfl, ru⟩ := r.one
  cases ru
  obtain ⟨view, _, _⟩ := I.hok v _ hv
  obtain ⟨z, lo, vs, rk, hdt⟩ := dk_rd I.hok hd
  obtain ⟨ep, hat⟩ := hdt.dictAt
  have hl : kvs.length = vs.length := Paired.length rk
  refine PySem.W.kdl_call (PySem.W.kdl_values (knd := mixKind X.prog X.w) (kvs := vs) (ep := ep)) (I.ok.hd hc) ⟨view, hat⟩ (by rw [← hl]; exact z) fun h' tk acc' c' hkeep hS hacc => ?_
  refine ⟨.ref s.heap.objs.size, upd H s.heap.objs.size (.lst (kvs.map (·.2))), I.laid hkeep (Nat.le_refl _) (show ObjOk X.prog X.w _ _ _ (.lst (kvs.map (·.2))) from ⟨?_, acc'.toList, c', ?_, ?_⟩), rfl, q _ (I.hok.fresh (Nat.le_refl _))⟩
  · rw [List.length_map]; exact z
  · have el : acc'.toList.length = acc'.size := by simp
    refine vals_of_at (by rw [List.length_map, el, hacc.1, hl]) fun j x w h1 h2 => ?_
    obtain ⟨k, hky⟩ := hacc.2 j w (by rw [← Array.getElem?_toList]; exact h2)
    rw [List.getElem?_map, Option.map_eq_some_iff] at h1
    obtain ⟨⟨k', x'⟩, hkv, rfl⟩ := h1
    obtain ⟨u, hu, ru⟩ := kv_get rk hkv
    rw [hky] at hu
    cases hu
    exact ru
  · rw [Array.toArray_toList]; exact hS
def cListVals (ca : EC) : EC := fun r => ca r >>= fun t => match t with
  | .dic kts => .ret (.lst (kts.map (·.2)))
  | _ => .stuck
theorem Trd.vals {K : PySem.W.Frag} {mg : Str → Option Value} {Z : Hp} : ∀ {kts : List (T × T)} {kvs : List (Key × V)}, Trd K mg w Z kts kvs → Trs K mg w Z (kts.map (·.2)) (kvs.map (·.2))
  | _, _, .nil => .nil
  | _, _, .cons _ a b => .cons a (Trd.vals b)
theorem cf_listVals (hg : Gl X "list") (hm : X.mg "list" = none) (he : CE X w E e ca) (hc : X.calm = true := by rfl) (hbase : attributeBase e "values" X.env (eval e X.env) = eval e X.env := by rfl) (hline : (apos.endLine == cpos.line) = true := by rfl)
    (hs : starEach [.Call (.Attribute e "values" apos) [] [] cpos] X.env = (false, eval (.Call (.Attribute e "values" apos) [] [] cpos) X.env) :: starEach [] X.env := by rfl) (hpl : (backTo pos (starEach [] X.env)).any (·.1) = false := by rfl) :
    CF X w E (.Call (.Name "list" p) [.Call (.Attribute e "values" apos) [] [] cpos] [] pos) (cListVals ca) := by
  refine ⟨peImp (pe_callTy (call_listView hc) hg hm (by rfl) (pa_cons (pe_vals he.pe hbase hline) pa_nil hs) (he := hs) (hpl := hpl)) fun σ H Q h => ?_⟩
  obtain ⟨H0, Z0, r, Z, o, R, h⟩ := h
  refine evSeq (P := fun H Z => PostF X.km w H Z Q) (PX := fun _ => True) R (fun g => PostF.weak g) h fun x H1 Z1 a R1 g1 t1 h1 => ?_
  cases t1 with
  | @dic kts d kvs hd hz tr =>
    refine ⟨d, kvs, rfl, Sub.rd R1.good.zh hd.rd, fun v hv => ?_⟩
    have g2 := Grow.laid (o := VW v d) R1.good hv
    refine ⟨v, d, kvs, rfl, upd_same, Sub.rd g2.good.zh hd.rd, fun q hq => ?_⟩
    have g3 := Grow.laid (o := .lst (kvs.map (·.2))) g2.good hq
    refine h1 q [q] _ Z1 (g2.trans g3) ⟨rfl, _, upd_same, by rw [List.length_map]; exact hz, tr.vals⟩ fun a ha => ?_
    simp at ha; subst ha
    have nq : H1 a = none := by
      cases z : H1 a with
      | none => rfl
      | some u => have z1 := g2.hh a u z (fun hm => R1.good.nw hv |> fun _ => by
          have := g2.good.nw hq a hm; exact this rfl); rw [hq] at z1; cases z1
    exact Grow.newRoot R1.good nq a (by simp)
  | _ => exact False.elim h1
end
end TL
end s_TL36
section s_TL37
set_option Elab.async false
set_option linter.all false
set_option maxRecDepth 100000
set_option maxHeartbeats 4000000
/-! TL37: dict(zip(a, b)), a and b anything walked -/
namespace TL
open PySem PySem.Spec PyProof.Rows L2
section
variable {prog : Program} {w : World} {A : Around} {E : Value → Shared → Prop} {s : Shared} {z TI TO T i1 i2 : Addr} {fp1 fp2 : List Addr} {n1 n2 i : Nat} {P1 P2 : Nat → Value → Prop} {St1 St2 : Nat → Heap → Prop} {f : Bool} {oT : Obj}
theorem zD_item_held {Q : Value → Shared → Prop} (S : ZipSep2 z TI TO i1 i2 fp1 fp2) (D1 : Draws prog w A i1 fp1 n1 P1 St1) (D2 : Draws prog w A i2 fp2 n2 P2 St2)
    (hz : IsZipHeld s.heap z TI TO T f) (hT : s.heap.get? T = some oT) (hTI : IsTupOf2 s.heap TI (.ref i1) (.ref i2)) (st1 : St1 i s.heap) (st2 : St2 i s.heap) (hlt1 : i < n1) (hlt2 : i < n2)
    (hQ : ∀ x1 x2 h' tk, P1 i x1 → P2 i x2 → IsZipHeld h' z TI TO T true → St1 (i + 1) h' → St2 (i + 1) h' → IsTupOf2 h' s.heap.objs.size x1 x2 → h'.objs.size = s.heap.objs.size + 1 →
      (∀ c o, c ≠ z → c ≠ i1 → c ≠ i2 → s.heap.get? c = some o → h'.get? c = some o) → Q (.ref s.heap.objs.size) { s with heap := h', toks := tk }) :
    wpAny (model prog w) A (Builtin.«zip.__next__» ⟨[.ref z], []⟩) (fun fin s' => ∃ v, fin = .done (.ret v) ∧ Q v s') E s := by
  obtain ⟨hp, g, d, tk0, os⟩ := s
  show wpAny _ _ (field (.ref z) 2 >>= _) _ _ _
  refine wpAny_bind (wpAny_field hz rfl (x := .bool false) rfl ?_)
  show wpAny _ _ (field (.ref z) 3 >>= _) _ _ _
  refine wpAny_bind (wpAny_field hz rfl (x := .ref TI) rfl ?_)
  refine wpAny_bind (wpAny_seqItems hTI rfl ?_)
  show wpAny _ _ (Builtin.SmallTypes.ownedTupleIsFree (.ref z) >>= _) _ _ _
  refine wpAny_bind (wpAny_tupleHeld_zip hz hT fun h₁ hz₁ hs₁ => ?_)
  simp only [Bool.false_eq_true, if_false]
  refine wpAny_bind ?_
  rw [← Array.forIn_toList]
  simp only [List.forIn_cons, List.forIn_nil]
  replace hs₁ : Heap.SameBut z hp h₁ := hs₁
  refine wpAny_bind (wpAny_bind (wpAny_holding ?_))
  show wpAny _ _ (Builtin.SmallTypes.nextOf (.ref i1) >>= _) _ _ ⟨h₁, g, d, tk0, os⟩
  refine wpAny_bind (D1.item i _ _ _ hlt1 (D1.over st1 hs₁ S.zf1) fun x1 p1 tk1 hx1 sn1 hp1 => wpAny_pure ?_)
  replace hp1 : Heap.SameBut i1 h₁ p1 := hp1
  refine wpAny_pure ?_
  refine wpAny_bind (wpAny_bind (wpAny_holding ?_))
  show wpAny _ _ (Builtin.SmallTypes.nextOf (.ref i2) >>= _) _ _ ⟨p1, g, d, tk1, os⟩
  refine wpAny_bind (D2.item i _ _ _ hlt2 (D2.over (D2.over st2 hs₁ S.zf2) hp1 S.sep1_2) fun x2 p2 tk2 hx2 sn2 hp2 => wpAny_pure ?_)
  replace hp2 : Heap.SameBut i2 p1 p2 := hp2
  refine wpAny_pure (wpAny_pure ?_)
  show wpAny _ _ (newTuple [x1, x2] >>= _) _ _ ⟨p2, g, d, tk2, os⟩
  refine wpAny_bind (wpAny_newTuple ?_)
  have hsz : p2.objs.size = hp.objs.size := by rw [hp2.1, hp1.1, hs₁.1]
  have hz₃ : IsZipHeld p2 z TI TO T true := hp2.extBut _ _ S.zi2 (hp1.extBut _ _ S.zi1 hz₁)
  have hk : ∀ c o, c ≠ z → c ≠ i1 → c ≠ i2 → hp.get? c = some o → p2.get? c = some o := fun c o c1 c2 c3 e => hp2.extBut _ _ c3 (hp1.extBut _ _ c2 (hs₁.extBut _ _ c1 e))
  have hj1 : St1 (i + 1) p2 := D1.over sn1 hp2 S.sep2_1
  refine wpAny_pure ⟨_, rfl, ?_⟩
  show Q (.ref p2.objs.size) ⟨p2.push { cls := .type "tuple", data := .seq #[x1, x2] }, g, d, tk2, os⟩
  have ht : IsTupOf2 (p2.push { cls := .type "tuple", data := .seq #[x1, x2] }) p2.objs.size x1 x2 := Heap.get?_push_size _ rfl
  have hz4 : (p2.push { cls := .type "tuple", data := .seq #[x1, x2] }).objs.size = p2.objs.size + 1 := Heap.size_push ..
  rw [hsz] at ht hz4 ⊢
  exact hQ x1 x2 _ tk2 hx1 hx2 (Heap.get?_push_of_some _ hz₃) (D1.frame _ _ _ hj1 fun b hb o e => Heap.get?_push_of_some _ e) (D2.frame _ _ _ sn2 fun b hb o e => Heap.get?_push_of_some _ e) ht hz4 fun c o c1 c2 c3 e => Heap.get?_push_of_some _ (hk c o c1 c2 c3 e)
theorem zD_end_held {Q : Fin → Shared → Prop} (S : ZipSep2 z TI TO i1 i2 fp1 fp2) (D1 : Draws prog w A i1 fp1 n1 P1 St1) (D2 : Draws prog w A i2 fp2 n2 P2 St2)
    (hz : IsZipHeld s.heap z TI TO T f) (hT : s.heap.get? T = some oT) (hTI : IsTupOf2 s.heap TI (.ref i1) (.ref i2)) (st1 : St1 i s.heap) (st2 : St2 i s.heap) (hle1 : i ≤ n1) (hle2 : i ≤ n2) (hend : i = n1 ∨ i = n2)
    (hE : ∀ h' tk e, (∀ c o, c ≠ z → c ≠ i1 → c ≠ i2 → s.heap.get? c = some o → h'.get? c = some o) → (∃ o, h'.get? e = some o ∧ o.cls = .type "StopIteration") → E (.ref e) { s with heap := h', toks := tk }) :
    wpAny (model prog w) A (Builtin.«zip.__next__» ⟨[.ref z], []⟩) Q E s := by
  obtain ⟨hp, g, d, tk0, os⟩ := s
  show wpAny _ _ (field (.ref z) 2 >>= _) _ _ _
  refine wpAny_bind (wpAny_field hz rfl (x := .bool false) rfl ?_)
  show wpAny _ _ (field (.ref z) 3 >>= _) _ _ _
  refine wpAny_bind (wpAny_field hz rfl (x := .ref TI) rfl ?_)
  refine wpAny_bind (wpAny_seqItems hTI rfl ?_)
  show wpAny _ _ (Builtin.SmallTypes.ownedTupleIsFree (.ref z) >>= _) _ _ _
  refine wpAny_bind (wpAny_tupleHeld_zip hz hT fun h₁ hz₁ hs₁ => ?_)
  simp only [Bool.false_eq_true, if_false]
  refine wpAny_bind ?_
  rw [← Array.forIn_toList]
  simp only [List.forIn_cons, List.forIn_nil]
  replace hs₁ : Heap.SameBut z hp h₁ := hs₁
  refine wpAny_bind (wpAny_bind (wpAny_holding ?_))
  show wpAny _ _ (Builtin.SmallTypes.nextOf (.ref i1) >>= _) _ _ ⟨h₁, g, d, tk0, os⟩
  by_cases hlt1 : i < n1
  · refine wpAny_bind (D1.item i _ _ _ hlt1 (D1.over st1 hs₁ S.zf1) fun x1 p1 tk1 hx1 sn1 hp1 => wpAny_pure ?_)
    replace hp1 : Heap.SameBut i1 h₁ p1 := hp1
    have hi2 : i = n2 := by omega
    refine wpAny_pure ?_
    refine wpAny_bind (wpAny_bind (wpAny_holding ?_))
    show wpAny _ _ (Builtin.SmallTypes.nextOf (.ref i2) >>= _) _ _ ⟨p1, g, d, tk1, os⟩
    refine wpAny_bind (D2.done ⟨p1, g, d, tk1, os⟩ _ _ (by rw [← hi2]; exact D2.over (D2.over st2 hs₁ S.zf2) hp1 S.sep1_2) fun q e hq he => ?_)
    replace hq : Heap.ExtBut i2 p1 q := hq
    exact hE q tk1 e (fun c o c1 c2 c3 x => hq _ _ c3 (hp1.extBut _ _ c2 (hs₁.extBut _ _ c1 x))) he
  · have hi1 : i = n1 := by omega
    refine wpAny_bind (D1.done ⟨h₁, g, d, tk0, os⟩ _ _ (by rw [← hi1]; exact D1.over st1 hs₁ S.zf1) fun q e hq he => ?_)
    replace hq : Heap.ExtBut i1 h₁ q := hq
    exact hE q tk0 e (fun c o c1 c2 c3 x => hq _ _ c2 (hs₁.extBut _ _ c1 x)) he
end
end TL
end s_TL37
section s_TL38
set_option Elab.async false
set_option linter.all false
set_option maxRecDepth 100000
set_option maxHeartbeats 4000000
/-! TL38: dict(zip(a, b)) -/
namespace TL
open PySem PySem.Spec PyProof.Rows L2
section
variable {prog : Program} {w : World} {A : Around} {E : Value → Shared → Prop} {s : Shared} {z TI TO T i1 i2 : Addr} {fp1 fp2 : List Addr} {n1 n2 i : Nat} {P1 P2 : Nat → Value → Prop} {St1 St2 : Nat → Heap → Prop} {f : Bool} {oT : Obj}
theorem pyNext_zD_item_held {Q : Option Value → Shared → Prop} (S : ZipSep2 z TI TO i1 i2 fp1 fp2) (D1 : Draws prog w A.in1 i1 fp1 n1 P1 St1) (D2 : Draws prog w A.in1 i2 fp2 n2 P2 St2)
    (hz : IsZipHeld s.heap z TI TO T f) (hT : s.heap.get? T = some oT) (hTI : IsTupOf2 s.heap TI (.ref i1) (.ref i2)) (st1 : St1 i s.heap) (st2 : St2 i s.heap) (hlt1 : i < n1) (hlt2 : i < n2)
    (hQ : ∀ x1 x2 h' tk, P1 i x1 → P2 i x2 → IsZipHeld h' z TI TO T true → St1 (i + 1) h' → St2 (i + 1) h' → IsTupOf2 h' s.heap.objs.size x1 x2 → h'.objs.size = s.heap.objs.size + 1 →
      (∀ c o, c ≠ z → c ≠ i1 → c ≠ i2 → s.heap.get? c = some o → h'.get? c = some o) → Q (some (.ref s.heap.objs.size)) { s with heap := h', toks := tk }) :
    wpAny (model prog w) A (pyNext (.ref z)) Q E s := by
  have hTy : s.TypeIs (.ref z) "zip" := ⟨_, hz, rfl⟩
  unfold pyNext
  exact wpAny_bind (wpAny_attempt (wpAny_callSpecial?_slot (name := Str.ofString "__next__") hTy F.slot_zip_next
    (wpAny_call_entry F.slot_zip_next hTy F.entry_zip_next
      (zD_item_held S D1 D2 hz hT hTI st1 st2 hlt1 hlt2 fun x1 x2 h' tk y1 y2 a1 a3 a4 a5 a6 a7 => wpAny_pure (hQ x1 x2 h' tk y1 y2 a1 a3 a4 a5 a6 a7)) (F.args_zip_next_1 _))))
theorem pyNext_zD_end_held {Q : Option Value → Shared → Prop} (S : ZipSep2 z TI TO i1 i2 fp1 fp2) (D1 : Draws prog w A.in1 i1 fp1 n1 P1 St1) (D2 : Draws prog w A.in1 i2 fp2 n2 P2 St2)
    (hz : IsZipHeld s.heap z TI TO T f) (hT : s.heap.get? T = some oT) (hTI : IsTupOf2 s.heap TI (.ref i1) (.ref i2)) (st1 : St1 i s.heap) (st2 : St2 i s.heap) (hle1 : i ≤ n1) (hle2 : i ≤ n2) (hend : i = n1 ∨ i = n2)
    (hQ : ∀ h' tk, (∀ c o, c ≠ z → c ≠ i1 → c ≠ i2 → s.heap.get? c = some o → h'.get? c = some o) → Q none { s with heap := h', toks := tk }) : wpAny (model prog w) A (pyNext (.ref z)) Q E s := by
  have hTy : s.TypeIs (.ref z) "zip" := ⟨_, hz, rfl⟩
  unfold pyNext
  refine wpAny_bind (wpAny_attempt (wpAny_callSpecial?_slot (name := Str.ofString "__next__") hTy F.slot_zip_next
    (wpAny_call_entry F.slot_zip_next hTy F.entry_zip_next (zD_end_held S D1 D2 hz hT hTI st1 st2 hle1 hle2 hend fun h' tk e hk he => ?_) (F.args_zip_next_1 _))))
  obtain ⟨o, ho, hc⟩ := he
  refine wpAny_bind (wpAny_isInstance (T := "StopIteration") (b := true) ⟨o, ho, hc⟩ isSubtype_stop ?_)
  exact wpAny_pure (hQ _ _ hk)
end
theorem PairArg.zipG {prog : Program} {w : World} {a b : Addr} {xs ys : Array Value} {oa ob : Obj} {sa sb : Addr → Nat → Heap → Prop} {fa fb : Heap → Prop} (Ra : Raw1 prog w a xs oa sa fa) (Rb : Raw1 prog w b ys ob sb fb) (I : Nat) (la : a < I) (lb : b < I) :
    PairArg prog w "zip" (I + 4) [I + 4, I + 2, I + 3, I, I + 1, a, b] [I + 4, I + 3, I, I + 1] (min xs.size ys.size) (fun i k v => xs[i]? = some k ∧ ys[i]? = some v)
      (fun h => IsZip h (I + 4) (I + 2) (I + 3) .none ∧ IsTupOf2 h (I + 2) (.ref I) (.ref (I + 1)) ∧ (∃ u v, IsTupOf2 h (I + 3) u v) ∧ (sa I 0 h ∧ fa h) ∧ (sb (I + 1) 0 h ∧ fb h)) where
  type := fun s ok => ⟨_, ok.1, rfl⟩
  notDict := by decide
  keep := fun h h' ok hk => by
    obtain ⟨hz, hTI, ⟨u, v, hTO⟩, ⟨h1, f1⟩, ⟨h2, f2⟩⟩ := ok
    exact ⟨hk _ _ hz, hk _ _ hTI, ⟨u, v, hk _ _ hTO⟩, ⟨Ra.keep _ _ _ _ h1 fun o e => hk _ o e, Ra.fkeep _ _ f1 fun o e => hk _ o e⟩, ⟨Rb.keep _ _ _ _ h2 fun o e => hk _ o e, Rb.fkeep _ _ f2 fun o e => hk _ o e⟩⟩
  there := fun h ok b' hb => by
    obtain ⟨hz, hTI, ⟨u, v, hTO⟩, ⟨h1, f1⟩, ⟨h2, f2⟩⟩ := ok
    obtain ⟨o1, t1, _⟩ := Ra.obj _ _ _ h1
    obtain ⟨o2, t2, _⟩ := Rb.obj _ _ _ h2
    obtain ⟨o3, t3⟩ := Ra.ex _ f1
    obtain ⟨o4, t4⟩ := Rb.ex _ f2
    simp only [List.mem_cons, List.not_mem_nil, or_false] at hb
    rcases hb with q | q | q | q | q | q | q <;> rw [q]
    · exact ⟨_, hz⟩
    · exact ⟨_, hTI⟩
    · exact ⟨_, hTO⟩
    · exact ⟨_, t1⟩
    · exact ⟨_, t2⟩
    · exact ⟨_, t3⟩
    · exact ⟨_, t4⟩
  sub := fun b hb => by simp at hb ⊢; rcases hb with rfl | rfl | rfl | rfl <;> simp
  noKeys := fun A s Q E hA ok h => getAttrOr_miss_zip ok.1 rfl rfl rfl zip_no_keys (by decide +kernel) hA h
  iter := fun A s d Q E hA ok hd hdf h => by
    obtain ⟨hz, hTI, ⟨u, v, hTO⟩, st1, st2⟩ := ok
    have S := sepOf I a b la lb
    simp only [List.mem_cons, List.not_mem_nil, or_false, not_or] at hdf
    obtain ⟨dz, dTI, dTO, di1, di2, dl1, dl2⟩ := hdf
    have D1 := Ra.draws A.in1 I hA (Nat.ne_of_lt la)
    have D2 := Rb.draws A.in1 (I + 1) hA (Nat.ne_of_lt (Nat.lt_succ_of_lt lb))
    refine wpAny_pyIter_zip hz (h (I + 4) [I + 4, I + 3, I, I + 1] (fun i h => i ≤ min xs.size ys.size ∧ IsTupOf2 h (I + 2) (.ref I) (.ref (I + 1)) ∧ (sa I i h ∧ fa h) ∧ (sb (I + 1) i h ∧ fb h) ∧
      ((IsZip h (I + 4) (I + 2) (I + 3) .none ∧ ∃ u v, IsTupOf2 h (I + 3) u v) ∨ ∃ T f oT, IsZipHeld h (I + 4) (I + 2) (I + 3) T f ∧ h.get? T = some oT ∧ T ≠ I + 4 ∧ T ≠ I ∧ T ≠ I + 1 ∧ T ≠ d)) s.heap s.toks ?_
      ⟨Nat.zero_le _, hTI, st1, st2, .inl ⟨hz, u, v, hTO⟩⟩ (fun _ _ e => e) fun b hb => .inl hb)
    have nz : ∀ {x y : Nat}, ¬ x = y → ¬ ((x : Addr) = (y : Addr)) := fun h => h
    exact {
      off := fun hm => by
        simp only [List.mem_cons, List.not_mem_nil, or_false] at hm
        rcases hm with e | e | e | e
        · exact dz e
        · exact dTO e
        · exact di1 e
        · exact di2 e
      frame := fun i h₁ h₂ st hk => by
        obtain ⟨hi, hTI, ⟨h1, f1⟩, ⟨h2, f2⟩, hz⟩ := st
        refine ⟨hi, hk _ _ (Ne.symm dTI) hTI, ⟨Ra.keep _ _ _ _ h1 fun o e => hk _ o (Ne.symm di1) e, Ra.fkeep _ _ f1 fun o e => hk _ o (Ne.symm dl1) e⟩, ⟨Rb.keep _ _ _ _ h2 fun o e => hk _ o (Ne.symm di2) e, Rb.fkeep _ _ f2 fun o e => hk _ o (Ne.symm dl2) e⟩, ?_⟩
        rcases hz with ⟨hz, u, v, hTO⟩ | ⟨T, f, oT, hz, hT, r1, r2, r3, r4⟩
        · exact .inl ⟨hk _ _ (Ne.symm dz) hz, u, v, hk _ _ (Ne.symm dTO) hTO⟩
        · exact .inr ⟨T, f, oT, hk _ _ (Ne.symm dz) hz, hk _ _ r4 hT, r1, r2, r3, r4⟩
      item := fun i s₁ Q₁ E₁ hi st hds hQ => by
        obtain ⟨hi0, hTI, st1, st2, hz⟩ := st
        have hix : i < xs.size := Nat.lt_of_lt_of_le hi (Nat.min_le_left ..)
        have hiy : i < ys.size := Nat.lt_of_lt_of_le hi (Nat.min_le_right ..)
        have lt : ∀ {c : Addr} {o : Obj}, s₁.heap.get? c = some o → s₁.heap.objs.size ≠ c := fun e => Nat.ne_of_gt (Heap.lt_size e)
        have n1 : s₁.heap.objs.size ≠ I := let ⟨_, e, _⟩ := Ra.obj _ _ _ st1.1; lt e
        have n2 : s₁.heap.objs.size ≠ I + 1 := let ⟨_, e, _⟩ := Rb.obj _ _ _ st2.1; lt e
        rcases hz with ⟨hz, u, v, hTO⟩ | ⟨T, f, oT, hz, hT, r1, r2, r3, r4⟩
        · refine wpAny_pyNext_zipD2_item S D1 D2 hz hTI hTO st1 st2 hix hiy fun x1 x2 h' tk y1 y2 a1 a2 a3 a4 a5 a6 hk => ?_
          exact hQ s₁.heap.objs.size _ _ h' tk ⟨y1, y2⟩ (.inl ⟨_, a5, rfl, _, rfl⟩)
            ⟨hi, hk _ _ (nz (by omega)) (nz (by omega)) (nz (by omega)) (nz (by omega)) hTI, a3, a4, .inr ⟨s₁.heap.objs.size, false, _, a1, a5, lt hz, n1, n2, Nat.ne_of_gt hds⟩⟩
            fun c o hc e => hk c o (fun x => hc (by simp [x])) (fun x => hc (by simp [x])) (fun x => hc (by simp [x])) (fun x => hc (by simp [x])) e
        · refine pyNext_zD_item_held S D1 D2 hz hT hTI st1 st2 hix hiy fun x1 x2 h' tk y1 y2 a1 a3 a4 a5 a6 hk => ?_
          exact hQ s₁.heap.objs.size _ _ h' tk ⟨y1, y2⟩ (.inl ⟨_, a5, rfl, _, rfl⟩)
            ⟨hi, hk _ _ (nz (by omega)) (nz (by omega)) (nz (by omega)) hTI, a3, a4, .inr ⟨T, true, oT, a1, hk _ _ r1 r2 r3 hT, r1, r2, r3, r4⟩⟩
            fun c o hc e => hk c o (fun x => hc (by simp [x])) (fun x => hc (by simp [x])) (fun x => hc (by simp [x])) e
      done := fun s₁ Q₁ E₁ st hQ => by
        obtain ⟨hi0, hTI, st1, st2, hz⟩ := st
        have e1 : min xs.size ys.size = xs.size ∨ min xs.size ys.size = ys.size := by omega
        rcases hz with ⟨hz, u, v, hTO⟩ | ⟨T, f, oT, hz, hT, r1, r2, r3, r4⟩
        · exact wpAny_pyNext_zipD2_end S D1 D2 hz hTI hTO st1 st2 (Nat.min_le_left ..) (Nat.min_le_right ..) e1 fun h' tk hk => hQ h' tk fun c o hc e => hk c o (fun x => hc (by simp [x])) (fun x => hc (by simp [x])) (fun x => hc (by simp [x])) (fun x => hc (by simp [x])) e
        · exact pyNext_zD_end_held S D1 D2 hz hT hTI st1 st2 (Nat.min_le_left ..) (Nat.min_le_right ..) e1 fun h' tk hk => hQ h' tk fun c o hc e => hk c o (fun x => hc (by simp [x])) (fun x => hc (by simp [x])) (fun x => hc (by simp [x])) e }
end TL
end s_TL38
section s_TL39
set_option Elab.async false
set_option linter.all false
set_option maxRecDepth 100000
set_option maxHeartbeats 4000000
/-! TL39: dict(zip(a, b)) as an expression -/
namespace TL
open PySem PySem.Spec PyProof.Rows L2
/-- the pairs of keys and values -/
theorem pairs_have {P : Program} {w : World} : ∀ {ks : List Key} {us its : List Value}, Vals (ks.map kV) us → PySem.PairsHave (mixKind P w) (min us.toArray.size its.toArray.size) (fun i k v => us.toArray[i]? = some k ∧ its.toArray[i]? = some v) (ks.zip its) := by
  intro ks us its h
  have hl : ks.length = us.length := by have := h.length; simpa using this
  refine ⟨by simp [hl], fun i key v hr => ?_⟩
  obtain ⟨h1, h2⟩ := hr
  have h1' : us[i]? = some key := by simpa using h1
  have h2' : its[i]? = some v := by simpa using h2
  have hi : i < ks.length := by rw [hl]; exact (List.getElem?_eq_some_iff.mp h1').1
  obtain ⟨u, hu, ru⟩ := h.get (by rw [List.getElem?_map, List.getElem?_eq_getElem hi]; rfl)
  rw [h1'] at hu; cases hu
  exact ⟨ks[i], by rw [List.getElem?_zip_eq_some]; exact ⟨List.getElem?_eq_getElem hi, h2'⟩, kV_is ru⟩
theorem kv_zip : ∀ {ks : List Key} {ys : List V} {its : List Value}, Vals ys its → KV (ks.zip ys) (ks.zip its)
  | [], _, _, _ => by simp only [List.zip_nil_left]; exact .nil
  | k :: ks, [], _, .nil => .nil
  | k :: ks, y :: ys, _, .cons r t => .cons ⟨rfl, r⟩ (kv_zip t)
section
variable {X : Cx} {w : Wd} {E : XK} {e e2 : Expr} {ta : TA} {cs : List Sl → G (List T)} {p pz pos pos2 : Pos} {P0 : Str} {kts : List (Str × T)}
theorem pe_dictZip (hg : Gl X "dict") (hm : X.mg "dict" = none) (hgz : Gl X "zip") (hmz : X.mg "zip" = none) (hc : X.calm = true) (ha : PA X [e, e2] ta)
    (hs : starEach [e, e2] X.env = (false, eval e X.env) :: starEach [e2] X.env) (hpl : (backTo pos2 (starEach [e2] X.env)).any (·.1) = false)
    (hs1 : starEach [.Call (.Name "zip" pz) [e, e2] [] pos2] X.env = (false, eval (.Call (.Name "zip" pz) [e, e2] [] pos2) X.env) :: starEach [] X.env) (hpl1 : (backTo pos (starEach [] X.env)).any (·.1) = false) :
    PE X (.Call (.Name "dict" p) [.Call (.Name "zip" pz) [e, e2] [] pos2] [] pos) (fun σ H Q => ta σ H fun vs H1 => ∃ (a b : Addr) (ks : List Key) (ys : List V) (oa ob : Obj) (sa sb : Addr → Nat → Heap → Prop) (pa pb : Hp → Prop), vs = [.ref a, .ref b] ∧ Sr X.prog X.w X.K a (ks.map kV) oa sa pa ∧ Sr X.prog X.w X.K b ys ob sb pb ∧ pa H1 ∧ pb H1 ∧
      ks.length ≤ sizeLine ∧ ∀ q, H1 q = none → Q (.ref q) (upd H1 q (.dK (mergeK [] (ks.zip ys))))) := by
  refine ⟨fun pins s σ H Q I h => ?_⟩
  refine wpAny_Call_Name_kw (ld_blt I hg hm (by rfl) ?_)
  refine PyProof.Rows.callWith_type1 (args_cons ?_ hs1) hs1 hpl1
  refine Call_ (ld_blt I hgz hmz PyProof.Rows.boot_zip (PyProof.Rows.callWith_type1 (thn (ha.run pos2 pins s σ H _ I h) fun us s1 ⟨vs, H1, I1, r1, q1⟩ => ?_) hs hpl))
  obtain ⟨a, b, ks, ys, oa, ob, sa, sb, pa, pb, ex, Sa, Sb, ha1, hb1, hz, q⟩ := q1
  subst ex
  cases r1 with
  | cons r rr =>
    cases rr with
    | cons r' rr =>
      cases rr
      cases r
      cases r'
      obtain ⟨its, f1, R1, p1, rv⟩ := Sa.ex X rfl rfl rfl pins σ H1 s1 I1 ha1
      obtain ⟨its2, f2, R2, p2, rv2⟩ := Sb.ex X rfl rfl rfl pins σ H1 s1 I1 hb1
      refine call_zipG R1 R2 p1 p2 fun h' hzz hTI hTO h1 h2 hsz hk => args_nil ?_
      have I2 : Inv X pins σ H1 { s1 with heap := h' } := I1.kept (t' := s1.toks) hk
      have hl : ks.length = its.length := by have := rv.length; simpa using this
      refine call_dict_pairs (knd := mixKind X.prog X.w) (kvs := ks.zip its2) (PairArg.zipG R1 R2 s1.heap.objs.size (R1.lt _ p1) (R2.lt _ p2)) (I.ok.hd hc)
        ⟨hzz, hTI, ⟨_, _, hTO⟩, ⟨h1, R1.fkeep _ _ p1 fun o e => hk _ _ e⟩, ⟨h2, R2.fkeep _ _ p2 fun o e => hk _ _ e⟩⟩ (pairs_have rv) (by simp; omega) fun h'' tk hd hkk => ?_
      have kv : KV (mergeK [] (ks.zip ys)) (merged [] (ks.zip its2)) := (kv_zip rv2).merge .nil
      have hzl : (mergeK [] (ks.zip ys)).length ≤ sizeLine := by
        have := length_mergeK (ks.zip ys) []
        rw [List.length_nil, List.length_zip] at this
        omega
      refine ⟨.ref h'.objs.size, _, I2.turnedNew (t' := tk) (ch := [s1.heap.objs.size + 4, s1.heap.objs.size + 3, s1.heap.objs.size, s1.heap.objs.size + 1]) hkk (fun c hcm => ?_) (Nat.le_refl _) (dk_new hzl (beq_eq_false_iff_ne.mpr (Ne.symm (Nat.ne_of_lt I2.big))) kv hd), rfl, q _ (I2.hok.fresh (Nat.le_refl _))⟩
      have e' : c = s1.heap.objs.size + 4 ∨ c = s1.heap.objs.size + 3 ∨ c = s1.heap.objs.size ∨ c = s1.heap.objs.size + 1 := by simpa using hcm
      have hle : s1.heap.objs.size ≤ c := by rcases e' with z | z | z | z <;> (rw [z]; first | exact Nat.le_add_right _ _ | exact Nat.le_refl _)
      obtain ⟨a1, a2, a3, a4, a5, a6⟩ := I1.fpOk hle (I1.hok.fresh hle)
      exact ⟨a1, a2, a3, a4, a5, a6⟩
end
end TL
end s_TL39
section s_TL40
set_option Elab.async false
set_option linter.all false
set_option maxRecDepth 100000
set_option maxHeartbeats 4000000
/-! TL40: dict(zip(a, b)), by computations -/
namespace TL
open PySem PySem.Spec PyProof.Rows L2
def isKey (t : T) : Bool := (keyT t).isSome
theorem trs_keys {K : PySem.W.Frag} {mg : Str → Option Value} {w : Wd} {Z : Hp} : ∀ {ts : List T} {xs : List V}, Trs K mg w Z ts xs → ts.all isKey = true → ∃ ks : List Key, xs = ks.map kV ∧ ks.length = ts.length ∧ ∀ {us : List T} {ys : List V}, Trs K mg w Z us ys → Trd K mg w Z (ts.zip us) (ks.zip ys)
  | _, _, .nil, _ => ⟨[], rfl, rfl, fun _ => by rw [List.zip_nil_left, List.zip_nil_left]; exact .nil⟩
  | _, _, @Trs.cons _ _ _ _ t v ts vs a b, h => by
    rw [List.all_cons, Bool.and_eq_true] at h
    obtain ⟨key, hk⟩ := Option.isSome_iff_exists.mp (show (keyT t).isSome = true from h.1)
    obtain ⟨ks, e, l, f⟩ := trs_keys b h.2
    refine ⟨key :: ks, by rw [List.map_cons, ← e, a.key hk], by rw [List.length_cons, List.length_cons, l], fun {us ys} q => ?_⟩
    cases q with
    | nil => rw [List.zip_nil_right, List.zip_nil_right]; exact .nil
    | cons c d => exact .cons hk c (f d)
def dictZipOf (P0 : Str) (kts : List (Str × T)) : List T → G T
  | [a, b] => match srcT P0 kts a, srcT P0 kts b with
    | some ts, some us => if ts.all isKey = true then .ret (.dic (mergeT [] (ts.zip us))) else .stuck
    | _, _ => .stuck
  | _ => .stuck
section
variable {X : Cx} {w : Wd} {E : XK} {e e2 : Expr} {cs : List Sl → G (List T)} {p pz pos pos2 : Pos} {P0 : Str} {kts : List (Str × T)}
theorem cf_dictZip (KT : KTb X.K X.mg X.w P0 kts) (hg : Gl X "dict") (hm : X.mg "dict" = none) (hgz : Gl X "zip") (hmz : X.mg "zip" = none) (ha : CA X w E [e, e2] cs) (hc : X.calm = true := by rfl)
    (hs : starEach [e, e2] X.env = (false, eval e X.env) :: starEach [e2] X.env := by rfl) (hpl : (backTo pos2 (starEach [e2] X.env)).any (·.1) = false := by rfl)
    (hs1 : starEach [.Call (.Name "zip" pz) [e, e2] [] pos2] X.env = (false, eval (.Call (.Name "zip" pz) [e, e2] [] pos2) X.env) :: starEach [] X.env := by rfl) (hpl1 : (backTo pos (starEach [] X.env)).any (·.1) = false := by rfl) :
    CF X w E (.Call (.Name "dict" p) [.Call (.Name "zip" pz) [e, e2] [] pos2] [] pos) (fun r => cs r >>= dictZipOf P0 kts) := by
  refine ⟨peImp (pe_dictZip hg hm hgz hmz hc ha.pa hs hpl hs1 hpl1) fun σ H Q h => ?_⟩
  obtain ⟨H0, Z0, r, Z, o, R, h⟩ := h
  refine evSeqA (P := fun H Z => PostF X.km w H Z Q) R (fun g => PostF.weak g) h fun xs H1 Z1 ts R1 g1 t1 h1 => ?_
  unfold dictZipOf at h1
  split at h1
  · rename_i a b
    obtain ⟨va, vb, rfl, ta, tb⟩ := trs2 t1
    split at h1
    · rename_i ts us e1 e2
      split at h1
      · rename_i hk
        obtain ⟨p1, xs, oa, sa, pa, rfl, S1, q1, tr1, l1⟩ := src_ok KT ta e1
        obtain ⟨p2, ys, ob, sb, pb, rfl, S2, q2, tr2, l2⟩ := src_ok KT tb e2
        obtain ⟨ks, rfl, lk, f⟩ := trs_keys tr1 hk
        rw [List.length_map] at l1
        refine ⟨p1, p2, ks, ys, oa, ob, sa, sb, pa, pb, rfl, S1, S2, q1 H1 Z1 (Sub.refl _) R1.good, q2 H1 Z1 (Sub.refl _) R1.good, l1, fun q hq => ?_⟩
        refine h1 q [q] _ Z1 (Grow.laid R1.good hq) ⟨rfl, _, upd_same, ?_, (f tr2).merge .nil⟩ (Grow.newRoot R1.good hq)
        have := length_mergeK (ks.zip ys) []
        rw [List.length_nil, List.length_zip] at this
        omega
      · exact False.elim h1
    · exact False.elim h1
  · exact False.elim h1
end
end TL
end s_TL40
section s_TL41
set_option Elab.async false
set_option linter.all false
set_option maxRecDepth 100000
set_option maxHeartbeats 4000000
/-! TL41: methods by their bodies -/
namespace TL
open PySem PySem.Spec PyProof.Rows L2
structure MethAt (K : PySem.W.Frag) (mg : Str → Option Value) (c m x qual : Str) (st : Stmt) (ps : List Str) : Prop where
  ex : ∃ C f fd, mg c = some (.ref C) ∧ Cls K C ∧ Meth K C m f ∧ Fun K x qual st f fd ∧ Binds K fd ps []
structure EqAt (K : PySem.W.Frag) (mg : Str → Option Value) (c x qual : Str) (st : Stmt) (ps : List Str) : Prop where
  ex : ∃ C f fd, EqF K mg c C f ∧ Fun K x qual st f fd ∧ Binds K fd ps []
section
variable {P : Program} {wd : World} {K : PySem.W.Frag} {mg : Str → Option Value} {base : Heap} {k n : Nat} {ps N : List Str} {cl m x qual : Str} {st : Stmt} {c : SC}
theorem mth_at (A : MethAt K mg cl m x qual st ps) (S : FnScope N ps (defScope st)) (hn : ps.length = n + 1)
    (body : ∀ (f : Addr) (cdv : Value) (A : Around) (outer : List Env) (s : Shared) (H : Hp) (w : Wd) (E : XK), Bd (bx P wd K mg base N qual st f cdv A outer s H E) k E → CSs (bx P wd K mg base N qual st f cdv A outer s H E) w E false (defBody st) c) :
    MethT P wd K mg base (k + 1) cl m n (runB c N.length) := by
  obtain ⟨C, f, fd, hm, hc, hmt, F, hb⟩ := A.ex
  refine ⟨C, f, fd, ps, hm, hc, hmt, hb, ?_⟩
  rw [← hn]
  exact fnT F S fun w cdv A outer s H E gd hr hx => body f cdv A outer s H w E ⟨gd, hr, hx, passes_of rfl⟩
theorem eq_at (A : EqAt K mg cl x qual st ps) (S : FnScope N ps (defScope st)) (hn : ps.length = 2)
    (body : ∀ (f : Addr) (cdv : Value) (A : Around) (outer : List Env) (s : Shared) (H : Hp) (w : Wd) (E : XK), Bd (bx P wd K mg base N qual st f cdv A outer s H E) k E → CSs (bx P wd K mg base N qual st f cdv A outer s H E) w E false (defBody st) c) :
    EqT P wd K mg base (k + 1) cl (runB c N.length) := by
  obtain ⟨C, f, fd, EF, F, hb⟩ := A.ex
  refine ⟨C, f, fd, ps, EF, hb, ?_⟩
  rw [← hn]
  exact fnT F S fun w cdv A outer s H E gd hr hx => body f cdv A outer s H w E ⟨gd, hr, hx, passes_of rfl⟩
end
end TL
end s_TL41
section s_TL42
set_option Elab.async false
set_option linter.all false
set_option maxRecDepth 100000
set_option maxHeartbeats 4000000
/-! TL42: tests of the table; the law's own promise (the world is the trivial one) -/
namespace TL
open PySem PySem.Spec PyProof.Rows L2
section
variable {X : Cx} {w : Wd} {E : XK} {tg e e2 : Expr} {p pos tpos : Pos} {ca cb : EC} {cs : List Sl → G (List T)} {P0 : Str} {kts : List (Str × T)} {H Z : Hp}
theorem ct_tabIn (KT : KTb X.K X.mg X.w P0 kts) (ha : CE X w E e ca) (hb : CE X w E e2 cb) (hmk : behindInMarks .In e2 = false := by first | exact nomark _ | rfl) : CT X w E (.Compare e [.In] [e2] pos) (cB (cOp2 (fTabIn P0 kts false) ca cb)) := by
  obtain ⟨d, es, n, hm, D, _⟩ := KT.ex
  refine ct_cmp (op_in_kd D) (fun H0 Z0 r σ H Z o R a b x y Q ta tb hw => ?_) ha hb hmk
  cases ta with
  | str k =>
    cases tb with
    | @fn x1 a1 m =>
      simp only [fTabIn] at hw
      split at hw
      · rename_i hx
        subst hx
        have m' : X.mg x1 = some (.ref a1) := m
        rw [hm] at m'
        cases m'
        obtain ⟨r, e1, e2⟩ := tab_in KT (es := es) (n := n) hm k
        refine ⟨k, r, rfl, rfl, e1, ?_⟩
        rw [e2]
        have z := hw _ H Z (Grow.refl R.good) (.bl _)
        simpa using z
      · exact False.elim hw
    | _ => exact False.elim hw
  | _ => exact False.elim hw
theorem ct_tabNotIn (KT : KTb X.K X.mg X.w P0 kts) (ha : CE X w E e ca) (hb : CE X w E e2 cb) (hmk : behindInMarks .NotIn e2 = false := by first | exact nomark _ | rfl) : CT X w E (.Compare e [.NotIn] [e2] pos) (cB (cOp2 (fTabIn P0 kts true) ca cb)) := by
  obtain ⟨d, es, n, hm, D, _⟩ := KT.ex
  refine ct_cmp (op_notIn_kd D) (fun H0 Z0 r σ H Z o R a b x y Q ta tb hw => ?_) ha hb hmk
  cases ta with
  | str k =>
    cases tb with
    | @fn x1 a1 m =>
      simp only [fTabIn] at hw
      split at hw
      · rename_i hx
        subst hx
        have m' : X.mg x1 = some (.ref a1) := m
        rw [hm] at m'
        cases m'
        obtain ⟨r, e1, e2⟩ := tab_in KT (es := es) (n := n) hm k
        refine ⟨k, r, rfl, rfl, e1, ?_⟩
        rw [e2]
        have z := hw _ H Z (Grow.refl R.good) (.bl _)
        simpa using z
      · exact False.elim hw
    | _ => exact False.elim hw
  | _ => exact False.elim hw
end
def SpL (K : PySem.W.Frag) (mg : Str → Option Value) (n : Nat) (F : List T → G T) : Sp := fun vs H Q E => ∃ (w : Wd) (ts : List T) (Z : Hp), w.W = [] ∧ vs.length = n ∧ Good w H Z ∧ Trs K mg w Z ts vs ∧
  (F ts).wp (fun t => ∀ v H' Z', Grow w H Z H' Z' → Tr K mg w Z' t v → Q v H') (fun e => ∀ cls d H' Z', Grow w H Z H' Z' → ExR K mg w Z' H' e cls d → E cls d H')
section
variable {P : Program} {wd : World} {K : PySem.W.Frag} {mg : Str → Option Value} {base : Heap} {k : Nat} {f : Addr} {fd : FuncData} {ps N : List Str} {x qual : Str} {st : Stmt} {c : SC}
theorem fnL (F : Fun K x qual st f fd) (S : FnScope N ps (defScope st))
    (body : ∀ (w : Wd), w.W = [] → ∀ (cdv : Value) (A : Around) (outer : List Env) (s : Shared) (H : Hp) (E : XK), (A.deeper (envOfC qual (defScope st) s.heap.objs.size f cdv)).guards = some [] → Room k (A.deeper (envOfC qual (defScope st) s.heap.objs.size f cdv)) →
      Passes (L2.CX P wd) (cxOf (L2.CX P wd) P wd K mg base N qual (defScope st) f cdv A outer s H E) E →
      CSs (cxOf (L2.CX P wd) P wd K mg base N qual (defScope st) f cdv A outer s H E) w E false (defBody st) c) : FnG P wd K mg base (k + 1) f fd ps (SpL K mg ps.length (runB c N.length)) := by
  have hpl : ps.length ≤ N.length := by have := congrArg List.length S.pre; rw [List.length_take] at this; omega
  refine fnG_of F S (fun vs H Q E h => let ⟨_, _, _, _, h, _⟩ := h; h) fun cdv A outer s H vs Q E gd hr h => ?_
  obtain ⟨w, ts, Z, w0, hl, g, tr, hw⟩ := h
  refine ⟨_, (body w w0 cdv A outer s H E gd hr (passes_call (takes_of rfl rfl rfl rfl) fun _ _ _ _ q => q)).ps, ?_⟩
  refine ⟨H, Z, _, Z, fun _ => [], env_start g tr (by omega), G.wp_mono (G.wp_bind.mp hw) (fun kk hk => ?_) fun ex hx cls d H' Z' gg q => hx cls d H' Z' gg q⟩
  cases kk with
  | nx r => exact fun σ' H' Z' o' R' s' => hk _ H' Z' R'.gr .non
  | bk r => exact hk.elim
  | ct r => exact hk.elim
  | rt t =>
    have goal : PostR ⟨K, mg⟩ w false H Z t Q := fun v H' Z' gg tt => hk v H' Z' gg tt
    exact goal
end
theorem walk_ofL {l : PySem.W.OpenLaw} {n k : Nat} {q : Program} {loose : List Str} {XP : (Str → Option Value) → Heap → Prop} {YP : World → Heap → Prop} {d : DefRec} {K : Params → PySem.W.Frag} {x : Str} {F : List T → G T}
    (hn : l.most = some n) (hn2 : n ≤ 1000) (hdf : d.params.defaults = []) (hr : Room k callerA)
    (hY : ∀ (w : World) (h : Heap), YP w h → (K w.params).In h)
    (hF : ∀ (w : World) (mg : Str → Option Value) (fa : Addr) (h : Heap), (K w.params).In h → h.Ns mainGlobals mg → mg d.name = some (.ref fa) →
      ∃ fd : FuncData, (∀ (s : Shared) (u : Value), BindsTo s fd ⟨[u], []⟩ [(x, u)]) ∧
        ∀ base : Heap, (K w.params).In base → base.Ns mainGlobals mg → FnG l.prog w (K w.params) mg base k fa fd [x] (SpL (K w.params) mg 1 F))
    (hsp : ∀ ns : List Int, (F [.scr ns]).wp (fun t => t = .bl true) (fun _ => False)) :
    PySem.W.WalkO q loose XP YP l.row.toRowW d [] (fun f vs => PySem.call f vs) := by
  refine Att.attach_call hn hdf fun w s₀ s₁ mg mb fa o pm cd doc a vs ns G0 Y ho hd hcd hmg hobj hints hlen hg => ?_
  have KX := hY w _ Y
  obtain ⟨fd, hb, hfn⟩ := hF w mg fa _ KX G0.T.g hmg
  have hl : ns.length ≤ 1000 := Nat.le_trans hlen hn2
  refine law_callG KX G0.T.g G0.T.b G0.T.builtins G0.T.nolimit hg hobj hints (Nat.le_of_lt (small1000 hl)) hr hfn hb fun H hS => ?_
  refine ⟨⟨[], fun _ => True, fun _ _ _ h => h, fun _ _ a ha => (nomatch ha), fun a r e => (nomatch e), 0⟩, [.scr ns], H, rfl, rfl, ⟨Sub.refl _, fun a ha => (nomatch ha), trivial⟩, .cons (.scr hS hl) .nil, G.wp_mono (hsp ns) (fun t ht v H' Z' g tr => ?_) fun e h => False.elim h⟩
  subst ht
  cases tr
  rfl
section
variable {P : Program} {wd : World} {K : PySem.W.Frag} {mg : Str → Option Value} {base : Heap} {k : Nat} {x : Str} {qual : Str} {st : Stmt} {ps N : List Str} {c : SC}
structure CallL (P : Program) (wd : World) (K : PySem.W.Frag) (mg : Str → Option Value) (base : Heap) (k : Nat) (x : Str) (F : List T → G T) : Prop where
  ex : ∃ f fd ps, mg x = some (.ref f) ∧ Binds K fd ps [] ∧ FnG P wd K mg base k f fd ps (SpL K mg 1 F)
theorem law_at {y : Str} (A : FunAt K mg x qual st [y]) (S : FnScope N [y] (defScope st))
    (body : ∀ (f : Addr) (cdv : Value) (A : Around) (outer : List Env) (s : Shared) (H : Hp) (w : Wd) (E : XK), w.W = [] → Bd (bx P wd K mg base N qual st f cdv A outer s H E) k E → CSs (bx P wd K mg base N qual st f cdv A outer s H E) w E false (defBody st) c) :
    CallL P wd K mg base (k + 1) x (runB c N.length) := by
  obtain ⟨f, fd, hm, hk, F, hb⟩ := A.ex
  exact ⟨f, fd, [y], hm, hb, fnL F S fun w w0 cdv A outer s H E gd hr hx => body f cdv A outer s H w E w0 ⟨gd, hr, hx, passes_of rfl⟩⟩
theorem css_begin0 {X : Cx} {w : Wd} {E : XK} {j k : Nat} {i0 j0 : Nat} {x s fn : Str} {sts : List Stmt} {c : SC} {p1 p2 p3 p4 pos : Pos} (hw0 : w.W = []) (B : Bd X k E) (C : CallG X.prog X.w X.K X.mg X.base j fn (SpBegin X.K)) (hN : X.N.Nodup)
    (rest : ∀ w' : Wd, CSs X w' E false sts c) (hjk : j ≤ k := by decide) (hg : Gl X fn := by rfl) (hi : X.N[i0]? = some x := by rfl) (hx : Loc X.env.scope x := by first | exact Or.inl rfl | exact Or.inr rfl) (hj : X.N[j0]? = some s := by rfl) (hv : Vis X.env.scope s := by first | exact Or.inl rfl | exact Or.inr (Or.inl rfl) | exact Or.inr (Or.inr rfl))
    (hd : (s == ("__debug__" : Str)) = false := by decide) (hcd : (s == ("__classdict__" : Str)) = false := by decide) (hdb : (fn == ("__debug__" : Str)) = false := by decide) (hij : i0 ≠ j0 := by decide)
    (hs : swapsWith (.Call (.Name fn p1) [.Name s p2] [] p3) (some (.Name x p4)) pos.line X.env = pure false := by rfl) (hf : X.fn x = true ∨ X.env.scope.names.lookup x = some .local := by first | exact .inl rfl | exact .inr rfl | assumption) :
    CSs X w E false (.Assign [.Name x p4] (.Call (.Name fn p1) [.Name s p2] [] p3) pos :: sts) (cBegin i0 j0 c) := by
  obtain ⟨f, fd, ps, hm, hk, hb, F⟩ := C.ex
  exact css_begin hw0 hN (F.mono hjk) B.gd B.hr hg hm hk hb rest hi hx hj hv hd hcd hdb hij hs hf
end
end TL
end s_TL42
section s_TL43
set_option Elab.async false
set_option linter.all false
set_option maxRecDepth 100000
set_option maxHeartbeats 4000000
/-! TL43: what the top has written, in the form that the texts ask for -/
namespace TL
open PySem PySem.Spec PyProof.Rows L2
section
variable {K : PySem.W.Frag} {h : Heap} {mg : Str → Option Value} {x qual : Str} {st : Stmt} {ps : List Str} {f C : Addr} {oc kV doc pm cdv ct : Value} {od an : Option Addr} {osl : Array (Option Value)} {c m : Str}
/-- the arguments of a def bind with no defaults -/
def BindsSt (x qual : Str) (st : Stmt) (ps : List Str) : Prop := ∀ (kV doc pm : Value) (an : Option Addr) (cdv ct : Value) (us : List Value), us.length = ps.length → bindArgs (PySem.W.fnOf x qual (defArgs st) (defBody st) (defScope st) .none kV doc pm an cdv ct) ⟨us, []⟩ = pure (ps.zip us)
theorem funAt_mk (KX : K.In h) (G : h.Ns mainGlobals mg) (hb : BindsSt x qual st ps) (a : PySem.W.nsIn K mainGlobals x = some (some (.ref f)))
    (l : K.lookup f = some ⟨oc, od, .func (PySem.W.fnOf x qual (defArgs st) (defBody st) (defScope st) .none kV doc pm an cdv ct), osl⟩) (cd : PySem.W.codeIn K cdv qual = true) (k : PySem.W.keepIn K (.ref f) = true) : FunAt K mg x qual st ps := by
  have F := fun_mk (st := st) l cd k
  exact ⟨f, _, PySem.W.mg_of KX G a, k, F, F.binds hb⟩
/-- a class by its facts -/
theorem cls_mk (pg : PySem.W.plainGet K C Str.empty = true) (hd : PySem.W.hasDictIn K C = true) (po : PySem.W.plainOver K C = true) (sa : PySem.W.findIn K (.ref C) "__setattr__" = some (some (.builtin "object.__setattr__"))) : Cls K C := ⟨pg, hd, po, sa⟩
theorem initAt_mk (KX : K.In h) (G : h.Ns mainGlobals mg) (hb : BindsSt x qual st ps) (ac : PySem.W.nsIn K mainGlobals c = some (some (.ref C))) (mk : PySem.W.makesIn K C = true) (kc : PySem.W.keepIn K (.ref C) = true) (ai : PySem.W.findIn K (.ref C) "__init__" = some (some (.ref f))) (fi : PySem.W.isFn K (.ref f) = true)
    (l : K.lookup f = some ⟨oc, od, .func (PySem.W.fnOf x qual (defArgs st) (defBody st) (defScope st) .none kV doc pm an cdv ct), osl⟩) (cd : PySem.W.codeIn K cdv qual = true) (k : PySem.W.keepIn K (.ref f) = true) : InitAt K mg c x qual st ps := by
  have F := fun_mk (st := st) l cd k
  exact ⟨C, f, _, PySem.W.mg_of KX G ac, ⟨mk, ai, fi, kc⟩, F, F.binds hb⟩
theorem methAt_mk (KX : K.In h) (G : h.Ns mainGlobals mg) (hb : BindsSt x qual st ps) (ac : PySem.W.nsIn K mainGlobals c = some (some (.ref C))) (cl : Cls K C) (ai : PySem.W.findIn K (.ref C) m = some (some (.ref f))) (fi : PySem.W.isFn K (.ref f) = true)
    (l : K.lookup f = some ⟨oc, od, .func (PySem.W.fnOf x qual (defArgs st) (defBody st) (defScope st) .none kV doc pm an cdv ct), osl⟩) (cd : PySem.W.codeIn K cdv qual = true) (k : PySem.W.keepIn K (.ref f) = true) : MethAt K mg c m x qual st ps := by
  have F := fun_mk (st := st) l cd k
  exact ⟨C, f, _, PySem.W.mg_of KX G ac, cl, ⟨ai, fi, k⟩, F, F.binds hb⟩
theorem insF_mk (KX : K.In h) (G : h.Ns mainGlobals mg) (ac : PySem.W.nsIn K mainGlobals c = some (some (.ref C))) (cl : Cls K C)
    (ha : PySem.W.findIn K (.ref C) "__class__" = some (some (.builtin "object.__class__"))) (hn : PySem.W.specialIn K (.builtin "object.__class__") "__get__" = some (some (.builtin "getset_descriptor.__get__"))) (ht : PySem.W.takesIn K (.builtin "object.__class__") = some true)
    (hm : PySem.W.mroIn K C (.type "object") = some true) (kt : ∀ b ∈ bTys, PySem.W.kitOne K (.ref C) (.type b) = some false) (tk : ∀ a ∈ aTys, PySem.W.kitOne K (.type a) (.ref C) = some false) (self : PySem.W.kitOne K (.ref C) (.ref C) = some true) : InsF K mg c C := ⟨PySem.W.mg_of KX G ac, cl, ha, hn, ht, hm, kt, tk, self⟩
theorem eqAt_mk (I : InsF K mg c C) (hb : BindsSt x qual st ps) (ai : PySem.W.findIn K (.ref C) "__eq__" = some (some (.ref f))) (fi : PySem.W.isFn K (.ref f) = true) (ne : PySem.W.findIn K (.ref C) "__ne__" = some (some (.builtin "object.__ne__"))) (first : ∀ a ∈ aTys, PySem.W.notFirst K C (.type a) = true)
    (l : K.lookup f = some ⟨oc, od, .func (PySem.W.fnOf x qual (defArgs st) (defBody st) (defScope st) .none kV doc pm an cdv ct), osl⟩) (cd : PySem.W.codeIn K cdv qual = true) (k : PySem.W.keepIn K (.ref f) = true) : EqAt K mg c x qual st ps := by
  have F := fun_mk (st := st) l cd k
  exact ⟨C, f, _, ⟨I, ai, fi, ne, first⟩, F, F.binds hb⟩
theorem propT_mk {P : Program} {wd : World} {base : Heap} {own : Str} {p g : Addr} {p1 p2 p3 : Pos} {rest : List Value} (KX : K.In h) (G : h.Ns mainGlobals mg) (hb : BindsSt x qual st ["self"]) (S : FnScope ["self"] ["self"] (defScope st)) (hbd : defBody st = [.Return (some (.Attribute (.Name "self" p1) own p2)) p3])
    (ac : PySem.W.nsIn K mainGlobals c = some (some (.ref C))) (cl : Cls K C) (no : PySem.W.findIn K (.ref C) own = some none)
    (at_ : PySem.W.findIn K (.ref C) m = some (some (.ref p))) (get : PySem.W.specialIn K (.ref p) "__get__" = some (some (.builtin "property.__get__"))) (tak : PySem.W.takesIn K (.ref p) = some true) (rc : PySem.W.recIn K p "property" = some (.ref g :: rest))
    (l : K.lookup g = some ⟨oc, od, .func (PySem.W.fnOf x qual (defArgs st) (defBody st) (defScope st) .none kV doc pm an cdv ct), osl⟩) (cd : PySem.W.codeIn K cdv qual = true) (k : PySem.W.keepIn K (.ref g) = true) : PropT P wd K mg base 1 c m own := by
  have F := fun_mk (st := st) l cd k
  exact ⟨C, p, g, _, ["self"], PySem.W.mg_of KX G ac, cl, ⟨at_, get, tak, rest, rc⟩, F.binds hb, fn_getter l cd S rfl hbd cl no⟩
theorem fldT_mk (KX : K.In h) (G : h.Ns mainGlobals mg) (ac : PySem.W.nsIn K mainGlobals c = some (some (.ref C))) (cl : Cls K C) (no : PySem.W.findIn K (.ref C) m = some none) : FldT K mg c m := ⟨C, PySem.W.mg_of KX G ac, cl, no⟩
end
end TL
end s_TL43
section s_TL44
set_option Elab.async false
set_option linter.all false
set_option maxRecDepth 100000
set_option maxHeartbeats 4000000
/-! TL44: the law's end, by CallL -/
namespace TL
open PySem PySem.Spec PyProof.Rows L2
theorem law_callL {P : Program} {w : World} {K : PySem.W.Frag} {mg mb : Str → Option Value} {k : Nat} {fa a : Addr} {lw : Str} {F0 : List T → G T} {s : Shared} {vs : List Value} {ns : List Int}
    (KX : K.In s.heap) (hns : s.heap.Ns mainGlobals mg) (hb : s.heap.Ns builtinsNs mb) (hbb : ∀ y : Str, y ≠ "__name__" → mb y = bootBuiltins y) (hlim : s.heap.NoLimit) (hg : s.gens = #[])
    (ha : s.heap.get? a = some { cls := .type "list", data := .seq vs.toArray }) (hi : IntsAre vs ns) (hl : ns.length ≤ sizeLine) (hr : Room k callerA)
    (hfa : mg lw = some (.ref fa)) (F : ∀ base : Heap, K.In base → base.Ns mainGlobals mg → CallL P w K mg base k lw F0)
    (hsp : ∀ H : Hp, SqL K H a (ns.map V.int) → SpL K mg 1 F0 [.ref a] H (fun v _ => v = .bl true) fun _ _ _ => False) :
    codeAny (model P w) callerA (.call (.ref fa) ⟨[.ref a], []⟩) (fun r s' => r = .ok (.ret (.bool true)) ∧ OldK s.heap s'.heap ∧ s'.os = s.os ∧ AllBare s'.gens) s := by
  obtain ⟨H, S⟩ := scr_of KX ha hi hl
  have hok : HOk P w H s.heap := scr_hok S ha hi hl
  -- the base: what is not tracked
  have gone : ∀ {b : Addr} {o : Obj}, s.heap.get? b = some o → b ≠ a ∨ H a = none → (hidT s.heap H).get? b = some o := fun {b o} e h => hidT_get e (by
    cases q : H b with
    | none => rfl
    | some u =>
      obtain ⟨rfl, _⟩ := S.only b u q
      rcases h with h | h
      · exact absurd rfl h
      · rw [q] at h; cases h)
  have nsB : ∀ {b : Addr} {m : Str → Option Value}, s.heap.Ns b m → (hidT s.heap H).Ns b m := fun {b m} ⟨o, es, ep, e, d, r⟩ => ⟨o, es, ep, gone e (.inl fun z => by
    subst z
    rw [ha] at e; cases e
    have d' : Data.seq vs.toArray _ = Data.dict es ep := d
    cases d'), d, r⟩
  have kB : K.In (hidT s.heap H) := fun b o e => gone (KX b o e) (by
    by_cases z : H a = none
    · exact .inr z
    · exact .inl fun q => by subst q; rw [S.out z] at e; cases e)
  have modB : Mod K mg (hidT s.heap H) := ⟨kB, nsB hns, ⟨mb, nsB hb, hbb⟩, let ⟨mc, h1, h2⟩ := hlim; ⟨mc, nsB h1, h2⟩⟩
  have env : Env0 P w K mg (hidT s.heap H) callerA [] s H := ⟨rfl, modB, fun b o e => of_hidT e, Nat.le_of_eq (hidT_size _ _), trivial, fun b hb => (nomatch hb), hok, .of_eq hg⟩
  obtain ⟨f, fd, ps, hm, hb1, Fg⟩ := (F _ kB (nsB hns)).ex
  have ef := hm.symm.trans hfa
  cases ef
  have hps : ps.length = 1 := (Fg.len _ H _ _ (hsp H S.seq)).symm
  refine codeAny_mono (Fg.go callerA [] s H ⟨[.ref a], []⟩ [.ref a] [.ref a] _ _ rfl hr env (hb1 s [.ref a] KX hps.symm) (.cons rfl .nil) (hsp H S.seq)) fun r s' hq => ?_
  rcases r with e | (_ | _ | _ | u)
  · obtain ⟨_, _, _, _, _, _, _, _, _, _, _, _, f⟩ := hq; exact False.elim f
  · exact False.elim hq
  · exact False.elim hq
  · exact False.elim hq
  · obtain ⟨v, H', os, bare, un, hok', r', q⟩ := hq
    have q' : v = .bl true := q
    subst q'
    obtain rfl : u = Value.bool true := r'
    refine ⟨rfl, OldK.of_keep fun b o e => ?_, os, bare⟩
    cases z : H b with
    | none => exact un.keep b o e z (fun q => nomatch q) (by simp)
    | some u =>
      obtain ⟨rfl, xs, rfl, g⟩ := S.only b u z
      have z2 := un.frzs b _ _ z
      obtain ⟨e2, _⟩ := hok' b _ z2
      rw [g] at e; cases e
      exact e2
theorem walk_ofM {l : PySem.W.OpenLaw} {n k : Nat} {q : Program} {loose : List Str} {XP : (Str → Option Value) → Heap → Prop} {YP : World → Heap → Prop} {d : DefRec} {K : Params → PySem.W.Frag} {F : List T → G T}
    (hn : l.most = some n) (hn2 : n ≤ 1000) (hdf : d.params.defaults = []) (hr : Room k callerA)
    (hY : ∀ (w : World) (h : Heap), YP w h → (K w.params).In h)
    (hF : ∀ (w : World) (mg : Str → Option Value) (fa : Addr) (h : Heap), (K w.params).In h → h.Ns mainGlobals mg → mg d.name = some (.ref fa) →
      ∀ base : Heap, (K w.params).In base → base.Ns mainGlobals mg → CallL l.prog w (K w.params) mg base k d.name F)
    (hsp : ∀ ns : List Int, (F [.scr ns]).wp (fun t => t = .bl true) (fun _ => False)) :
    PySem.W.WalkO q loose XP YP l.row.toRowW d [] (fun f vs => PySem.call f vs) := by
  refine Att.attach_call hn hdf fun w s₀ s₁ mg mb fa o pm cd doc a vs ns G0 Y ho hd hcd hmg hobj hints hlen hg => ?_
  have KX := hY w _ Y
  have hfn := hF w mg fa _ KX G0.T.g hmg
  have hl : ns.length ≤ 1000 := Nat.le_trans hlen hn2
  refine law_callL KX G0.T.g G0.T.b G0.T.builtins G0.T.nolimit hg hobj hints (Nat.le_of_lt (small1000 hl)) hr hmg hfn fun H hS => ?_
  refine ⟨⟨[], fun _ => True, fun _ _ _ h => h, fun _ _ a ha => (nomatch ha), fun a r e => (nomatch e), 0⟩, [.scr ns], H, rfl, rfl, ⟨Sub.refl _, fun a ha => (nomatch ha), trivial⟩, .cons (.scr hS hl) .nil, G.wp_mono (hsp ns) (fun t ht v H' Z' g tr => ?_) fun e h => False.elim h⟩
  subst ht
  cases tr
  rfl
end TL
end s_TL44
section s_TL45
set_option Elab.async false
set_option linter.all false
set_option maxRecDepth 100000
set_option maxHeartbeats 4000000
/-! TL45: an own class called with keywords: what the top has written -/
namespace TL
open PySem PySem.Spec PyProof.Rows L2
structure InitAtK (K : PySem.W.Frag) (mg : Str → Option Value) (c x qual : Str) (st : Stmt) (ps ks : List Str) (perm : List Nat) : Prop where
  ex : ∃ C f fd, mg c = some (.ref C) ∧ Mk K C f ∧ Fun K x qual st f fd ∧ KwB K fd ps ks perm
theorem fnIK_at {P : Program} {wd : World} {K : PySem.W.Frag} {mg : Str → Option Value} {base : Heap} {k n : Nat} {ps N ks : List Str} {perm : List Nat} {cl x qual : Str} {st : Stmt} {c : SC} (A : InitAtK K mg cl x qual st ps ks perm) (S : FnScope N ps (defScope st)) (hn : ps.length = n + 1)
    (body : ∀ (f : Addr) (cdv : Value) (A : Around) (outer : List Env) (s : Shared) (H : Hp) (w : Wd) (E : XK), Bd (bx P wd K mg base N qual st f cdv A outer s H E) k E → CSs (bx P wd K mg base N qual st f cdv A outer s H E) w E false (defBody st) c) :
    MakeK P wd K mg base (k + 1) cl ks perm n (runI cl c N.length) := by
  obtain ⟨C, f, fd, hm, M, F, hb⟩ := A.ex
  exact ⟨C, f, fd, ps, hm, M, hb, fnI F S hn fun w cdv A outer s H E gd hr hx => body f cdv A outer s H w E ⟨gd, hr, hx, passes_of rfl⟩⟩
end TL
end s_TL45
section s_TL46
set_option Elab.async false
set_option linter.all false
set_option maxRecDepth 100000
set_option maxHeartbeats 4000000
/-! TL46: a table of the module from what the top has written -/
namespace TL
open PySem PySem.Spec PyProof.Rows L2
mutual
/-- a tree that the top has written -/
inductive TrK (K : PySem.W.Frag) : T → Value → Prop
  | non : TrK K .non .none
  | bl (b : Bool) : TrK K (.bl b) (.bool b)
  | int (i : Int) (t : Tok) : TrK K (.int i) (.int i t)
  | str (x : Str) (t : Tok) : TrK K (.str x) (.str x t)
  | tup {ts : List T} {p : Addr} {od : Option Addr} {its : Array Value} {n : Nat} {sl : Array (Option Value)} : K.lookup p = some ⟨.type "tuple", od, .seq its n, sl⟩ → decide (its.size ≤ 1000) = true → TrKs K ts its.toList → TrK K (.tup ts) (.ref p)
inductive TrKs (K : PySem.W.Frag) : List T → List Value → Prop
  | nil : TrKs K [] []
  | cons {t v ts vs} : TrK K t v → TrKs K ts vs → TrKs K (t :: ts) (v :: vs)
end
section
variable {K : PySem.W.Frag} {mg : Str → Option Value}
mutual
theorem TrK.tr : ∀ {t : T} {u : Value}, TrK K t u → ∃ v, RelV v u ∧ ∀ (w : Wd) Z, Tr K mg w Z t v
  | _, _, .non => ⟨.non, rfl, fun _ _ => .non⟩
  | _, _, .bl b => ⟨.bl b, rfl, fun _ _ => .bl b⟩
  | _, _, .int i t => ⟨.int i, ⟨t, rfl⟩, fun _ _ => .int i⟩
  | _, _, .str x t => ⟨.str x, ⟨t, rfl⟩, fun _ _ => .str x⟩
  | _, _, .tup l s r => by
    obtain ⟨vs, h1, h2⟩ := TrKs.tr r
    have hs := of_decide_eq_true s
    refine ⟨.ref _, rfl, fun w Z => .tup (.inr ⟨_, _, _, l, rfl, rfl, Nat.le_of_lt (small1000 hs), h1⟩) ?_ (h2 w Z)⟩
    rw [h1.length, Array.length_toList]
    exact Nat.le_of_lt (small1000 hs)
theorem TrKs.tr : ∀ {ts : List T} {us : List Value}, TrKs K ts us → ∃ vs, Vals vs us ∧ ∀ (w : Wd) Z, Trs K mg w Z ts vs
  | _, _, .nil => ⟨[], .nil, fun _ _ => .nil⟩
  | _, _, .cons a b => by
    obtain ⟨v, h1, h2⟩ := TrK.tr a
    obtain ⟨vs, h3, h4⟩ := TrKs.tr b
    exact ⟨v :: vs, .cons h1 h3, fun w Z => .cons (h2 w Z) (h4 w Z)⟩
end
/-- the entries of a table -/
inductive TabK (K : PySem.W.Frag) : List (Str × T) → List DictEntry → Prop
  | nil : TabK K [] []
  | cons {x : Str} {t : T} {kts : List (Str × T)} {hs : Int} {tk : Tok} {u : Value} {es : List DictEntry} : TrK K t u → TabK K kts es → TabK K ((x, t) :: kts) (⟨hs, .str x tk, u⟩ :: es)
theorem TabK.keys : ∀ {kts : List (Str × T)} {es : List DictEntry}, TabK K kts es → Vals (kts.map fun p => V.str p.1) (es.map (·.key))
  | _, _, .nil => .nil
  | _, _, .cons _ r => .cons ⟨_, rfl⟩ r.keys
theorem TabK.get : ∀ {kts : List (Str × T)} {es : List DictEntry}, TabK K kts es → ∀ k, (∀ t, (kts.find? fun p => p.1 == k).map (·.2) = some t → ∃ u e, es.find? (·.key.isStr k) = some e ∧ e.val = u ∧ TrK K t u) ∧
    ((kts.find? fun p => p.1 == k) = none → es.find? (·.key.isStr k) = none ∧ es.any (·.refKey) = false)
  | _, _, .nil, k => ⟨fun t h => (nomatch h), fun _ => ⟨rfl, rfl⟩⟩
  | _, _, .cons (x := x) (tk := tk) (u := u) h r, k => by
    have e0 : (Value.str x tk).isStr k = (x == k) := by
      rw [PySem.W.isStr_of]; rfl
    obtain ⟨r1, r2⟩ := r.get k
    simp only [List.find?_cons, e0]
    cases hx : x == k with
    | true => exact ⟨fun t q => ⟨_, _, rfl, rfl, by cases q; exact h⟩, fun q => (nomatch q)⟩
    | false => exact ⟨fun t q => r1 t q, fun q => ⟨(r2 q).1, by rw [List.any_cons, (r2 q).2]; rfl⟩⟩
theorem ktb_mk {h : Heap} {wd : World} {P0 : Str} {kts : List (Str × T)} {d : Addr} {es : Array DictEntry} {n : Nat} (KX : K.In h) (G : h.Ns mainGlobals mg) (a : PySem.W.nsIn K mainGlobals P0 = some (some (.ref d)))
    (l : K.lookup d = some ⟨.type "dict", none, .dict es n, #[]⟩) (low : (d == sysModules) = false) (kl : PySem.W.KeysLit wd.params es.toList) (T : TabK K kts es.toList) (sm : decide (kts.length ≤ 1000) = true) : KTb K mg wd P0 kts := by
  refine ⟨⟨d, es, n, PySem.W.mg_of KX G a, ⟨l, kl, low⟩, T.keys, fun k t ht => ?_, fun k hk => ?_⟩, of_decide_eq_true sm⟩
  · obtain ⟨u, e, he, hu, hr⟩ := (T.get k).1 t ht
    obtain ⟨v, h1, h2⟩ := hr.tr (mg := mg)
    refine ⟨u, v, ?_, h1, h2⟩
    unfold PySem.W.nsIn
    rw [l]
    show (match es.toList.find? (·.key.isStr k) with | some e => some (some e.val) | none => if es.toList.any (·.refKey) then none else some none) = _
    rw [he]
    show some (some e.val) = _
    rw [hu]
  · obtain ⟨q1, q2⟩ := (T.get k).2 hk
    unfold PySem.W.nsIn
    rw [l]
    show (match es.toList.find? (·.key.isStr k) with | some e => some (some e.val) | none => if es.toList.any (·.refKey) then none else some none) = _
    rw [q1]
    show (if es.toList.any (·.refKey) then none else some none) = _
    rw [q2]
    rfl
end
end TL
end s_TL46
section s_TL47
set_option Elab.async false
set_option linter.all false
set_option maxRecDepth 100000
set_option maxHeartbeats 4000000
/-! TL47: keywords bind -/
namespace TL
open PySem PySem.Spec PyProof.Rows L2
section
variable {K : PySem.W.Frag} {h : Heap} {mg : Str → Option Value} {x qual : Str} {st : Stmt} {ps ks : List Str} {perm : List Nat} {f C : Addr} {oc kV doc pm cdv ct : Value} {od an : Option Addr} {osl : Array (Option Value)} {c m : Str}
def BindsKw (x qual : Str) (st : Stmt) (ps ks : List Str) (perm : List Nat) : Prop := ∀ (kV doc pm : Value) (an : Option Addr) (cdv ct : Value) (v : Value) (ws : List Value), ws.length = ks.length →
  bindArgs (PySem.W.fnOf x qual (defArgs st) (defBody st) (defScope st) .none kV doc pm an cdv ct) ⟨[v], ks.zip ws⟩ = pure (ps.zip (v :: pickL perm ws))
theorem initAtK_mk (KX : K.In h) (G : h.Ns mainGlobals mg) (hb : BindsKw x qual st ps ks perm) (ac : PySem.W.nsIn K mainGlobals c = some (some (.ref C))) (mk : PySem.W.makesIn K C = true) (kc : PySem.W.keepIn K (.ref C) = true) (ai : PySem.W.findIn K (.ref C) "__init__" = some (some (.ref f))) (fi : PySem.W.isFn K (.ref f) = true)
    (l : K.lookup f = some ⟨oc, od, .func (PySem.W.fnOf x qual (defArgs st) (defBody st) (defScope st) .none kV doc pm an cdv ct), osl⟩) (cd : PySem.W.codeIn K cdv qual = true) (k : PySem.W.keepIn K (.ref f) = true) : InitAtK K mg c x qual st ps ks perm := by
  have F := fun_mk (st := st) l cd k
  exact ⟨C, f, _, PySem.W.mg_of KX G ac, ⟨mk, ai, fi, kc⟩, F, fun s v ws _ hl => .of_eq (hb kV doc pm an cdv ct v ws hl)⟩
end
end TL
end s_TL47
section s_TL48
set_option Elab.async false
set_option linter.all false
set_option maxRecDepth 100000
set_option maxHeartbeats 4000000
/-! TL48: trees that are data: == and repr of them -/
namespace TL
open PySem PySem.Spec PyProof.Rows L2
/-- t is the data d, at most n deep, its repr at most m long -/
structure RO (n m : Nat) (t : T) (d : PyData) : Prop where
  py : toPy t = some d
  sh : d.showable = true
  ly : d.canLay0 = true
  dp : d.depth ≤ n
  ln : d.shown.length ≤ m
structure ROs (n m : Nat) (ts : List T) (ds : List PyData) : Prop where
  py : toPys ts = some ds
  sh : PyData.showableAll ds = true
  ly : PyData.canLayAll0 ds = true
  dp : PyData.depthAll ds ≤ n
  ln : piled (PyData.shownAll ds) ≤ m
theorem RO.mono {n m n' m' : Nat} {t : T} {d : PyData} (h : RO n m t d) (h1 : n ≤ n') (h2 : m ≤ m') : RO n' m' t d := ⟨h.py, h.sh, h.ly, Nat.le_trans h.dp h1, Nat.le_trans h.ln h2⟩
theorem ROs.mono {n m n' m' : Nat} {t : List T} {d : List PyData} (h : ROs n m t d) (h1 : n ≤ n') (h2 : m ≤ m') : ROs n' m' t d := ⟨h.py, h.sh, h.ly, Nat.le_trans h.dp h1, Nat.le_trans h.ln h2⟩
theorem ROs.nil {n : Nat} : ROs n 0 [] [] := ⟨rfl, rfl, rfl, Nat.zero_le _, Nat.le_refl _⟩
theorem ROs.cons {n m k : Nat} {t : T} {d : PyData} {ts : List T} {ds : List PyData} (h : RO n m t d) (r : ROs n k ts ds) : ROs n (m + 2 + k) (t :: ts) (d :: ds) := by
  refine ⟨by simp [toPys, h.py, r.py], by simp [PyData.showableAll, h.sh, r.sh], by simp [PyData.canLayAll0, h.ly, r.ly], ?_, ?_⟩
  · simp only [PyData.depthAll]
    exact Nat.max_le.mpr ⟨h.dp, r.dp⟩
  · simp only [PyData.shownAll, piled_cons]
    have := h.ln; have := r.ln
    omega
theorem ROs.map {α : Type} {n m : Nat} {f : α → T} {g : α → PyData} : ∀ {l : List α}, (∀ x ∈ l, RO n m (f x) (g x)) → ROs n ((m + 2) * l.length) (l.map f) (l.map g)
  | [], _ => by exact ROs.nil
  | x :: l, h => by
    have r := ROs.cons (h x (by simp)) (ROs.map (l := l) fun y hy => h y (by simp [hy]))
    refine r.mono (Nat.le_refl _) ?_
    rw [List.length_cons, Nat.mul_add, Nat.mul_one]
    omega
theorem ROs.append {n m k : Nat} {ts us : List T} {ds es : List PyData} (h : ROs n m ts ds) (r : ROs n k us es) : ROs n (m + k) (ts ++ us) (ds ++ es) := by
  induction ts generalizing m ds with
  | nil =>
    have := h.py
    simp only [toPys, Option.some.injEq] at this
    subst this
    exact r.mono (Nat.le_refl _) (by omega)
  | cons t ts ih =>
    have hp := h.py
    simp only [toPys, Option.bind_eq_some_iff, Option.map_eq_some_iff] at hp
    obtain ⟨d, e1, ds', e2, rfl⟩ := hp
    have h1 := h.sh; have h2 := h.ly; have h3 := h.dp; have h4 := h.ln
    simp only [PyData.showableAll, PyData.canLayAll0, Bool.and_eq_true, PyData.depthAll, PyData.shownAll, piled_cons] at h1 h2 h3 h4
    have q : ROs n (piled (PyData.shownAll ds')) ts ds' := ⟨e2, h1.2, h2.2, (Nat.max_le.mp h3).2, Nat.le_refl _⟩
    have := ROs.cons (⟨e1, h1.1, h2.1, (Nat.max_le.mp h3).1, Nat.le_refl _⟩ : RO n d.shown.length t d) (ih q)
    exact this.mono (Nat.le_refl _) (by omega)
theorem tupleText_len (ts : List Str) : (tupleText ts).length ≤ piled ts + 3 := by
  unfold tupleText
  rw [Str.length_append, Str.length_append]
  have l1 : (("(" : Str)).length = 1 := by decide +kernel
  have l2 : ((if ts.length == 1 then ",)" else ")" : String) : Str).length ≤ 2 := by split <;> decide +kernel
  have l3 : (Str.join ", " ts).length ≤ piled ts := by
    by_cases e : ts = []
    · subst e; decide +kernel
    · have := join_length_add ts e; omega
  rw [l1]
  omega
theorem listText_len (ts : List Str) : (listText ts).length ≤ piled ts + 2 := by
  unfold listText
  rw [Str.length_append]
  have l1 : (("]" : Str)).length = 1 := by decide +kernel
  have l3 : (textFrom 0 "[" ts).length ≤ piled ts + 1 := by
    cases ts with
    | nil => decide +kernel
    | cons t ts =>
      unfold textFrom
      rw [textFrom_length_pos _ _ _ (Nat.succ_pos 0), Str.length_append, Str.length_append, piled_cons]
      have l5 : (("[" : Str)).length = 1 := by decide +kernel
      have l6 : ((if 0 > 0 then ", " else "" : String) : Str).length = 0 := by decide +kernel
      rw [l5, l6]
      omega
  rw [l1]
  omega
theorem RO.tup {n m : Nat} {ts : List T} {ds : List PyData} (h : ROs n m ts ds) : RO (n + 1) (m + 3) (.tup ts) (.tuple ds) :=
  ⟨by simp [toPy, h.py], by simp [PyData.showable, h.sh], by simp [PyData.canLay0, h.ly], by simp only [PyData.depth]; have := h.dp; omega,
    by simp only [PyData.shown]; have := tupleText_len (PyData.shownAll ds); have := h.ln; omega⟩
theorem RO.lst {n m : Nat} {ts : List T} {ds : List PyData} (h : ROs n m ts ds) : RO (n + 1) (m + 3) (.lst ts) (.list ds) :=
  ⟨by simp [toPy, h.py], by simp [PyData.showable, h.sh], by simp [PyData.canLay0, h.ly], by simp only [PyData.depth]; have := h.dp; omega,
    by simp only [PyData.shown]; have := listText_len (PyData.shownAll ds); have := h.ln; omega⟩
theorem RO.non {n : Nat} : RO n 4 .non .none := ⟨rfl, rfl, rfl, Nat.zero_le _, by decide +kernel⟩
theorem RO.bl {n : Nat} (b : Bool) : RO n 5 (.bl b) (.bool b) := ⟨rfl, rfl, rfl, Nat.zero_le _, by cases b <;> decide +kernel⟩
/-- one that is written -/
theorem RO.of {n m : Nat} {t : T} {d : PyData} (h1 : toPy t = some d) (h2 : (d.showable && d.canLay0 && decide (d.depth ≤ n) && decide (d.shown.length ≤ m)) = true) : RO n m t d := by
  simp only [Bool.and_eq_true, decide_eq_true_eq] at h2
  exact ⟨h1, h2.1.1.1, h2.1.1.2, h2.1.2, h2.2⟩
theorem RO.okT {n m : Nat} {t : T} {d : PyData} (h : RO n m t d) (hn : n ≤ 64) : okT t = true := by
  unfold TL.okT
  rw [h.py]
  show (d.canLay0 && decide (d.depth ≤ 64)) = true
  rw [h.ly, Bool.true_and]
  exact decide_eq_true (Nat.le_trans h.dp hn)
theorem RO.repr {n m : Nat} {t : T} {d : PyData} (h : RO n m t d) (hn : n ≤ 60) (hm : m ≤ 16777216) : fRepr [t] = .ret (.str d.shown) := by
  unfold fRepr
  simp only [h.py]
  show (if d.showable && !d.hasDict && decide (d.depth ≤ 60) && fits d.shown.length then G.ret (T.str d.shown) else .stuck) = _
  have h1 : decide (d.depth ≤ 60) = true := decide_eq_true (Nat.le_trans h.dp hn)
  have h2 : fits d.shown.length = true := decide_eq_true (Nat.le_trans h.ln hm)
  rw [h.sh, PyData.hasDict_of_canLay d h.ly, h1, h2]
  rfl
theorem RO.eqB {n m n' m' : Nat} {t u : T} {d e : PyData} (neg : Bool) (h : RO n m t d) (g : RO n' m' u e) (hn : n ≤ 64) (hn' : n' ≤ 64) : fEqB neg t u = .ret (.bl (neg != PyData.eqv d e)) := by
  have e1 : eqT t u = PyData.eqv d e := by unfold eqT; rw [h.py, g.py]
  have e2 := h.okT hn
  have e3 := g.okT hn'
  unfold fEqB
  split
  · rename_i x y
    have h1 := h.py; have g1 := g.py
    simp only [toPy, Option.some.injEq] at h1 g1
    subst h1 g1
    simp only [PyData.eqv]
    rfl
  · rw [e2, e3, e1]
    rfl
theorem strEqB (neg : Bool) (x y : Str) : fEqB neg (.str x) (.str y) = .ret (.bl (neg != decide (x = y))) := rfl
end TL
end s_TL48
section s_TL49
set_option Elab.async false
set_option linter.all false
set_option maxRecDepth 100000
set_option maxHeartbeats 4000000
/-! TL49: computations step by step -/
namespace TL
open PySem PySem.Spec PyProof.Rows L2
section
variable {c d : SC} {r r' : List Sl} {i : Nat} {ca cb : EC} {ta tb : List Sl → G Bool} {t u : T} {x : G Ctl} {ts : List T} {cs : List Sl → G (List T)} {F : List T → G T} {f : T → T → G T}
theorem seq_nx (h : c r = .ret (.nx r')) : cSeq c d r = d r' := by unfold cSeq; rw [h]; rfl
theorem seq_rt (h : c r = .ret (.rt t)) : cSeq c d r = .ret (.rt t) := by unfold cSeq; rw [h]; rfl
theorem set_eq (h : ca r = .ret t) : cSet i ca r = .ret (.nx (r.set i (.fz t))) := by unfold cSet; rw [h]; rfl
theorem setO_eq (h : ca r = .ret t) : cSetO i ca r = .ret (.nx (r.set i (.ow t))) := by unfold cSetO; rw [h]; rfl
theorem ret_eq (h : ca r = .ret t) : cRet ca r = .ret (.rt t) := by unfold cRet; rw [h]; rfl
theorem ifS_t (h : ta r = .ret true) : cIfS ta c d r = c r := by unfold cIfS; rw [h]; rfl
theorem ifS_f (h : ta r = .ret false) : cIfS ta c d r = d r := by unfold cIfS; rw [h]; rfl
theorem orT_f (h : ta r = .ret false) : cOrT ta tb r = tb r := by unfold cOrT; rw [h]; rfl
theorem orT_t (h : ta r = .ret true) : cOrT ta tb r = .ret true := by unfold cOrT; rw [h]; rfl
theorem andT_t (h : ta r = .ret true) : cAndT ta tb r = tb r := by unfold cAndT; rw [h]; rfl
theorem andT_f (h : ta r = .ret false) : cAndT ta tb r = .ret false := by unfold cAndT; rw [h]; rfl
theorem notT_eq {b : Bool} (h : ta r = .ret b) : cNotT ta r = .ret !b := by unfold cNotT; rw [h]; rfl
theorem b_eq {b : Bool} (h : ca r = .ret (.bl b)) : cB ca r = .ret b := by unfold cB; rw [h]; rfl
theorem op2_eq (h1 : ca r = .ret t) (h2 : cb r = .ret u) : cOp2 f ca cb r = f t u := by unfold cOp2; rw [h1, h2]; rfl
theorem op1_eq {f : T → G T} (h1 : ca r = .ret t) : cOp1 f ca r = f t := by unfold cOp1; rw [h1]; rfl
theorem call_eq (h : cs r = .ret ts) : cCall F cs r = F ts := by unfold cCall; rw [h]; rfl
theorem cons_eq (h : ca r = .ret t) (h2 : cs r = .ret ts) : caCons ca cs r = .ret (t :: ts) := by unfold caCons; rw [h, h2]; rfl
theorem lst_eq (h : cs r = .ret ts) : cLst cs r = .ret (.lst ts) := by unfold cLst; rw [h]; rfl
theorem tup_eq (h : cs r = .ret ts) : cTup cs r = .ret (.tup ts) := by unfold cTup; rw [h]; rfl
theorem frz_eq {t : T} (h : r[i]? = some (.ow t)) (k : c (r.set i (.fz t)) = x) : cFrz i c r = x := by unfold cFrz frzS; rw [h]; exact k
theorem put_eq {ci : EC} {b b' k : T} (h : ca r = .ret t) (h1 : r[i]? = some (.ow b)) (h2 : ci r = .ret k) (h3 : putAt b k t = some b') : cPut i ci ca r = .ret (.nx (r.set i (.ow b'))) := by
  unfold cPut
  rw [h]
  show (match r[i]? with | some (.ow b) => ci r >>= fun k => (match putAt b k t with | some b' => G.ret (Ctl.nx (r.set i (.ow b'))) | none => .stuck) | _ => .stuck) = _
  rw [h1]
  show (ci r >>= fun k => (match putAt b k t with | some b' => G.ret (Ctl.nx (r.set i (.ow b'))) | none => .stuck)) = _
  rw [h2]
  show (match putAt b k t with | some b' => G.ret (Ctl.nx (r.set i (.ow b'))) | none => .stuck) = _
  rw [h3]
theorem mut_eq {ty : String} {M : T → List T → Option T} {b b' : T} (h1 : r[i]? = some (.ow b)) (h2 : cs r = .ret ts) (h3 : M b ts = some b') (h4 : tyT b = some ty) : cMut ty i M cs r = .ret (.nx (r.set i (.ow b'))) := by
  unfold cMut
  simp [h1, h2, h3, h4]
/-- a call at a body's end -/
theorem runB_eq {c : SC} {m : Nat} (h : c (ts.map .fz ++ List.replicate (m - ts.length) .un) = .ret (.rt t)) : runB c m ts = .ret t := by unfold runB; rw [h]; rfl
theorem runR_eq {c : SC} {m : Nat} (h : c (ts.map .fz ++ List.replicate (m - ts.length) .un) = .ret (.rt t)) : runR c m ts = .ret t := by unfold runR; rw [h]; rfl
end
/-! lists of data -/
theorem ROs.uncons {n m : Nat} {t : T} {ts : List T} {ds : List PyData} (h : ROs n m (t :: ts) ds) : ∃ d ds' k k', ds = d :: ds' ∧ RO n k t d ∧ ROs n k' ts ds' ∧ k + 2 + k' = m := by
  have hp := h.py
  simp only [toPys, Option.bind_eq_some_iff, Option.map_eq_some_iff] at hp
  obtain ⟨d, e1, ds', e2, rfl⟩ := hp
  have h1 := h.sh; have h2 := h.ly; have h3 := h.dp; have h4 := h.ln
  simp only [PyData.showableAll, PyData.canLayAll0, Bool.and_eq_true, PyData.depthAll, PyData.shownAll, piled_cons] at h1 h2 h3 h4
  exact ⟨d, ds', d.shown.length, m - (d.shown.length + 2), rfl, ⟨e1, h1.1, h2.1, (Nat.max_le.mp h3).1, Nat.le_refl _⟩, ⟨e2, h1.2, h2.2, (Nat.max_le.mp h3).2, by omega⟩, by omega⟩
theorem ROs.set {n k : Nat} {t : T} {d : PyData} (g : RO n k t d) : ∀ {ts : List T} {ds : List PyData} (i : Nat) {m : Nat}, ROs n m ts ds → ROs n (m + k + 2) (ts.set i t) (ds.set i d)
  | [], ds, i, m, h => by
    have := h.py
    simp only [toPys, Option.some.injEq] at this
    subst this
    exact h.mono (Nat.le_refl _) (by omega)
  | u :: ts, ds, i, m, h => by
    obtain ⟨e, ds', k1, k2, rfl, qu, q, hm⟩ := h.uncons
    cases i with
    | zero => exact (ROs.cons g q).mono (Nat.le_refl _) (by omega)
    | succ i => exact (ROs.cons qu (ROs.set g i q)).mono (Nat.le_refl _) (by omega)
theorem ROs.get {n : Nat} : ∀ {ts : List T} {ds : List PyData} {m : Nat} (i : Nat) {t : T}, ROs n m ts ds → ts[i]? = some t → ∃ d k, ds[i]? = some d ∧ RO n k t d
  | [], _, _, _, _, _, e => by simp at e
  | u :: ts, ds, m, i, t, h, e => by
    obtain ⟨e', ds', k1, k2, rfl, qu, q, hm⟩ := h.uncons
    cases i with
    | zero => simp at e; subst e; exact ⟨e', k1, rfl, qu⟩
    | succ i => exact ROs.get i q (by simpa using e)
theorem eqvAll_set (e : PyData) : ∀ {ds : List PyData} {i : Nat} {d : PyData}, PyData.canLayAll0 ds = true → ds[i]? = some d → PyData.eqvAll ds (ds.set i e) = PyData.eqv d e ∧ PyData.eqvAll (ds.set i e) ds = PyData.eqv e d
  | [], _, _, _, h => by simp at h
  | u :: ds, i, d, hl, h => by
    simp only [PyData.canLayAll0, Bool.and_eq_true] at hl
    cases i with
    | zero =>
      simp at h; subst h
      simp [PyData.eqvAll, SeqAt.eqvAll_refl _ hl.2]
    | succ i =>
      obtain ⟨a, b⟩ := eqvAll_set e hl.2 (i := i) (d := d) (by simpa using h)
      simp [PyData.eqvAll, SeqAt.eqv_refl _ hl.1, a, b]
end TL
end s_TL49
section s_TL50
set_option Elab.async false
set_option linter.all false
set_option maxRecDepth 100000
set_option maxHeartbeats 4000000
/-! TL50: a < b < c, whole numbers of the module, is True, tuples and lists turned round -/
namespace TL
open PySem PySem.Spec PyProof.Rows L2
section
variable {X : Cx} {w : Wd} {E : XK} {a b c e : Expr} {pos : Pos} {ca cb cc : EC}
def cChain (f g : Int → Int → Bool) (ca cb cc : EC) : EC := fun r => ca r >>= fun a => cb r >>= fun b => match a, b with
  | .int i, .int j => if f i j then (cc r >>= fun c => match c with | .int k => .ret (.bl (g j k)) | _ => .stuck) else .ret (.bl false)
  | _, _ => .stuck
theorem evChain {f g : Int → Int → Bool} {σ : L2.St} {H : Hp} {Q : VK} (h : EvE X.km w E (cChain f g ca cb cc) σ H Q) :
    tChain (rI0 fun i j => .bl (f i j)) (rI0 fun i j => .bl (g i j)) (EvE X.km w E ca) (EvE X.km w E cb) (EvE X.km w E cc) σ H Q := by
  obtain ⟨H0, Z0, r, Z, o, R, h⟩ := h
  refine evSeq (P := fun H Z => Post X.km w H Z Q) (PX := fun _ => True) R (fun g => Post.weak g) h fun x H1 Z1 a R1 g1 t1 h1 => ?_
  refine evSeq (P := fun H Z => Post X.km w H Z Q) (PX := fun _ => True) R1 (fun g => Post.weak g) h1 fun y H2 Z2 b R2 g2 t2 h2 => ?_
  cases t1 <;> try exact h2.elim
  cases t2 <;> try exact h2.elim
  rename_i i j
  refine ⟨i, j, rfl, rfl, f i j, rfl, ?_⟩
  have h3 : (if f i j then (cc r >>= fun c => match c with | .int k => G.ret (T.bl (g j k)) | _ => .stuck) else G.ret (T.bl false)).wp (Post X.km w H2 Z2 Q) (PostX X.km w E H0 Z0) := h2
  cases e : f i j with
  | false =>
    rw [e] at h3
    exact iteF (h3 _ H2 Z2 (Grow.refl R2.good) (.bl _))
  | true =>
    rw [e] at h3
    refine iteT ?_
    refine evSeq (P := fun H Z => Post X.km w H Z Q) (PX := fun _ => True) R2 (fun g => Post.weak g) h3 fun z H3 Z3 c R3 g3 t3 h4 => ?_
    cases t3 <;> try exact h4.elim
    exact ⟨j, _, rfl, rfl, h4 _ H3 Z3 (Grow.refl R3.good) (.bl _)⟩
theorem ce_chain {op op' : CmpOp} {f g : Int → Int → Bool} (ho : OpR X (compareOp op) (rI0 fun i j => .bl (f i j))) (ho' : OpR X (compareOp op') (rI0 fun i j => .bl (g i j))) (ha : CE X w E a ca) (hb : CE X w E b cb) (hc : CE X w E c cc)
    (hm : lastMarks [op, op'] [b, c] = false := by with_unfolding_all rfl) : CE X w E (.Compare a [op, op'] [b, c] pos) (cChain f g ca cb cc) :=
  ⟨peImp (pe_chain ho ho' ha.pe hb.pe hc.pe hm) fun σ H Q h => evChain h⟩
/-- a whole number of the module -/
theorem ce_gint {x : Str} {i : Int} (hm : ∃ t, X.mg x = some (.int i t)) (hg : Gl X x := by rfl) (hd : (x == ("__debug__" : Str)) = false := by decide) : CE X w E (.Name x pos) (cC (.int i)) := by
  obtain ⟨t, hm⟩ := hm
  exact ce_glob (v := .int i) hg hm ⟨t, rfl⟩ (fun _ => .int i) hd
/-- x is True, x is not True (bools) -/
def fIsBl (neg : Bool) : T → T → G T
  | .bl a, .bl b => .ret (.bl (neg != decide (a = b)))
  | _, _ => .stuck
theorem t2_isBl : T2 X.km w E rIsB (fIsBl false) := fun H0 Z0 r σ H Z o R a b x y Q ta tb hw => by
  cases ta <;> try exact hw.elim
  cases tb <;> try exact hw.elim
  rename_i p q
  refine ⟨p, q, rfl, rfl, ?_⟩
  have z := hw _ H Z (Grow.refl R.good) (.bl _)
  simpa using z
end
end TL
end s_TL50
section s_TL51
set_option Elab.async false
set_option linter.all false
set_option maxRecDepth 100000
set_option maxHeartbeats 4000000
/-! TL51: t[::-1], xs[::-1] -/
namespace HT
open PySem PySem.Spec PyProof.Rows L2
section
variable {prog : Program} {w : World} {A : Around} {E : Value → Shared → Prop} {s : Shared}
theorem sliceApplied_rev {sl : Addr} {vk : Value} {n : Nat} {Q : Int × Int × Nat → Shared → Prop} (hs : s.heap.IsSliceOf sl .none .none vk) (pk : IsPart vk (some (-1)))
    (h : Q ((n : Int) - 1, -1, n) s) : wpAny (model prog w) A (Builtin.Slice.sliceApplied (.ref sl) (pure (n : Int))) Q E s := by
  obtain ⟨os, hos, hcs, hds⟩ := id hs
  unfold Builtin.Slice.sliceApplied Builtin.Slice.sliceFields
  refine wpAny_bind (wpAny_bind (wpAny_field hos hds (x := .none) rfl (wpAny_bind (wpAny_field hos hds (x := .none) rfl (wpAny_bind (wpAny_field hos hds (x := vk) rfl (wpAny_pure ?_)))))))
  refine wpAny_bind (slicePart_ pk ?_)
  show wpAny _ _ (if ((-1 : Int) == 0) = true then _ else _) _ _ s
  rw [if_neg (by decide)]
  refine wpAny_bind (slicePart_none (wpAny_bind (slicePart_none (wpAny_bind (wpAny_pure ?_)))))
  have e1 : Builtin.Slice.sliceAdjust none none (-1) (n : Int) = ((n : Int) - 1, -1) := by
    unfold Builtin.Slice.sliceAdjust
    simp
  have e2 : Builtin.Slice.slicePlaces ((n : Int) - 1) (-1) (-1) = n := by
    unfold Builtin.Slice.slicePlaces
    have h0 : ¬ ((-1 : Int) > 0) := by omega
    simp only [h0, if_false, Int.neg_neg, Int.ediv_one]
    split <;> omega
  show wpAny _ _ (match Builtin.Slice.sliceAdjust none none (-1) (n : Int) with | (lo, hi) => pure (lo, (-1 : Int), Builtin.Slice.slicePlaces lo hi (-1))) _ _ s
  rw [e1]
  show wpAny _ _ (pure ((n : Int) - 1, (-1 : Int), Builtin.Slice.slicePlaces ((n : Int) - 1) (-1) (-1))) _ _ s
  rw [e2]
  exact wpAny_pure h
theorem pick_rev (xs : Array Value) : ((List.range xs.size).filterMap fun (m : Nat) => xs[(((xs.size : Int) - 1) + (m : Int) * (-1)).toNat]?).toArray = xs.toList.reverse.toArray := by
  have e : (fun (m : Nat) => xs[(((xs.size : Int) - 1) + (m : Int) * (-1)).toNat]?) = (xs[·]?) ∘ fun m => xs.size - 1 - m := by
    funext m
    have : (((xs.size : Int) - 1) + (m : Int) * (-1)).toNat = xs.size - 1 - m := by omega
    show xs[_]? = xs[xs.size - 1 - m]?
    rw [this]
  rw [e, ← List.filterMap_map, PySem.W.krv_range, List.filterMap_reverse, PySem.W.krv_all]
theorem getItem_tuple_rev {t sl : Addr} {items : Array Value} {vk : Value} {Q : Value → Shared → Prop} (ht : IsTup s.heap t items) (hs : s.heap.IsSliceOf sl .none .none vk) (pk : IsPart vk (some (-1)))
    (h : Q (.ref s.heap.objs.size) { s with heap := s.heap.push { cls := .type "tuple", data := .seq items.toList.reverse.toArray } })
    (hsz : items.size ≤ sizeLine) : wpAny (model prog w) A (getItem (.ref t) (.ref sl)) Q E s := by
  have htake : sizeOk (.seq items.toList.reverse.toArray) := by
    show items.toList.reverse.toArray.size ≤ sizeLine
    rw [List.size_toArray, List.length_reverse, Array.length_toList]
    exact hsz
  obtain ⟨os, hos, hcs, hds⟩ := id hs
  have hTs : s.TypeIs (.ref sl) "slice" := ⟨os, hos, hcs⟩
  unfold getItem
  try with_reducible refine wpAny_holding ?_
  first | refine wpAny_bind (wpAny_pure ?_) | skip
  refine wpAny_bind (wpAny_sequenceKey ht.typeIs (by decide) ?_)
  refine wpAny_bind (wpAny_callSpecial?_slot (name := Str.ofString "__getitem__") ht.typeIs PyProof.Rows.slot_tuple_getitem
    (wpAny_call_entry PyProof.Rows.slot_tuple_getitem ht.typeIs entry_tuple_getitem ?_ (args_tuple_getitem _ _)))
  show wpAny _ _ (Builtin.Tuple.tupleItemsOf (.ref t) >>= _) _ _ s
  refine wpAny_bind (tupleItemsOf_ ht ?_)
  refine wpAny_bind (wpAny_typeOf hTs ?_)
  rw [if_pos (by decide)]
  refine wpAny_bind (sliceApplied_rev hs pk ?_)
  have hno : ¬ ((((items.size : Int) - 1 == 0) && ((-1 : Int) == 1) && (items.size == items.size)) = true) := by
    intro q
    rw [Bool.and_eq_true, Bool.and_eq_true] at q
    have := eq_of_beq q.1.2
    omega
  show wpAny _ _ (if (((items.size : Int) - 1 == 0) && ((-1 : Int) == 1) && (items.size == items.size)) = true then _ else _) _ _ s
  rw [if_neg hno, pick_rev]
  first
    | exact wpAny_bind (m := Builtin.Tuple.tupleExact _) (wpAny_newObj_type (wpAny_pure ⟨_, rfl, wpAny_pure h⟩) htake)
    | exact wpAny_bind (m := Builtin.Tuple.tupleExact _) (wpAny_newObj_type (wpAny_bind (wpAny_pure (wpAny_pure ⟨_, rfl, wpAny_pure h⟩))) htake)
    | exact wpAny_bind (wpAny_bind (m := Builtin.Tuple.tupleExact _) (wpAny_newObj_type (wpAny_pure (wpAny_pure ⟨_, rfl, wpAny_pure h⟩)) htake))
    | exact wpAny_bind (wpAny_bind (m := Builtin.Tuple.tupleExact _) (wpAny_newObj_type (wpAny_pure ⟨_, rfl, wpAny_pure h⟩) htake))
end
end HT
namespace TL
open PySem PySem.Spec PyProof.Rows L2
section
variable {X : Cx} {w : Wd} {E : XK} {e k : Expr} {p2 pos : Pos} {ca : EC} {te tk : TE}
theorem vals_rev : ∀ {xs : List V} {us : List Value}, Vals xs us → Vals xs.reverse us.reverse
  | _, _, .nil => .nil
  | _, _, .cons a b => by
    rw [List.reverse_cons, List.reverse_cons]
    exact (vals_rev b).append (.cons a .nil)
def tRev (K : PySem.W.Frag) (te tk : TE) : TE := fun σ H Q => te σ H fun x H1 => tk σ H1 fun i H2 => i = .int (-1) ∧ ∃ a xs, x = .ref a ∧
  ((SqT K H2 a xs ∧ ∀ p, H2 p = none → Q (.ref p) (upd H2 p (.tup xs.reverse))) ∨ (SqL K H2 a xs ∧ ∀ p, H2 p = none → Q (.ref p) (upd H2 p (.lst xs.reverse))))
theorem pe_rev (he : PE X e te) (hk : PE X k tk) (hs : ∀ a l : Addr, subscripted (.Slice none none (some k) p2) false (.ref a) (.ref l) = operate [.ref a, .ref l] (getItem (.ref a) (.ref l)) := by intro _ _; with_unfolding_all rfl) : PE X (.Subscript e (.Slice none none (some k) p2) pos) (tRev X.K te tk) := by
  refine ⟨fun pins s σ H Q I h => ?_⟩
  refine Subscript_ (thn (he.run pins s σ H _ I h) fun v s1 ⟨x, H1, I1, r1, q1⟩ => ?_)
  refine wpAny_Slice ?_
  rw [evalPart_none]
  refine wpAny_pure (wpAny_pure ?_)
  rw [evalPart_some]
  refine thn (hk.run pins s1 σ H1 _ I1 q1) fun vk s3 ⟨y, H3, I3, rk, e1, a, xs, e2, q3⟩ => ?_
  subst e1 e2
  obtain ⟨t, rfl⟩ := rk
  cases r1
  have I4 : Inv X pins σ H3 { s3 with heap := s3.heap.push { cls := .type "slice", data := .fields #[.none, .none, .int (-1) t] } } := I3.kept (t' := s3.toks) fun b ob q => Heap.get?_push_of_some _ q
  show wpAny (model X.prog X.w) X.A (subscriptTail e (.Slice none none (some k) p2) (.ref a) (.ref s3.heap.objs.size)) (EP X pins σ Q) X.xe { s3 with heap := s3.heap.push { cls := .type "slice", data := .fields #[.none, .none, .int (-1) t] } }
  rcases q3 with ⟨hx, q⟩ | ⟨hx, q⟩
  · obtain ⟨its, r, ht, hz⟩ := I4.tuple hx
    refine tail_any (ops := [.ref a, .ref s3.heap.objs.size]) ht.typeIs PyProof.Rows.slot_tuple_getitem.lookup (HT.getItem_tuple_rev ht (Heap.IsSliceOf.new ..) (IsPart.int _ _) ?_ (by rw [List.size_toArray, ← r.length]; exact hz)) (hs _ _)
    refine ⟨.ref _, _, I4.laid (t' := s3.toks) (o := .tup xs.reverse) (fun b ob q => Heap.get?_push_of_some _ q) (Nat.le_refl _) ?_, rfl, q _ (I4.hok.fresh (Nat.le_refl _))⟩
    exact ⟨by rw [List.length_reverse]; exact hz, its.reverse, vals_rev r, IsTup.new _ _⟩
  · obtain ⟨its, r, pl, hz⟩ := I4.list hx
    have hl := pl.isList
    refine tail_any (ops := [.ref a, .ref s3.heap.objs.size]) hl.typeIs slot_list_getitem.lookup (wpAny_getItem_list_slice hl (Heap.IsSliceOf.new ..) .none .none (IsPart.int (-1) t) (by decide) ?_ (by rw [List.size_toArray, ← r.length]; exact hz)) (hs _ _)
    rw [PySem.W.krv_pick]
    refine ⟨.ref _, _, I4.laid (t' := s3.toks) (o := .lst xs.reverse) (fun b ob q => Heap.get?_push_of_some _ q) (Nat.le_refl _) ?_, rfl, q _ (I4.hok.fresh (Nat.le_refl _))⟩
    exact ⟨by rw [List.length_reverse]; exact hz, its.reverse, 0, vals_rev r, Heap.get?_push_size _ rfl⟩
def fRev : T → G T
  | .tup ts => .ret (.tup ts.reverse)
  | .lst ts => .ret (.lst ts.reverse)
  | _ => .stuck
theorem ce_rev {j : Nat} {p3 p4 : Pos} (he : CE X w E e ca) : CE X w E (.Subscript e (.Slice none none (some (.UnaryOp .USub (.Constant (.int 1) j p3) p4)) p2) pos) (cOp1 fRev ca) := by
  refine ⟨peImp (pe_rev he.pe (pe_un un_neg pe_int)) fun σ H Q h => ?_⟩
  obtain ⟨H0, Z0, r, Z, o, R, h⟩ := h
  refine evSeq (P := fun H Z => Post X.km w H Z Q) (PX := fun _ => True) R (fun g => Post.weak g) h fun x H1 Z1 a R1 g1 t1 h1 => ?_
  refine ⟨_, rfl, rfl, ?_⟩
  cases t1 with
  | @tup ts p vs hq l' tr =>
    have q : Post X.km w H1 Z1 Q (.tup ts.reverse) := h1
    refine ⟨p, vs, rfl, .inl ⟨R1.good.sqT hq, fun c hc => ?_⟩⟩
    have s := Sub.upd (o := .tup vs.reverse) (R1.good.tracked hc)
    exact q _ _ _ (Grow.laidF R1.good hc) (.tup (SqT.of upd_same) (by rw [List.length_reverse]; exact l') (tr.reverse.mono s))
  | @lst ts p vs hq l' tr =>
    have q : Post X.km w H1 Z1 Q (.lst ts.reverse) := h1
    refine ⟨p, vs, rfl, .inr ⟨SqL.of (R1.good.zh _ _ hq), fun c hc => ?_⟩⟩
    have s := Sub.upd (o := .lst vs.reverse) (R1.good.tracked hc)
    exact q _ _ _ (Grow.laidF R1.good hc) (.lst upd_same (by rw [List.length_reverse]; exact l') (tr.reverse.mono s))
  | _ => exact h1.elim
end
end TL
end s_TL51
section s_TL52
set_option Elab.async false
set_option linter.all false
set_option maxRecDepth 100000
set_option maxHeartbeats 4000000
/-! TL52: defs called with defaults and keywords -/
namespace TL
open PySem PySem.Spec PyProof.Rows L2
theorem pickL_length {α : Type} {l : List α} : ∀ {perm : List Nat}, (∀ i ∈ perm, i < l.length) → (pickL perm l).length = perm.length
  | [], _ => rfl
  | i :: r, q => by
    unfold pickL
    rw [List.filterMap_cons, List.getElem?_eq_getElem (q i (by simp))]
    exact congrArg Nat.succ (pickL_length (l := l) (perm := r) fun j hj => q j (by simp [hj]))
structure CallS (P : Program) (wd : World) (K : PySem.W.Frag) (mg : Str → Option Value) (base : Heap) (k : Nat) (x : Str) (n : Nat) (ks : List Str) (perm : List Nat) (dts : List T) (m : Nat) (F : List T → G T) : Prop where
  ex : ∃ f fd ps dvs ds, mg x = some (.ref f) ∧ PySem.W.keepIn K (.ref f) = true ∧ Vals dvs ds ∧ (∀ (w : Wd) Z, Trs K mg w Z dts dvs) ∧ ps.length = m ∧
    (∀ (s : Shared) (us ws : List Value), K.In s.heap → us.length = n → ws.length = ks.length → BindsTo s fd ⟨us, ks.zip ws⟩ (ps.zip (pickL perm (us ++ ws ++ ds)))) ∧ FnG P wd K mg base k f fd ps (SpT K mg m F)
  len : perm.length = m
  low : ∀ i ∈ perm, i < n + ks.length + dts.length
theorem SpT.pick {K : PySem.W.Frag} {mg : Str → Option Value} {n m : Nat} {perm : List Nat} {dts : List T} {dvs : List V} {F : List T → G T} {vs : List V} {H : Hp} {Q : VK} {E : XK} (h : SpT K mg n (fun ts => F (pickL perm (ts ++ dts))) vs H Q E)
    (hd : ∀ (w : Wd) Z, Trs K mg w Z dts dvs) (hp : perm.length = m) (hl : ∀ i ∈ perm, i < n + dts.length) : SpT K mg m F (pickL perm (vs ++ dvs)) H Q E := by
  obtain ⟨w, ts, Z, hn, g, tr, q⟩ := h
  refine ⟨w, pickL perm (ts ++ dts), Z, ?_, g, pick_trs (tr.append (hd w Z)) perm, q⟩
  rw [pickL_length, hp]
  intro i hi
  have := hl i hi
  rw [List.length_append, hn, ← (hd w Z).length]
  exact this
section
variable {X : Cx} {w : Wd} {E : XK} {j k n m : Nat} {x : Str} {p pos : Pos} {e : Expr} {es : List Expr} {kws : List Keyword} {cs ck : List Sl → G (List T)} {F : List T → G T} {ks : List Str} {perm : List Nat} {dts : List T}
theorem runS {pins : List (Addr × Obj)} {σ : L2.St} {H : Hp} {s : Shared} {Q : VK} {us ws : List Value} {vs : List V} {f : Addr} {fd : FuncData} {ps : List Str} {dvs : List V} {ds : List Value} {sp : Sp} (Fk : FnG X.prog X.w X.K X.mg X.base k f fd ps sp) (gd : X.A.guards = some []) (hr : Room k X.A) (hd : Vals dvs ds)
    (hb : BindsTo s fd ⟨us, ks.zip ws⟩ (ps.zip (pickL perm (us ++ ws ++ ds)))) (hx : Passes (L2.CX X.prog X.w) X E)
    (I : Inv X pins σ H s) (r : Vals vs (us ++ ws)) (h : sp (pickL perm (vs ++ dvs)) H Q E) : wpAny (model X.prog X.w) X.A (call (.ref f) us (ks.zip ws)) (EP X pins σ Q) X.xe s := by
  refine wpAny_call (codeAny_mono (Fk.go X.A X.stack s H ⟨us, ks.zip ws⟩ _ _ Q E gd hr I.env0 hb (pick_vals (r.append hd) perm) h) fun res s' hq => ?_)
  rcases res with e | (_ | _ | _ | u)
  · exact hx pins σ H s e s' I hq
  · exact False.elim hq
  · exact False.elim hq
  · exact False.elim hq
  · exact I.after hq
/-- f(e, ..), the rest by defaults -/
theorem ce_fnD (B : Bd X k E) (C : CallS X.prog X.w X.K X.mg X.base j x n [] perm dts m F) (ha : CA X w E (e :: es) cs) (hl : Len cs n) (hj : j ≤ k := by decide) (hg : Gl X x := by rfl) (hdb : (x == ("__debug__" : Str)) = false := by decide)
    (he : starEach (e :: es) X.env = (false, eval e X.env) :: starEach es X.env := by rfl) (hpl : (backTo pos (starEach es X.env)).any (·.1) = false := by rfl) : CE X w E (.Call (.Name x p) (e :: es) [] pos) (cCall (fun ts => F (pickL perm (ts ++ dts))) cs) := by
  obtain ⟨f, fd, ps, dvs, ds, hm, hk, hd, ht, hp, hb, Fk⟩ := C.ex
  refine ⟨⟨fun pins s σ H Q I h => ?_⟩⟩
  have hev := evCall hl h
  refine wpAny_Call_Name_kw (ld_glob I hg hm ?_ hdb)
  refine PySem.W.callWith_K (h₀ := X.base) I.ok.mod.kin hk (thn (ha.pa.run pos pins s σ H _ I hev) fun us s1 ⟨vs, H1, I1, r, q⟩ => ⟨I1.kIn, ?_⟩) he hpl
  have hn : us.length = n := by rw [← r.length]; exact let ⟨_, _, _, z, _⟩ := q; z
  exact runS (ks := []) (ws := []) (Fk.mono hj) B.gd B.hr hd (hb s1 us [] I1.kIn hn rfl) B.hx I1 (by simpa using r) (SpT.pick q ht C.len (by simpa using C.low))
/-- f(k = e, ..) -/
theorem ce_fnK (B : Bd X k E) (C : CallS X.prog X.w X.K X.mg X.base j x 0 ks perm dts m F) (ha : CK X w E kws ck) (hl : Len ck ks.length) (hj : j ≤ k := by decide) (hg : Gl X x := by rfl)
    (hall : (backToKw pos (keywordEach kws X.env)).all (·.1.isSome) = true := by rfl) (hks : (backToKw pos (keywordEach kws X.env)).filterMap (·.1) = ks := by rfl) (hdb : (x == ("__debug__" : Str)) = false := by decide)
    (hpl : ((backTo pos (starEach [] X.env)).any (·.1) || (backToKw pos (keywordEach kws X.env)).any (·.1.isNone)) = false := by rfl) : CE X w E (.Call (.Name x p) [] kws pos) (cCall (fun ts => F (pickL perm (ts ++ dts))) ck) := by
  obtain ⟨f, fd, ps, dvs, ds, hm, hk, hd, ht, hp, hb, Fk⟩ := C.ex
  refine ⟨⟨fun pins s σ H Q I h => ?_⟩⟩
  have hev := evCall hl h
  refine wpAny_Call_Name_kw (ld_glob I hg hm ?_ hdb)
  refine PySem.W.callWith_KW0 (h₀ := X.base) I.ok.mod.kin hk hall (thn (ha.pk.run pos pins s σ H _ I hev) fun ws s1 ⟨zs, H1, I1, r, q⟩ => ⟨I1.kIn, ?_⟩) hpl
  have hn : ws.length = ks.length := by rw [← r.length]; exact let ⟨_, _, _, z, _⟩ := q; z
  rw [hks]
  exact runS (us := []) (Fk.mono hj) B.gd B.hr hd (hb s1 [] ws I1.kIn rfl hn) B.hx I1 r (SpT.pick q ht C.len (by simpa using C.low))
def cApp (cs ck : List Sl → G (List T)) : List Sl → G (List T) := fun r => cs r >>= fun a => ck r >>= fun b => .ret (a ++ b)
/-- f(e, .., k = e, ..) -/
theorem ce_fnPK (B : Bd X k E) (C : CallS X.prog X.w X.K X.mg X.base j x n ks perm dts m F) (ha : CA X w E (e :: es) cs) (hk2 : CK X w E kws ck) (hl : Len cs n) (hl2 : Len ck ks.length) (hj : j ≤ k := by decide) (hg : Gl X x := by rfl)
    (hall : (backToKw pos (keywordEach kws X.env)).all (·.1.isSome) = true := by rfl) (hks : (backToKw pos (keywordEach kws X.env)).filterMap (·.1) = ks := by rfl) (hdb : (x == ("__debug__" : Str)) = false := by decide)
    (he : starEach (e :: es) X.env = (false, eval e X.env) :: starEach es X.env := by rfl)
    (hpl : ((backTo pos (starEach (e :: es) X.env)).any (·.1) || (backToKw pos (keywordEach kws X.env)).any (·.1.isNone)) = false := by rfl) : CE X w E (.Call (.Name x p) (e :: es) kws pos) (cCall (fun ts => F (pickL perm (ts ++ dts))) (cApp cs ck)) := by
  obtain ⟨f, fd, ps, dvs, ds, hm, hk, hd, ht, hp, hb, Fk⟩ := C.ex
  refine ⟨⟨fun pins s σ H Q I h => ?_⟩⟩
  refine wpAny_Call_Name_kw (ld_glob I hg hm ?_ hdb)
  have hev : EvA X.km w E cs σ H fun vs H1 => vs.length = n ∧ EvA X.km w E ck σ H1 fun zs H2 => zs.length = ks.length ∧ SpT X.K X.mg m F (pickL perm (vs ++ zs ++ dvs)) H2 Q E := by
    obtain ⟨H0, Z0, r, Z, o, R, h⟩ := h
    have h' : (cs r >>= fun a => if a.length = n then (ck r >>= fun b => if b.length = ks.length then F (pickL perm (a ++ b ++ dts)) else .stuck) else .stuck).wp (Post X.km w H Z Q) (PostX X.km w E H0 Z0) := by
      have h1 : ((cs r >>= fun a => ck r >>= fun b => G.ret (a ++ b)) >>= fun ts => F (pickL perm (ts ++ dts))).wp (Post X.km w H Z Q) (PostX X.km w E H0 Z0) := h
      rw [G.bind_assoc] at h1
      refine G.wp_bind.mpr (G.wp_mono (hl r _ _ (G.wp_bind.mp h1)) (fun a q => ?_) fun _ x => x)
      rw [if_pos q.1]
      have h2 := q.2
      rw [G.bind_assoc] at h2
      refine G.wp_bind.mpr (G.wp_mono (hl2 r _ _ (G.wp_bind.mp h2)) (fun b q2 => ?_) fun _ x => x)
      rw [if_pos q2.1]
      exact q2.2
    refine evSeqA (P := fun H Z => Post X.km w H Z Q) R (fun g => Post.weak g) h' fun xs H1 Z1 ts R1 g1 t1 h1 => ?_
    by_cases e1 : ts.length = n
    · rw [if_pos e1] at h1
      refine ⟨by rw [← t1.length, e1], evSeqA (P := fun H Z => Post X.km w H Z Q) R1 (fun g => Post.weak g) h1 fun ys H2 Z2 us R2 g2 t2 h2 => ?_⟩
      by_cases e2 : us.length = ks.length
      · rw [if_pos e2] at h2
        have hlow : ∀ i ∈ perm, i < n + ks.length + dts.length := C.low
        refine ⟨by rw [← t2.length, e2], w, pickL perm (ts ++ us ++ dts), Z2, ?_, R2.good, pick_trs (((t1.mono g2.zz).append t2).append (ht w Z2)) perm, G.wp_mono h2 (fun t ht v H' Z' g tr => ht v H' Z' g tr) fun ex hx cls d H' Z' g q => hx cls d H' Z' (R2.gr.trans g) q⟩
        rw [pickL_length, C.len]
        intro i hi
        have := hlow i hi
        rw [List.length_append, List.length_append, ← t1.length, ← t2.length, ← (ht w Z2).length, e1, e2]
        exact this
      · rw [if_neg e2] at h2; exact h2.elim
    · rw [if_neg e1] at h1; exact h1.elim
  refine PySem.W.callWith_KW (h₀ := X.base) I.ok.mod.kin hk hall (thn (ha.pa.run pos pins s σ H _ I hev) fun us s1 ⟨vs, H1, I1, r, hn, q⟩ => ?_) hpl he
  refine thn (hk2.pk.run pos pins s1 σ H1 _ I1 q) fun ws s2 ⟨zs, H2, I2, rz, hn2, q2⟩ => ⟨I2.kIn, ?_⟩
  rw [hks]
  exact runS (us := us) (vs := vs ++ zs) (Fk.mono hj) B.gd B.hr hd (hb s2 us ws I2.kIn (by rw [← r.length, hn]) (by rw [← rz.length, hn2])) B.hx I2 (r.append rz) q2
end
end TL
end s_TL52
section s_TL53
set_option Elab.async false
set_option linter.all false
set_option maxRecDepth 100000
set_option maxHeartbeats 4000000
/-! TL53: from a def's body to CallS -/
namespace TL
open PySem PySem.Spec PyProof.Rows L2
/-- a def as it stands, whatever its defaults -/
def FunA (K : PySem.W.Frag) (x qual : Str) (st : Stmt) (f : Addr) (fd : FuncData) : Prop := ∃ (oc : Value) (od : Option Addr) (dV kV doc pm : Value) (an : Option Addr) (cdv ct : Value) (osl : Array (Option Value)),
  fd = PySem.W.fnOf x qual (defArgs st) (defBody st) (defScope st) dV kV doc pm an cdv ct ∧ K.lookup f = some ⟨oc, od, .func fd, osl⟩ ∧ PySem.W.codeIn K cdv qual = true
section
variable {P : Program} {wd : World} {K : PySem.W.Frag} {mg : Str → Option Value} {base : Heap} {k : Nat} {f : Addr} {fd : FuncData} {ps N : List Str} {x qual : Str} {st : Stmt} {sp : Sp} {c : SC}
theorem fnG_ofA (F : FunA K x qual st f fd) (S : FnScope N ps (defScope st)) (len : ∀ vs H Q E, sp vs H Q E → vs.length = ps.length)
    (body : ∀ (cdv : Value) (A : Around) (outer : List Env) (s : Shared) (H : Hp) (vs : List V) (Q : VK) (E : XK), A.guards = some [] → Room k (A.deeper (envOfC qual (defScope st) s.heap.objs.size f cdv)) → sp vs H Q E →
      ∃ t, PSs (cxOf (L2.CX P wd) P wd K mg base N qual (defScope st) f cdv A outer s H E) (defBody st) t ∧ t { nx := fun _ H' => Q .non H', rt := Q } (start N vs) H) : FnG P wd K mg base (k + 1) f fd ps sp := by
  obtain ⟨oc, od, dV, kV, doc, pm, an, cdv, ct, osl, rfl, lk, hcd⟩ := F
  refine ⟨len, fun A outer s H args us vs Q E gd hr e0 hb rv hsp => ?_⟩
  have hKs : K.In s.heap := e0.mod.kin.keeps fun b o e => (e0.bs b o e).1
  have nolim : s.heap.NoLimit := e0.mod.nolimit.keeps fun b o e => (e0.bs b o e).1
  have kinds : ∀ y ∈ ps.zip us, (defScope st).names.lookup y.1 = some .local ∨ ((defScope st).names.lookup y.1 = some .cell ∧ ((cellsFrom (s.heap.objs.size + 1) (defScope st).names []).lookup y.1).isSome = true) := by
    rintro ⟨n, v⟩ hy
    rcases S.par n (List.of_mem_zip hy).1 with q | q
    · exact Or.inl q
    · exact Or.inr ⟨q, PySem.W.cellsFrom_some _ _ _ (Or.inl q)⟩
  refine codeAny_call_function hr.depth (hKs _ _ lk) rfl S.co S.gen rfl (PySem.W.codeRec_of hKs hcd) (hb _ _ _ _ ?_)
  refine wpAny_newFunctionEnv_cells S.kind kinds fun env he s1 ic => ?_
  subst he
  refine ⟨nolim.keeps ic.toInCall.keep, codeAny_func ?_⟩
  obtain ⟨t, ht, hq⟩ := body cdv A outer s H vs Q E gd (hr.deeper _) hsp
  have J : Inv (cxOf (L2.CX P wd) P wd K mg base N qual (defScope st) f cdv A outer s H E) [] (start N vs) H s1 := inv_start S hr.hd e0 (len _ _ _ _ hsp) rv ic
  refine wpAny_mono (ht.run [] s1 (start N vs) H _ J hq) (fun fl s' hs => ?_) (fun _ _ h => h)
  cases fl with
  | next => exact let ⟨_, H', J', q⟩ := hs; ⟨V.non, H', J'.os, J'.bare, J'.base, J'.hok, rfl, q⟩
  | brk => exact let ⟨_, _, _, q⟩ := hs; q.elim
  | cont => exact let ⟨_, _, _, q⟩ := hs; q.elim
  | ret u => exact let ⟨v, _, H', J', rr, q⟩ := hs; ⟨v, H', J'.os, J'.bare, J'.base, J'.hok, rr, q⟩
theorem fnTA (F : FunA K x qual st f fd) (S : FnScope N ps (defScope st))
    (body : ∀ (w : Wd) (cdv : Value) (A : Around) (outer : List Env) (s : Shared) (H : Hp) (E : XK), (A.deeper (envOfC qual (defScope st) s.heap.objs.size f cdv)).guards = some [] → Room k (A.deeper (envOfC qual (defScope st) s.heap.objs.size f cdv)) →
      Passes (L2.CX P wd) (cxOf (L2.CX P wd) P wd K mg base N qual (defScope st) f cdv A outer s H E) E →
      CSs (cxOf (L2.CX P wd) P wd K mg base N qual (defScope st) f cdv A outer s H E) w E false (defBody st) c) : FnG P wd K mg base (k + 1) f fd ps (SpT K mg ps.length (runB c N.length)) := by
  have hpl : ps.length ≤ N.length := by have := congrArg List.length S.pre; rw [List.length_take] at this; omega
  refine fnG_ofA F S (fun vs H Q E h => let ⟨_, _, _, h, _⟩ := h; h) fun cdv A outer s H vs Q E gd hr h => ?_
  obtain ⟨w, ts, Z, hl, g, tr, hw⟩ := h
  refine ⟨_, (body w cdv A outer s H E gd hr (passes_call (takes_of rfl rfl rfl rfl) fun _ _ _ _ q => q)).ps, ?_⟩
  refine ⟨H, Z, _, Z, fun _ => [], env_start g tr (by omega), G.wp_mono (G.wp_bind.mp hw) (fun kk hk => ?_) fun ex hx cls d H' Z' gg q => hx cls d H' Z' gg q⟩
  cases kk with
  | nx r => exact fun σ' H' Z' o' R' s' => hk _ H' Z' R'.gr .non
  | bk r => exact hk.elim
  | ct r => exact hk.elim
  | rt t =>
    have goal : PostR ⟨K, mg⟩ w false H Z t Q := fun v H' Z' gg tt => hk v H' Z' gg tt
    exact goal
/-- a def that stands and binds: n positional values, keywords ks, the defaults dts behind them, put in order by perm -/
structure FunAtS (K : PySem.W.Frag) (mg : Str → Option Value) (x qual : Str) (st : Stmt) (ps : List Str) (n : Nat) (ks : List Str) (perm : List Nat) (dts : List T) : Prop where
  ex : ∃ f fd dvs ds, mg x = some (.ref f) ∧ PySem.W.keepIn K (.ref f) = true ∧ FunA K x qual st f fd ∧ Vals dvs ds ∧ (∀ (w : Wd) Z, Trs K mg w Z dts dvs) ∧
    ∀ (s : Shared) (us ws : List Value), K.In s.heap → us.length = n → ws.length = ks.length → BindsTo s fd ⟨us, ks.zip ws⟩ (ps.zip (pickL perm (us ++ ws ++ ds)))
theorem fnS_at {n : Nat} {ks : List Str} {perm : List Nat} {dts : List T} (A : FunAtS K mg x qual st ps n ks perm dts) (S : FnScope N ps (defScope st)) (hp : perm.length = ps.length) (hl : ∀ i ∈ perm, i < n + ks.length + dts.length)
    (body : ∀ (f : Addr) (cdv : Value) (A : Around) (outer : List Env) (s : Shared) (H : Hp) (w : Wd) (E : XK), Bd (bx P wd K mg base N qual st f cdv A outer s H E) k E → CSs (bx P wd K mg base N qual st f cdv A outer s H E) w E false (defBody st) c) :
    CallS P wd K mg base (k + 1) x n ks perm dts ps.length (runB c N.length) := by
  obtain ⟨f, fd, dvs, ds, hm, hk, F, hd, ht, hb⟩ := A.ex
  exact ⟨⟨f, fd, ps, dvs, ds, hm, hk, hd, ht, rfl, hb, fnTA F S fun w cdv A outer s H E gd hr hx => body f cdv A outer s H w E ⟨gd, hr, hx, passes_of rfl⟩⟩, hp, hl⟩
end
section
variable {K : PySem.W.Frag} {h : Heap} {mg : Str → Option Value} {x qual : Str} {st : Stmt} {ps ks : List Str} {perm : List Nat} {dts : List T} {n : Nat} {f Td : Addr} {oc kV doc pm cdv ct : Value} {od an od2 : Option Addr} {osl sl2 : Array (Option Value)} {its : Array Value} {m : Nat}
/-- keywords, no defaults -/
def BindsS (x qual : Str) (st : Stmt) (ps : List Str) (n : Nat) (ks : List Str) (perm : List Nat) : Prop := ∀ (kV doc pm : Value) (an : Option Addr) (cdv ct : Value) (us ws : List Value), us.length = n → ws.length = ks.length →
  bindArgs (PySem.W.fnOf x qual (defArgs st) (defBody st) (defScope st) .none kV doc pm an cdv ct) ⟨us, ks.zip ws⟩ = pure (ps.zip (pickL perm (us ++ ws)))
theorem funAtS_mk (KX : K.In h) (G : h.Ns mainGlobals mg) (hb : BindsS x qual st ps n ks perm) (a : PySem.W.nsIn K mainGlobals x = some (some (.ref f)))
    (l : K.lookup f = some ⟨oc, od, .func (PySem.W.fnOf x qual (defArgs st) (defBody st) (defScope st) .none kV doc pm an cdv ct), osl⟩) (cd : PySem.W.codeIn K cdv qual = true) (k : PySem.W.keepIn K (.ref f) = true) : FunAtS K mg x qual st ps n ks perm [] :=
  ⟨f, _, [], [], PySem.W.mg_of KX G a, k, ⟨oc, od, .none, kV, doc, pm, an, cdv, ct, osl, rfl, l, cd⟩, .nil, fun _ _ => .nil, fun s us ws _ h1 h2 => by
    rw [List.append_nil]
    exact .of_eq (hb kV doc pm an cdv ct us ws h1 h2)⟩
/-- defaults -/
def BindsD (x qual : Str) (st : Stmt) (ps : List Str) (n : Nat) (ks : List Str) (perm : List Nat) (nd : Nat) : Prop := ∀ (T : Addr) (kV doc pm : Value) (an : Option Addr) (cdv ct : Value) (us ws its : List Value), us.length = n → ws.length = ks.length → its.length = nd →
  ∃ k, bindArgs (PySem.W.fnOf x qual (defArgs st) (defBody st) (defScope st) (.ref T) kV doc pm an cdv ct) ⟨us, ks.zip ws⟩ = seqItems? (.ref T) >>= k ∧ k (some its.toArray) = pure (ps.zip (pickL perm (us ++ ws ++ its)))
theorem funAtD_mk (KX : K.In h) (G : h.Ns mainGlobals mg) (hb : BindsD x qual st ps n ks perm dts.length) (a : PySem.W.nsIn K mainGlobals x = some (some (.ref f)))
    (l : K.lookup f = some ⟨oc, od, .func (PySem.W.fnOf x qual (defArgs st) (defBody st) (defScope st) (.ref Td) kV doc pm an cdv ct), osl⟩) (cd : PySem.W.codeIn K cdv qual = true) (k : PySem.W.keepIn K (.ref f) = true)
    (lT : K.lookup Td = some ⟨.type "tuple", od2, .seq its m, sl2⟩) (tr : TrKs K dts its.toList) : FunAtS K mg x qual st ps n ks perm dts := by
  obtain ⟨vs, h1, h2⟩ := tr.tr (mg := mg)
  refine ⟨f, _, vs, its.toList, PySem.W.mg_of KX G a, k, ⟨oc, od, .ref Td, kV, doc, pm, an, cdv, ct, osl, rfl, l, cd⟩, h1, h2, fun s us ws X l1 l2 => ?_⟩
  have ln : its.toList.length = dts.length := by
    rw [← h1.length, ← (h2 ⟨[], fun _ => True, fun _ _ _ h => h, fun _ _ a ha => (nomatch ha), fun a r e => (nomatch e), 0⟩ (fun _ => none)).length]
  obtain ⟨k', e1, e2⟩ := hb Td kV doc pm an cdv ct us ws its.toList l1 l2 ln
  refine BindsTo.of_looks fun M => ?_
  rw [e1]
  exact looks_items X lT rfl (.of_pure (by simpa using e2))
end
end TL
end s_TL53
section s_TL54
set_option Elab.async false
set_option linter.all false
set_option maxRecDepth 100000
set_option maxHeartbeats 4000000
/-! TL54: expressions that change a slot's own thing: l.pop(e), l.pop(); x = .., l.append(..) of such -/
namespace TL
open PySem PySem.Spec PyProof.Rows L2
abbrev MC := List Sl → G (T × List Sl)
section
variable (X : Km) (w : Wd) (E : XK)
def PostY (H0 Z0 Z : Hp) (σ : L2.St) (Q : VK) : T × List Sl → Prop := fun q => ∀ v H' Z' o', EnvR X.km w H0 Z0 q.2 σ H' Z' o' → Sub Z Z' → Tr X.K X.mg w Z' q.1 v → Q v H'
def EvY (c : MC) : TE := fun σ H Q => ∃ H0 Z0 r Z o, EnvR X.km w H0 Z0 r σ H Z o ∧ (c r).wp (PostY X.km w H0 Z0 Z σ Q) (PostX X.km w E H0 Z0)
end
structure CY (X : Cx) (w : Wd) (E : XK) (e : Expr) (c : MC) : Prop where
  pe : PE X e (EvY X.km w E c)
section
variable {X : Cx} {w : Wd} {E : XK} {fr : Bool} {H0 Z0 H Z Z1 : Hp} {r : List Sl} {σ : L2.St} {o : Nat → List Addr} {D : Ends} {pos apos cpos p0 : Pos} {e : Expr} {cs : List Sl → G (List T)} {ca : EC} {c : MC} {Q : VK}
theorem PostY.weak {q : T × List Sl} (s : Sub Z Z1) (h : PostY X.km w H0 Z0 Z σ Q q) : PostY X.km w H0 Z0 Z1 σ Q q := fun v H' Z' o' R s' t => h v H' Z' o' R (s.trans s') t
def popK (ts : List T) (r : List Sl) (i : Nat) : List T → G (T × List Sl)
  | [.int j] => (match ixN ts.length j with
    | some m => (match ts[m]? with | some t => .ret (t, r.set i (.ow (.lst (ts.eraseIdx m)))) | none => .stuck)
    | none => .stuck)
  | _ => .stuck
def cPopAt (i : Nat) (cs : List Sl → G (List T)) : MC := fun r => match r[i]? with
  | some (.ow (.lst ts)) => cs r >>= popK ts r i
  | _ => .stuck
theorem cy_popAt {x : Str} (i : Nat) (ha : CA X w E [e] cs) (hN : X.N[i]? = some x := by rfl) (hv : Vis X.env.scope x := by first | exact Or.inl rfl | exact Or.inr (Or.inl rfl) | exact Or.inr (Or.inr rfl)) (hd : (x == ("__debug__" : Str)) = false := by decide)
    (hcd : (x == ("__classdict__" : Str)) = false := by decide)
    (hbase : attributeBase (.Name x p0) "pop" X.env (eval (.Name x p0) X.env) = eval (.Name x p0) X.env := by rfl)
    (hfew : ((backTo cpos (starEach [e] X.env)).all (fun x => !x.1) && (backToKw cpos (keywordEach [] X.env)).all (fun x => x.1.isSome)
      && decide (([e] : List Expr).length + ([] : List Keyword).length + (if ([] : List Keyword).isEmpty then 0 else 1) < 30)) = true := by rfl)
    (hline : (apos.endLine == cpos.line) = true := by rfl) (hs : starEach [e] X.env = (false, eval e X.env) :: starEach [] X.env := by rfl) (hplain : (backTo cpos (starEach [] X.env)).any (·.1) = false := by rfl) :
    CY X w E (.Call (.Attribute (.Name x p0) "pop" apos) [e] [] cpos) (cPopAt i cs) := by
  refine ⟨peImp (pe_bm F.plainAttrs_list F.slot_list_pop F.type_list_pop mt_popAt (pe_var hN hv hd hcd) ha.pa hbase hfew hline hs hplain) fun σ H Q h => ?_⟩
  obtain ⟨H0, Z0, r, Z, o, R, h⟩ := h
  unfold cPopAt at h
  split at h
  · rename_i ts er
    obtain ⟨p, es, rt⟩ := R.own er
    refine ⟨.ref p, es, rt.ty rfl, ?_⟩
    refine evSeqA (P := fun H Z => PostY X.km w H0 Z0 Z σ Q) R (fun g q => PostY.weak g.zz q) h fun xs H1 Z1 ks R1 g1 t1 h1 => ?_
    obtain ⟨p1, es1, rt1⟩ := R1.own er
    rw [es] at es1
    cases es1
    unfold popK at h1
    split at h1
    · rename_i j
      obtain ⟨kv, rfl, tk⟩ := trs1 t1
      cases tk
      cases ej : ixN ts.length j with
      | none => rw [ej] at h1; exact h1.elim
      | some m =>
        rw [ej] at h1
        simp only at h1
        cases et : ts[m]? with
        | none => rw [et] at h1; exact h1.elim
        | some t =>
          rw [et] at h1
          have rt2 := rt1
          obtain ⟨oe, vs, hp, hl, tr⟩ := rt1
          obtain ⟨v, hv2, tv⟩ := tr.get et
          obtain ⟨q1, q2, q3, q4⟩ := ixN_seq ej
          have hs2 : sizeLine = 16777216 := by rw [sizeLine_eq]
          have hlen := tr.length
          refine ⟨p, vs, j, m, v, rfl, rfl, hp, by omega, by omega, by rw [← hlen]; exact q1, hv2, ?_⟩
          refine h1 v _ Z1 o (R1.rew er es rt2.mem ⟨oe, vs.eraseIdx m, upd_same, ?_, tr.eraseIdx m⟩) (Sub.refl _) tv
          exact Nat.le_trans (by rw [List.length_eraseIdx]; split <;> omega) hl
    · exact h1.elim
  · exact h.elim
def cPopL (i : Nat) : MC := fun r => match r[i]? with
  | some (.ow (.lst ts)) => (match ts[ts.length - 1]? with | some t => .ret (t, r.set i (.ow (.lst ts.dropLast))) | none => .stuck)
  | _ => .stuck
theorem cy_popL {x : Str} (i : Nat) (hN : X.N[i]? = some x := by rfl) (hv : Vis X.env.scope x := by first | exact Or.inl rfl | exact Or.inr (Or.inl rfl) | exact Or.inr (Or.inr rfl)) (hd : (x == ("__debug__" : Str)) = false := by decide)
    (hcd : (x == ("__classdict__" : Str)) = false := by decide)
    (hbase : attributeBase (.Name x p0) "pop" X.env (eval (.Name x p0) X.env) = eval (.Name x p0) X.env := by rfl) (hline : (apos.endLine == cpos.line) = true := by rfl) :
    CY X w E (.Call (.Attribute (.Name x p0) "pop" apos) [] [] cpos) (cPopL i) := by
  refine ⟨peImp (pe_bm0 F.plainAttrs_list F.slot_list_pop F.type_list_pop mt_pop (pe_var hN hv hd hcd) hbase hline) fun σ H Q h => ?_⟩
  obtain ⟨H0, Z0, r, Z, o, R, h⟩ := h
  unfold cPopL at h
  split at h
  · rename_i ts er
    obtain ⟨p, es, rt⟩ := R.own er
    refine ⟨.ref p, es, rt.ty rfl, ?_⟩
    have rt0 := rt
    obtain ⟨oe, vs, hp, hl, tr⟩ := rt
    cases et : ts[ts.length - 1]? with
    | none => rw [et] at h; exact h.elim
    | some t =>
      rw [et] at h
      obtain ⟨v, hv2, tv⟩ := tr.get et
      refine ⟨p, vs, v, rfl, rfl, hp, by rw [← tr.length]; exact hv2, ?_⟩
      refine h v _ Z o (R.rew er es rt0.mem ⟨oe, vs.dropLast, upd_same, ?_, tr.dropLast⟩) (Sub.refl _) tv
      rw [List.length_dropLast]; omega
  · exact h.elim
/-- x = e, e such an expression -/
def cSetY (i : Nat) (c : MC) : SC := fun r => c r >>= fun q => .ret (.nx (q.2.set i (.fz q.1)))
theorem cs_setY (i : Nat) {x : Str} {p' : Pos} (hN : X.N.Nodup) (he : CY X w E e c) (hi : X.N[i]? = some x := by rfl) (hx : Loc X.env.scope x := by first | exact Or.inl rfl | exact Or.inr rfl)
    (hs : swapsWith e (some (.Name x p')) pos.line X.env = pure false := by rfl) (hf : X.fn x = true ∨ X.env.scope.names.lookup x = some .local := by first | exact .inl rfl | exact .inr rfl | assumption) : CS X w E fr (.Assign [.Name x p'] e pos) (cSetY i c) := by
  refine ⟨psImp (ps_set hN hi hx he.pe hs hf) fun D σ H h => ?_⟩
  obtain ⟨H0, Z0, r, Z, o, R, h⟩ := h
  refine ⟨H0, Z0, r, Z, o, R, G.wp_mono (G.wp_bind.mp h) (fun q hq v H1 Z1 o1 R1 s1 t1 => ?_) fun _ x => x⟩
  exact hq _ H1 Z1 _ (R1.setF i t1) s1
/-- l.append(e), e such an expression -/
def cAppY (i : Nat) (c : MC) : SC := fun r => match r[i]? with
  | some (.ow (.lst _)) => c r >>= fun q => (match q.2[i]? with
    | some (.ow (.lst ts)) => if fits (ts.length + 1) then .ret (.nx (q.2.set i (.ow (.lst (ts ++ [q.1]))))) else .stuck
    | _ => .stuck)
  | _ => .stuck
theorem cs_appY {x : Str} (i : Nat) (he : CY X w E e c) (hN : X.N[i]? = some x := by rfl) (hv : Vis X.env.scope x := by first | exact Or.inl rfl | exact Or.inr (Or.inl rfl) | exact Or.inr (Or.inr rfl)) (hd : (x == ("__debug__" : Str)) = false := by decide)
    (hcd : (x == ("__classdict__" : Str)) = false := by decide)
    (hbase : attributeBase (.Name x p0) "append" X.env (eval (.Name x p0) X.env) = eval (.Name x p0) X.env := by rfl)
    (hfew : ((backTo cpos (starEach [e] X.env)).all (fun x => !x.1) && (backToKw cpos (keywordEach [] X.env)).all (fun x => x.1.isSome)
      && decide (([e] : List Expr).length + ([] : List Keyword).length + (if ([] : List Keyword).isEmpty then 0 else 1) < 30)) = true := by rfl)
    (hline : (apos.endLine == cpos.line) = true := by rfl) (hs : starEach [e] X.env = (false, eval e X.env) :: starEach [] X.env := by rfl) (hplain : (backTo cpos (starEach [] X.env)).any (·.1) = false := by rfl)
    (hsw : swapsWith (.Call (.Attribute (.Name x p0) "append" apos) [e] [] cpos) none pos.line X.env = pure false := by rfl) :
    CS X w E fr (.Expr (.Call (.Attribute (.Name x p0) "append" apos) [e] [] cpos) pos) (cAppY i c) := by
  refine ⟨psImp (ps_expr (pe_bm F.plainAttrs_list F.slot_list_append F.type_list_append mt_append (pe_var hN hv hd hcd) (pa_cons he.pe pa_nil hs) hbase hfew hline hs hplain) hsw) fun D σ H h => ?_⟩
  obtain ⟨H0, Z0, r, Z, o, R, h⟩ := h
  unfold cAppY at h
  split at h
  · rename_i ts0 er
    obtain ⟨p, es, rt⟩ := R.own er
    refine ⟨.ref p, es, rt.ty rfl, ?_⟩
    refine ⟨H0, Z0, r, Z, o, R, G.wp_mono (G.wp_bind.mp h) (fun q hq v H1 Z1 o1 R1 s1 t1 => ?_) fun _ x => x⟩
    split at hq
    · rename_i ts er1
      split at hq
      · rename_i hf
        obtain ⟨p1, es1, rt1⟩ := R1.own er1
        rw [es] at es1
        cases es1
        have rt2 := rt1
        obtain ⟨oe, vs, hp, hl, tr⟩ := rt1
        have hz := fits_line hf
        rw [tr.length] at hz
        refine ⟨p, vs, v, rfl, rfl, hp, by omega, ?_⟩
        refine hq _ _ Z1 o1 (R1.rew er1 es rt2.mem ⟨oe, vs ++ [v], upd_same, ?_, tr.append (.cons t1 .nil)⟩) s1
        rw [List.length_append, List.length_singleton]; omega
      · exact hq.elim
    · exact hq.elim
  · exact h.elim
end
end TL
end s_TL54
section s_TL55
set_option Elab.async false
set_option linter.all false
set_option maxRecDepth 100000
set_option maxHeartbeats 4000000
/-! TL55: dict comprehensions, sep.join(xs) -/
namespace TL
open PySem PySem.Spec PyProof.Rows L2
def dcompG (g : GC) (tt : List Sl → G Bool) (tk tv : EC) : List T → List Sl → List (T × T) → G (List (T × T))
  | [], _, acc => .ret acc
  | t :: ts, r, acc => (g t r).nox >>= fun r1 => (tt r1).nox >>= fun b => if b then ((tk r1).nox >>= fun k => (tv r1).nox >>= fun v => if (keyT k).isSome then dcompG g tt tk tv ts r (putT acc k v) else .stuck) else dcompG g tt tk tv ts r acc
def cDComp (ci : List Sl → G (List T)) (g : GC) (tt : List Sl → G Bool) (tk tv : EC) (vs : List Nat) : EC := fun r => ci r >>= fun ts => dcompG g tt tk tv ts (wipeR r vs) [] >>= fun kts => .ret (.dic kts)
section
variable {X : Cx} {w : Wd} {E : XK} {fr : Bool} {tg iter kx vx : Expr} {ifs : List Expr} {pos : Pos} {tk tv : EC} {ci : List Sl → G (List T)} {g : GC} {S : List Nat} {tt : List Sl → G Bool}
variable {H0 Z0 H Z Z1 : Hp} {r : List Sl} {σ σ' : L2.St} {o : Nat → List Addr}
theorem dcomp_core {vs : List Nat} {Q : VK} (R : EnvR X.km w H0 Z0 r σ H Z o) (hS : ∀ j ∈ S, j ∈ vs)
    (h : (cDComp ci g tt tk tv vs r).wp (PostF X.km w H Z Q) (PostX X.km w E H0 Z0)) :
    tDc (EvI X.km w E ci) (EvG X.km w (fun _ _ _ => False) S g) (EvT X.km w (fun _ _ _ => False) tt) (EvE X.km w (fun _ _ _ => False) tk) (EvE X.km w (fun _ _ _ => False) tv) vs σ H Q := by
  refine ⟨H0, Z0, r, Z, o, R, G.wp_mono (G.wp_bind.mp h) (fun ts ht J H1 Z1 g1 hz iok D hD => ?_) fun _ x => x⟩
  have R1 := R.grow g1
  obtain ⟨oi, Ri⟩ := R1.wipe vs
  have hDz : Z1 D = none := R1.good.tracked hD
  have hDw : D ∉ w.W := fun hm => R1.good.nw hD D hm rfl
  have hD0 : H0 D = none := by
    cases e : H0 D with
    | none => rfl
    | some u => have z := R1.gr.hh D u e hDw; rw [hD] at z; cases z
  have hDo : ∀ i, D ∉ oi i := fun i hm => Ri.tr i D hm hD
  refine ⟨fun i m H => m = ts.length - i ∧ i ≤ ts.length ∧ ∃ Z2 acc vacc, EnvR X.km w H0 Z0 (wipeR r vs) (L2.wipe σ vs) H Z2 oi ∧ Grow w H1 Z1 H Z2 ∧ H D = some (.dK vacc) ∧ Z2 D = none ∧ vacc.length ≤ i ∧ Trd X.K X.mg w Z2 acc vacc ∧
      (dcompG g tt tk tv (ts.drop i) (wipeR r vs) acc >>= fun kts => G.ret (T.dic kts)).wp (PostF X.km w H1 Z1 Q) (PostX X.km w E H0 Z0),
    ⟨ts.length, by simp, Nat.zero_le _, Z1, [], [], Ri.beside hD0 hDz hDw hDo, Grow.beside (Grow.refl R1.good) hD hDz hDw, upd_same, hDz, Nat.zero_le _, .nil, G.wp_mono ht (fun t q => PostF.weak g1 q) fun _ x => x⟩, ?_⟩
  rintro i m H2 ⟨rfl, hi, Z2, acc, vacc, R2, g2, hD2, hDz2, hl2, tr2, h2⟩
  obtain ⟨go, stop⟩ := iok i H2 Z2 g2.zz R2.good
  by_cases hlt : i < ts.length
  · obtain ⟨hgo, yld⟩ := go _ (List.getElem?_eq_getElem hlt)
    rw [List.drop_eq_getElem_cons hlt] at h2
    refine .inr ⟨hgo, fun H' => ∃ Z2 acc vacc, EnvR X.km w H0 Z0 (wipeR r vs) (L2.wipe σ vs) H' Z2 oi ∧ Grow w H1 Z1 H' Z2 ∧ H' D = some (.dK vacc) ∧ Z2 D = none ∧ vacc.length ≤ i + 1 ∧ Trd X.K X.mg w Z2 acc vacc ∧
      (dcompG g tt tk tv (ts.drop (i + 1)) (wipeR r vs) acc >>= fun kts => G.ret (T.dic kts)).wp (PostF X.km w H1 Z1 Q) (PostX X.km w E H0 Z0), fun H' n => ⟨ts.length - (i + 1), by omega, rfl, hlt, n⟩, fun x H3 y => ?_⟩
    obtain ⟨Z3, g3, t3⟩ := yld x H3 y
    have R3 := R2.grow g3
    have h3 := G.wp_nox (E' := PostX X.km w (fun _ _ _ => False) H0 Z0) (G.wp_bind.mp (G.wp_bind.mp h2))
    refine ⟨H0, Z0, _, Z3, oi, _, R3, t3, G.wp_mono h3 (fun r4 h4 σ4 H4 Z4 o4 R4 g4 off => ⟨wipe_off off hS, ?_⟩) fun _ x => x⟩
    have h5 := G.wp_nox (E' := PostX X.km w (fun _ _ _ => False) H0 Z0) (G.wp_bind.mp h4)
    refine ⟨H0, Z0, r4, Z4, o4, R4, G.wp_mono h5 (fun b hb H5 Z5 g5 => ?_) fun _ x => x⟩
    have g25 : Grow w H2 Z2 H5 Z5 := (g3.trans g4).trans g5
    cases b with
    | false =>
      refine iteF ⟨Z5, acc, vacc, R2.grow g25, g2.trans g25, g25.hh D _ hD2 hDw, g25.free hDz2 (by rw [hD2]; simp), by omega, tr2.mono g25.zz, G.wp_bind.mpr hb⟩
    | true =>
      refine iteT ?_
      have h6 := G.wp_nox (E' := PostX X.km w (fun _ _ _ => False) H0 Z0) (G.wp_bind.mp hb)
      refine ⟨H0, Z0, r4, Z5, o4, R4.grow g5, G.wp_mono h6 (fun tky hky vky H6 Z6 g6 t6 => ?_) fun _ x => x⟩
      have h7 := G.wp_nox (E' := PostX X.km w (fun _ _ _ => False) H0 Z0) (G.wp_bind.mp hky)
      refine ⟨H0, Z0, r4, Z6, o4, (R4.grow g5).grow g6, G.wp_mono h7 (fun tvy hvy vvy H7 Z7 g7 t7 => ?_) fun _ x => x⟩
      have g27 : Grow w H2 Z2 H7 Z7 := (g25.trans g6).trans g7
      have hD7 : H7 D = some (.dK vacc) := g27.hh D _ hD2 hDw
      have hDz7 : Z7 D = none := g27.free hDz2 (by rw [hD2]; simp)
      cases ek : keyT tky with
      | none => rw [ek] at hvy; exact hvy.elim
      | some key =>
        rw [ek] at hvy
        have hlp := length_putK vacc key vvy
        refine ⟨vacc, key, t6.key ek, hD7, by omega, Z7, putT acc tky tvy, putK vacc key vvy, (R2.grow g27).beside hD0 hDz7 hDw hDo, (g2.trans g27).beside hD hDz7 hDw, upd_same, hDz7, by omega, (tr2.mono g27.zz).put ek t7, G.wp_bind.mpr hvy⟩
  · have e : i = ts.length := by omega
    subst e
    rw [List.drop_length] at h2
    refine .inl ⟨stop rfl, ?_⟩
    have h3 : PostF X.km w H1 Z1 Q (T.dic acc) := h2
    refine h3 D [D] H2 Z2 g2 ⟨rfl, vacc, hD2, Nat.le_trans hl2 hz, tr2⟩ fun a ha => ?_
    simp at ha; subst ha
    exact ⟨hD, hDz2, hDw⟩
theorem cf_dcomp {scope : Scope} {own : List (Str × Nat)} (hN : X.N.Nodup) (hi : CI X w E tg iter ci) (ok : BlkOk X.N X.env.scope scope own)
    (hg : ∀ (s : Shared) (H : Hp) (C : Addr) (cl : List (Str × Addr)) (fp : List Addr), CG (X.blk s H scope (compEnvC scope cl C X.env) fp) w (fun _ _ _ => False) tg S g) (ht : ∀ (s : Shared) (H : Hp) (C : Addr) (cl : List (Str × Addr)) (fp : List Addr), CTs (X.blk s H scope (compEnvC scope cl C X.env) fp) w (fun _ _ _ => False) ifs tt)
    (hk : ∀ (s : Shared) (H : Hp) (C : Addr) (cl : List (Str × Addr)) (fp : List Addr), CE (X.blk s H scope (compEnvC scope cl C X.env) fp) w (fun _ _ _ => False) kx tk)
    (he : ∀ (s : Shared) (H : Hp) (C : Addr) (cl : List (Str × Addr)) (fp : List Addr), CE (X.blk s H scope (compEnvC scope cl C X.env) fp) w (fun _ _ _ => False) vx tv) (hc : X.calm = true := by rfl) (hs : ∀ x, foldedSetIterable iter X.env x = pure x := by intro _; rfl)
    (hS : ∀ j ∈ S, j ∈ own.map (·.2) := by decide) : CF X w E (.DictComp kx vx [⟨tg, iter, ifs, 0⟩] scope pos) (cDComp ci g tt tk tv (own.map (·.2))) :=
  ⟨peImp (pe_dc hc hN hi.pi ok (fun s H C cl fp => (hg s H C cl fp).pg) (fun s H C cl fp => (ht s H C cl fp).pt) (fun s H C cl fp => (hk s H C cl fp).pe) (fun s H C cl fp => (he s H C cl fp).pe) hs) fun σ H Q ⟨H0, Z0, r, Z, o, R, h⟩ => dcomp_core R hS h⟩
end
end TL
end s_TL55
section s_TL56
set_option Elab.async false
set_option linter.all false
set_option maxRecDepth 100000
set_option maxHeartbeats 4000000
/-! TL56: sep.join(xs) -/
namespace TL
open PySem PySem.Spec PyProof.Rows L2
def strsT : List T → Option (List Str)
  | [] => some []
  | .str x :: ts => (strsT ts).map (x :: ·)
  | _ :: _ => none
def joinK (a : Str) (ts : List T) : G T := match strsT ts with
  | some ys => if decide ((ys.map (·.length)).sum + ys.length * a.length ≤ 16777216) then .ret (.str (Txt.join a ys)) else .stuck
  | none => .stuck
def fJoin : T → T → G T
  | .str a, .lst ts => joinK a ts
  | .str a, .tup ts => joinK a ts
  | _, _ => .stuck
def cJoin (co ca : EC) : EC := fun r => co r >>= fun a => match a with
  | .str x => ca r >>= fun b => fJoin (.str x) b
  | _ => .stuck
section
variable {X : Cx} {w : Wd} {E : XK} {o e : Expr} {apos pos : Pos} {ca co : EC} {K : PySem.W.Frag} {mg : Str → Option Value} {Z : Hp}
theorem trs_strsT : ∀ {ts : List T} {vs : List V} {ys : List Str}, Trs K mg w Z ts vs → strsT ts = some ys → vs = ys.map V.str
  | _, _, ys, .nil, e => by simp only [strsT, Option.some.injEq] at e; subst e; rfl
  | _, _, ys, .cons (t := t) a b, e => by
    cases a with
    | str x =>
      simp only [strsT, Option.map_eq_some_iff] at e
      obtain ⟨zs, e1, rfl⟩ := e
      rw [trs_strsT b e1]
      rfl
    | _ => simp [strsT] at e
theorem ce_join (ho : CE X w E o co) (he : CE X w E e ca) (hs : starEach [e] X.env = [(false, eval e X.env)] := by rfl) (hbase : attributeBase o "join" X.env (eval o X.env) = eval o X.env := by rfl) (hline : (apos.endLine == pos.line) = true := by rfl) :
    CE X w E (.Call (.Attribute o "join" apos) [e] [] pos) (cJoin co ca) := by
  refine ⟨peImp (pe_join ho.pe he.pe hs hbase hline) fun σ H Q h => ?_⟩
  obtain ⟨H0, Z0, r, Z, oo, R, h⟩ := h
  refine evSeq (P := fun H Z => Post X.km w H Z Q) (PX := fun _ => True) R (fun g => Post.weak g) h fun x H1 Z1 a R1 g1 t1 h1 => ?_
  cases t1 with
  | str a' =>
    refine ⟨⟨a', rfl⟩, ?_⟩
    refine evSeq (P := fun H Z => Post X.km w H Z Q) (PX := fun _ => True) R1 (fun g => Post.weak g) h1 fun y H2 Z2 b R2 g2 t2 h2 => ?_
    cases t2 with
    | @lst ts p vs hq l tr =>
      have h3 : (joinK a' ts).wp (Post X.km w H2 Z2 Q) (PostX X.km w E H0 Z0) := h2
      unfold joinK at h3
      cases es : strsT ts with
      | none => rw [es] at h3; exact h3.elim
      | some ys =>
        rw [es] at h3
        by_cases hz : (ys.map (·.length)).sum + ys.length * a'.length ≤ 16777216
        · simp only [hz, decide_true, if_true] at h3
          have ev := trs_strsT tr es
          subst ev
          exact ⟨a', p, ys, rfl, rfl, .inl (SqL.of (R2.good.zh _ _ hq)), hz, h3 _ H2 Z2 (Grow.refl R2.good) (.str _)⟩
        · simp only [hz, decide_false] at h3
          exact h3.elim
    | @tup ts p vs hq l tr =>
      have h3 : (joinK a' ts).wp (Post X.km w H2 Z2 Q) (PostX X.km w E H0 Z0) := h2
      unfold joinK at h3
      cases es : strsT ts with
      | none => rw [es] at h3; exact h3.elim
      | some ys =>
        rw [es] at h3
        by_cases hz : (ys.map (·.length)).sum + ys.length * a'.length ≤ 16777216
        · simp only [hz, decide_true, if_true] at h3
          have ev := trs_strsT tr es
          subst ev
          exact ⟨a', p, ys, rfl, rfl, .inr (R2.good.sqT hq), hz, h3 _ H2 Z2 (Grow.refl R2.good) (.str _)⟩
        · simp only [hz, decide_false] at h3
          exact h3.elim
    | _ => exact h2.elim
  | _ => exact h1.elim
end
end TL
end s_TL56
section s_TL57
set_option Elab.async false
set_option linter.all false
set_option maxRecDepth 100000
set_option maxHeartbeats 4000000
/-! TL57: a call that gives a pair with a list of its own; x[1].append(..) -/
namespace TL
open PySem PySem.Spec PyProof.Rows L2
mutual
def noLst : T → Bool
  | .lst _ => false
  | .scr _ => false
  | .exc _ _ => false
  | .tup ts => noLsts ts
  | .dic kts => noLstd kts
  | .ins _ fs => noLstf fs
  | _ => true
def noLsts : List T → Bool
  | [] => true
  | t :: ts => noLst t && noLsts ts
def noLstd : List (T × T) → Bool
  | [] => true
  | (_, t) :: ts => noLst t && noLstd ts
def noLstf : List (Str × T) → Bool
  | [] => true
  | (_, t) :: ts => noLst t && noLstf ts
end
/-- what is frozen, the lists left out -/
def Zn (Z : Hp) : Hp := fun a => match Z a with
  | some (.lst _) => none
  | o => o
theorem Zn.sub (Z : Hp) : Sub (Zn Z) Z := fun a o e => by
  unfold Zn at e
  split at e
  · cases e
  · exact e
theorem Zn.keep {Z : Hp} {a : Addr} {o : HO} (e : Z a = some o) (h : ∀ vs, o ≠ .lst vs) : Zn Z a = some o := by
  unfold Zn
  split
  · rename_i vs q
    rw [e] at q
    exact absurd (Option.some.inj q) (h vs)
  · exact e
theorem Zn.lst {Z : Hp} {a : Addr} {vs : List V} : Zn Z a ≠ some (.lst vs) := fun e => by
  unfold Zn at e
  split at e
  · cases e
  · rename_i h
    exact h vs e
section
variable {K : PySem.W.Frag} {mg : Str → Option Value} {w : Wd}
theorem Zn.sqT {Z : Hp} {p : Addr} {vs : List V} (h : SqT K Z p vs) : SqT K (Zn Z) p vs := h.elim (fun h => .inl (h.elim (fun e => .inl (Zn.keep e fun _ z => by cases z)) fun ⟨o, e⟩ => .inr ⟨o, Zn.keep e fun _ z => by cases z⟩)) .inr
mutual
theorem Tr.zn {Z : Hp} : ∀ {t : T} {v : V}, Tr K mg w Z t v → noLst t = true → Tr K mg w (Zn Z) t v
  | _, _, .non, _ => .non
  | _, _, .bl b, _ => .bl b
  | _, _, .int i, _ => .int i
  | _, _, .str x, _ => .str x
  | _, _, .ty n, _ => .ty n
  | _, _, .tup h l r, e => .tup (Zn.sqT h) l (Trs.zn r (by simpa only [noLst] using e))
  | _, _, .lst h l r, e => by simp only [noLst, Bool.false_eq_true] at e
  | _, _, .dic h l r, e => .dic (let ⟨o, q⟩ := h; ⟨o, Zn.keep q fun _ z => by cases z⟩) l (Trd.zn r (by simpa only [noLst] using e))
  | _, _, .ins a h d r, e => .ins a (Zn.keep h fun _ z => by cases z) (Zn.keep d fun _ z => by cases z) (Trf.zn r (by simpa only [noLst] using e))
  | _, _, .fn h, _ => .fn h
  | _, _, .drw h, _ => .drw h
  | _, _, .scr h l, e => by simp only [noLst, Bool.false_eq_true] at e
theorem Trs.zn {Z : Hp} : ∀ {ts : List T} {vs : List V}, Trs K mg w Z ts vs → noLsts ts = true → Trs K mg w (Zn Z) ts vs
  | _, _, .nil, _ => .nil
  | _, _, .cons a b, e => by
    simp only [noLsts, Bool.and_eq_true] at e
    exact .cons (Tr.zn a e.1) (Trs.zn b e.2)
theorem Trd.zn {Z : Hp} : ∀ {ts : List (T × T)} {vs : List (Key × V)}, Trd K mg w Z ts vs → noLstd ts = true → Trd K mg w (Zn Z) ts vs
  | _, _, .nil, _ => .nil
  | _, _, .cons k a b, e => by
    simp only [noLstd, Bool.and_eq_true] at e
    exact .cons k (Tr.zn a e.1) (Trd.zn b e.2)
theorem Trf.zn {Z : Hp} : ∀ {ts : List (Str × T)} {vs : List (Str × V)}, Trf K mg w Z ts vs → noLstf ts = true → Trf K mg w (Zn Z) ts vs
  | _, _, .nil, _ => .nil
  | _, _, .cons a b, e => by
    simp only [noLstf, Bool.and_eq_true] at e
    exact .cons (Tr.zn a e.1) (Trf.zn b e.2)
end
end
def pairT : T → G T
  | .tup [a, .lst bs] => if noLst a && noLsts bs then .ret (.tup [a, .lst bs]) else .stuck
  | _ => .stuck
def cCallP (F : List T → G T) (cs : List Sl → G (List T)) : EC := fun r => cs r >>= fun ts => if noLsts ts then (F ts).nox >>= pairT else .stuck
theorem noxE {α : Type} {m : G α} {Q : α → Prop} {E E' : T → Prop} (h : m.nox.wp Q E) : m.wp Q E' := G.wp_nox h
section
variable {X : Cx} {w : Wd} {E : XK} {fr : Bool} {H0 Z0 H Z H1 Z1 H' Z' : Hp} {r : List Sl} {σ : L2.St} {o : Nat → List Addr} {D : Ends} {j k n : Nat} {x : Str} {p pos : Pos} {e : Expr} {es : List Expr} {cs : List Sl → G (List T)} {F : List T → G T}
theorem pair_own {a : T} {bs : List T} {v : V} (R : Good w H1 Z1) (g : Grow w H1 (Zn Z1) H' Z') (t : Tr X.K X.mg w Z' (.tup [a, .lst bs]) v) (ha : noLst a = true) (hb : noLsts bs = true) :
    ∃ p o Z2, v = .ref p ∧ Grow w H1 Z1 H' Z2 ∧ Root X.K X.mg w Z2 H' (.tup [a, .lst bs]) p o ∧ Fresh w H1 Z2 o := by
  cases t with
  | @tup _ p vs hq hl tr =>
    obtain ⟨va, vq, rfl, ta, tb⟩ := trs2 tr
    · · · cases tb with
        | @lst _ q ws hz hzl trb =>
          have f1 : H1 q = none := by
            rcases g.new q _ hz with z | z
            · exact absurd z Zn.lst
            · exact z
          have fZ1 : Z1 q = none := R.tracked f1
          have fw : q ∉ w.W := fun hm => by have := g.good.zw q hm; rw [hz] at this; cases this
          have old : ∀ b u, Z1 b = some u → H' b = some u := fun b u eb => g.hh b u (R.zh b u eb) fun hm => by have := R.zw b hm; rw [eb] at this; cases this
          let Z2 : Hp := fun b => match Z1 b with | some u => some u | none => Zn Z' b
          have z2a : ∀ b u, Z1 b = some u → Z2 b = some u := fun b u eb => by show (match Z1 b with | some u => some u | none => Zn Z' b) = _; rw [eb]
          have z2b : ∀ b, Z1 b = none → Z2 b = Zn Z' b := fun b eb => by show (match Z1 b with | some u => some u | none => Zn Z' b) = _; rw [eb]
          have s2 : Sub (Zn Z') Z2 := fun b u eb => by
            cases q1 : Z1 b with
            | none => rw [z2b b q1]; exact eb
            | some u' =>
              rw [z2a b u' q1]
              have h1 := old b u' q1
              have h2 := g.good.zh b u (Zn.sub _ b u eb)
              rw [h1] at h2
              exact h2
          have g2 : Grow w H1 Z1 H' Z2 := by
            refine ⟨⟨fun b u eb => ?_, fun b hm => ?_, g.good.wi⟩, fun b u eb => z2a b u eb, fun b u eb => ?_, g.hh⟩
            · cases q1 : Z1 b with
              | none => rw [z2b b q1] at eb; exact g.good.zh b u (Zn.sub _ b u eb)
              | some u' => rw [z2a b u' q1] at eb; cases eb; exact old b _ q1
            · rw [z2b b (R.zw b hm)]
              unfold Zn
              rw [g.good.zw b hm]
            · cases q1 : Z1 b with
              | none =>
                rw [z2b b q1] at eb
                rcases g.new b u (Zn.sub _ b u eb) with z | z
                · have := Zn.sub _ b u z; rw [q1] at this; cases this
                · exact .inr z
              | some u' => rw [z2a b u' q1] at eb; exact .inl eb
          refine ⟨p, [q], Z2, rfl, g2, ⟨q, va, ws, rfl, s2.sqT (Zn.sqT hq), (ta.zn ha).mono s2, g.good.zh _ _ hz, hzl, (trb.zn hb).mono s2⟩, fun b hm => ?_⟩
          simp at hm
          subst hm
          refine ⟨f1, ?_, fw⟩
          rw [z2b b fZ1]
          unfold Zn
          rw [hz]
theorem evCallP {Q : VK} (hl : Len cs n) (h : EvF X.km w E (cCallP F cs) σ H Q) : EvA X.km w E cs σ H fun vs H1 => SpT X.K X.mg n F vs H1 Q E := by
  obtain ⟨H0, Z0, r, Z, o, R, h⟩ := h
  have h' : (cs r >>= fun ts => if ts.length = n then (if noLsts ts then (F ts).nox >>= pairT else .stuck) else .stuck).wp (PostF X.km w H Z Q) (PostX X.km w E H0 Z0) :=
    G.wp_bind.mpr (G.wp_mono (hl r _ _ (G.wp_bind.mp h)) (fun ts q => by rw [if_pos q.1]; exact q.2) fun _ x => x)
  refine evSeqA (P := fun H Z => PostF X.km w H Z Q) R (fun g => PostF.weak g) h' fun xs H1 Z1 ts R1 g1 t1 h1 => ?_
  by_cases e : ts.length = n
  · rw [if_pos e] at h1
    by_cases hn : noLsts ts = true
    · rw [if_pos hn] at h1
      have gz : Good w H1 (Zn Z1) := ⟨fun a u q => R1.good.zh a u (Zn.sub _ a u q), fun a hm => by unfold Zn; rw [R1.good.zw a hm], R1.good.wi⟩
      refine ⟨w, ts, Zn Z1, by rw [← t1.length, e], gz, t1.zn hn, G.wp_mono (G.wp_nox (E' := fun _ => False) (G.wp_bind.mp h1)) (fun t ht v H' Z' g tr => ?_) fun _ x => False.elim x⟩
      unfold pairT at ht
      split at ht
      · rename_i a bs
        split at ht
        · rename_i hc
          rw [Bool.and_eq_true] at hc
          obtain ⟨p, oo, Z2, rfl, g2, rt, f⟩ := pair_own R1.good g tr hc.1 hc.2
          exact ht p oo H' Z2 g2 rt f
        · exact ht.elim
      · exact ht.elim
    · rw [if_neg hn] at h1; exact h1.elim
  · rw [if_neg e] at h1; exact h1.elim
/-- f(e, ..), the answer a pair with a list of its own -/
theorem cf_fnP (B : Bd X k E) (C : CallT X.prog X.w X.K X.mg X.base j x n F) (ha : CA X w E (e :: es) cs) (hl : Len cs n) (hj : j ≤ k := by decide) (hg : Gl X x := by rfl) (hdb : (x == ("__debug__" : Str)) = false := by decide) (he : starEach (e :: es) X.env = (false, eval e X.env) :: starEach es X.env := by rfl)
    (hpl : (backTo pos (starEach es X.env)).any (·.1) = false := by rfl) : CF X w E (.Call (.Name x p) (e :: es) [] pos) (cCallP F cs) := by
  obtain ⟨f, fd, ps, hm, hk, hb, Fk⟩ := C.ex
  exact ⟨peImp (peG (Fk.mono hj) B.gd B.hr hg hm hk hb B.hx ha.pa hdb he hpl) fun σ H Q h => evCallP hl h⟩
/-- x[1].append(e): x isn't looked at any more -/
def cAppUn (i : Nat) (cs : List Sl → G (List T)) : SC := fun r => match r[i]? with
  | some (.ow (.tup [_, .lst bs])) => cs r >>= fun ts => if ts.length = 1 ∧ fits (bs.length + 1) = true then .ret (.nx (r.set i .un)) else .stuck
  | _ => .stuck
theorem EnvR.drop (R : EnvR X.km w H0 Z0 r σ H Z o) {i : Nat} {q : Addr} {u : HO} (hi : i < r.length) (hq : q ∈ o i) : EnvR X.km w H0 Z0 (r.set i .un) σ (upd H q u) Z (fun j => if j = i then [] else o j) := by
  obtain ⟨h0, hz, hw⟩ := R.fr i q hq
  refine ⟨R.gr.beside h0 hz hw, by rw [List.length_set]; exact R.len, fun j s x h1 h2 => ?_, fun j hj => ?_, fun j k a h1 h2 => ?_, fun j a ha => ?_⟩
  · by_cases e : j = i
    · subst e
      rw [List.getElem?_set_self hi] at h1
      cases h1
      exact if_pos rfl
    · rw [List.getElem?_set_ne (Ne.symm e)] at h1
      simp only [if_neg e]
      exact (R.sl j s x h1 h2).move (Sub.refl _) fun b hb v z => by
        have ne : b ≠ q := fun y => e (R.dis j i q (y ▸ hb) hq)
        rw [upd_ne ne]; exact z
  · by_cases e : j = i
    · simp [e]
    · simp only [if_neg e]; exact R.out j (by rw [List.length_set] at hj; exact hj)
  · by_cases e1 : j = i
    · simp [e1] at h1
    · by_cases e2 : k = i
      · simp [e2] at h2
      · simp only [if_neg e1] at h1; simp only [if_neg e2] at h2; exact R.dis j k a h1 h2
  · by_cases e1 : j = i
    · simp [e1] at ha
    · simp only [if_neg e1] at ha; exact R.fr j a ha
theorem cs_appUn {x : Str} {p0 p1 p2 apos cpos : Pos} {jj : Nat} (i : Nat) (ha : CA X w E [e] cs) (hN : X.N[i]? = some x := by rfl) (hv : Vis X.env.scope x := by first | exact Or.inl rfl | exact Or.inr (Or.inl rfl) | exact Or.inr (Or.inr rfl)) (hd : (x == ("__debug__" : Str)) = false := by decide)
    (hcd : (x == ("__classdict__" : Str)) = false := by decide)
    (hbase : attributeBase (.Subscript (.Name x p0) (.Constant (.int 1) jj p1) p2) "append" X.env (eval (.Subscript (.Name x p0) (.Constant (.int 1) jj p1) p2) X.env) = eval (.Subscript (.Name x p0) (.Constant (.int 1) jj p1) p2) X.env := by rfl)
    (hfew : ((backTo cpos (starEach [e] X.env)).all (fun x => !x.1) && (backToKw cpos (keywordEach [] X.env)).all (fun x => x.1.isSome)
      && decide (([e] : List Expr).length + ([] : List Keyword).length + (if ([] : List Keyword).isEmpty then 0 else 1) < 30)) = true := by rfl)
    (hline : (apos.endLine == cpos.line) = true := by rfl) (hs : starEach [e] X.env = (false, eval e X.env) :: starEach [] X.env := by rfl) (hplain : (backTo cpos (starEach [] X.env)).any (·.1) = false := by rfl)
    (hsw : swapsWith (.Call (.Attribute (.Subscript (.Name x p0) (.Constant (.int 1) jj p1) p2) "append" apos) [e] [] cpos) none pos.line X.env = pure false := by rfl) :
    CS X w E fr (.Expr (.Call (.Attribute (.Subscript (.Name x p0) (.Constant (.int 1) jj p1) p2) "append" apos) [e] [] cpos) pos) (cAppUn i cs) := by
  refine ⟨psImp (ps_expr (pe_bm F.plainAttrs_list F.slot_list_append F.type_list_append mt_append (pe_ix ix_tup (pe_var hN hv hd hcd) pe_int (fun _ _ => rfl)) ha.pa hbase hfew hline hs hplain) hsw) fun D σ H h => ?_⟩
  obtain ⟨H0, Z0, r, Z, o, R, h⟩ := h
  unfold cAppUn at h
  split at h
  · rename_i a bs er
    obtain ⟨p, es, rt⟩ := R.own er
    obtain ⟨q, va, vs, eo, h1, h2, h3, h4, h5⟩ := rt
    have hi : i < r.length := (List.getElem?_eq_some_iff.mp er).1
    refine ⟨.ref p, es, p, [va, .ref q], 1, .ref q, rfl, rfl, R.good.sqT h1, rfl, .inl ⟨rfl, _, .inl (.inl h3)⟩, ?_⟩
    refine evSeqSA R h fun xs H1 Z1 ts R1 g1 t1 hh => ?_
    by_cases hc : ts.length = 1 ∧ fits (bs.length + 1) = true
    · rw [if_pos hc] at hh
      obtain ⟨p', es', rt'⟩ := R1.own er
      rw [es] at es'
      cases es'
      obtain ⟨q', va', vs', eo', k1, k2, k3, k4, k5⟩ := rt'
      have eq : q' = q := by rw [eo] at eo'; simpa using eo'.symm
      subst eq
      match ts, t1, hc.1 with
      | [t], t1, _ =>
        obtain ⟨v, rfl, tv⟩ := trs1 t1
        have hz := fits_line hc.2
        rw [k5.length] at hz
        refine ⟨q', vs', v, rfl, rfl, k3, by omega, ?_⟩
        exact hh σ _ Z1 _ (EnvR.drop (X := X) R1 hi (by rw [eo]; simp)) (Sub.refl _)
    · rw [if_neg hc] at hh; exact hh.elim
  · exact h.elim
end
end TL
end s_TL57
section s_TL58
set_option Elab.async false
set_option linter.all false
set_option maxRecDepth 100000
set_option maxHeartbeats 4000000
/-! TL58: is not True, .. -/
namespace TL
open PySem PySem.Spec PyProof.Rows L2
section
variable {X : Cx} {w : Wd} {E : XK}
theorem t2_notBl : T2 X.km w E rNotB (fIsBl true) := fun H0 Z0 r σ H Z o R a b x y Q ta tb hw => by
  cases ta <;> try exact hw.elim
  cases tb <;> try exact hw.elim
  rename_i p q
  refine ⟨p, q, rfl, rfl, ?_⟩
  have z := hw _ H Z (Grow.refl R.good) (.bl _)
  simpa using z
end
end TL
end s_TL58
section s_TL59
set_option Elab.async false
set_option linter.all false
set_option maxRecDepth 100000
set_option maxHeartbeats 4000000
/-! TL59: tests that look at an own thing in passing; a, b = e, f where a name is a cell -/
namespace TL
open PySem PySem.Spec PyProof.Rows L2
theorem un65 {k : Nat} {A : Around} (hr : Room k A) : A.units + 65 < cLine := by have := hr.un; omega
section
variable {X : Cx} {w : Wd} {E : XK} {fr : Bool} {e a b c : Expr} {pos : Pos} {l : List (Bool × EC)} {tb : List Sl → G Bool}
theorem pt_fz {t : TT} (h : PT X e t) : PT X e (fun σ H Q => t σ H Q ∨ ∃ d u, H d = some u ∧ Mut (some u) ∧ ∀ od, t σ (upd H d (.frz od u)) fun v H' => H' d = some (.frz od u) ∧ Q v (upd H' d u)) := by
  refine ⟨fun pins s σ H Q I hw => ?_⟩
  rcases hw with q | ⟨d, u, hd, mu, hw⟩
  · exact h.run pins s σ H Q I q
  · obtain ⟨od, I1⟩ := I.lock hd mu
    refine thn (h.run pins s σ _ _ I1 (hw od)) fun v s1 ⟨H1, I2, e2, q⟩ => ?_
    exact ⟨_, I2.unlock e2 (I.nofrz hd mu), q⟩
def cPkT (i : Nat) (c : List Sl → G Bool) : List Sl → G Bool := fun r => c (frzS i r)
theorem CT.pk (i : Nat) (h : CT X w E e tb) : CT X w E e (cPkT i tb) := by
  refine ⟨ptImp (pt_fz h.pt) fun σ H Q hh => ?_⟩
  obtain ⟨H0, Z0, r, Z, o, R, hw⟩ := hh
  rcases R.frz i with ⟨Z', o', R', sb, hW⟩ | ⟨d, u, hd, mu, P⟩
  · refine .inl ⟨H0, Z0, _, Z', o', R', G.wp_mono hw (fun t ht H2 Z2 g => ?_) fun _ x => x⟩
    exact ht H2 Z ⟨⟨fun a q e => g.good.zh _ _ (g.zz _ _ (sb _ _ e)), R.good.zw, g.good.wi⟩, Sub.refl _, fun _ _ q => .inl q, g.hh⟩
  · refine .inr ⟨d, u, hd, mu, fun od => ?_⟩
    obtain ⟨Z', o', R', sb, hW⟩ := P od
    have hdw : d ∉ w.W := fun hm => by
      have e := hW d hm
      rw [upd_same, hd] at e
      exact absurd (Option.some.inj e) (mut_frz mu)
    have hdz : Z d = none := by
      cases e : Z d with
      | none => rfl
      | some q =>
        have e1 := R.good.zh _ _ e
        have e2 := R'.good.zh _ _ (sb _ _ e)
        rw [hd] at e1; cases e1
        rw [upd_same] at e2
        exact absurd (Option.some.inj e2) (mut_frz mu)
    refine ⟨H0, Z0, _, Z', o', R', G.wp_mono hw (fun t ht H2 Z2 g => ?_) fun _ x => x⟩
    refine ⟨g.hh d _ upd_same hdw, ht _ Z ⟨⟨fun a q e => ?_, R.good.zw, w.loc _ _ (fun a ha => upd_ne fun z => hdw (z ▸ ha)) g.good.wi⟩, Sub.refl _, fun _ _ q => .inl q, fun a q e hb => ?_⟩⟩
    · have ne : a ≠ d := fun z => by rw [z, hdz] at e; cases e
      rw [upd_ne ne]; exact g.good.zh _ _ (g.zz _ _ (sb _ _ e))
    · by_cases ne : a = d
      · subst ne; rw [hd] at e; cases e; exact upd_same
      · rw [upd_ne ne]; exact g.hh a q (by rw [upd_ne ne]; exact e) hb
/-! a, b = e, f: not swapped (a name is a cell) -/
theorem ps_parC {i j : Nat} {x y : Str} {a b : Expr} {ta : TA} {px py pt : Pos} {kt k2 pt2} (hc : X.calm = true) (hN : X.N.Nodup) (hi : X.N[i]? = some x) (hj : X.N[j]? = some y)
    (hx : Loc X.env.scope x) (hy : Loc X.env.scope y) (fx : X.fn x = true ∨ X.env.scope.names.lookup x = some .local) (fy : X.fn y = true ∨ X.env.scope.names.lookup y = some .local) (ha : PA X [a, b] ta)
    (hw : swappedStores [.Tuple [.Name x px, .Name y py] kt pt] (.Tuple [a, b] k2 pt2) X.env = pure none)
    (hs : swapsWithSole [.Tuple [.Name x px, .Name y py] kt pt] (.Tuple [a, b] k2 pt2) pos.line X.env = pure false) :
    PS X (.Assign [.Tuple [.Name x px, .Name y py] kt pt] (.Tuple [a, b] k2 pt2) pos) (tPar i j ta) := by
  refine ⟨fun pins s σ H D I h => ?_⟩
  rw [exec_Assign_arm]
  refine wpAny_bind (wpAny_standAt ?_)
  rw [hs]
  refine wpAny_bind (wpAny_pure ?_)
  rw [if_neg (by decide)]
  refine wpAny_bind (Tuple_ (thn (ha.run _ pins s σ H _ I h) fun us s1 ⟨vs, H1, I1, r1, q1⟩ => ?_))
  obtain ⟨v, w, e1, q1⟩ := q1
  subst e1
  obtain ⟨u1, u2, rfl, rv, rw'⟩ : ∃ u1 u2, us = [u1, u2] ∧ RelV v u1 ∧ RelV w u2 := by
    cases r1 with
    | cons p q =>
      cases q with
      | cons p' q' =>
        cases q'
        exact ⟨_, _, rfl, p, p'⟩
  refine wpAny_newObj_type ?_ (by show 2 ≤ sizeLine; decide)
  have I2 : Inv X pins σ H1 { s1 with heap := s1.heap.push { cls := .type "tuple", data := .seq [u1, u2].toArray } } := I1.kept (t' := s1.toks) fun b o e => Heap.get?_push_of_some _ e
  rw [hw]
  refine wpAny_bind (wpAny_pure ?_)
  show wpAny (model X.prog X.w) X.A (do assignAll (.ref s1.heap.objs.size) [assign (.Tuple [.Name x px, .Name y py] kt pt) X.env]; pure Flow.next) _ _ _
  show wpAny _ _ (do (assign (.Tuple [.Name x px, .Name y py] kt pt) X.env (.ref s1.heap.objs.size)); pure Flow.next) _ _ _
  refine wpAny_bind ((assign_Tuple_tuple (items := #[u1, u2]) (I.ok.hd hc) (IsTup.new s1.heap _) rfl rfl fun h' hx' => ?_))
  have I3 := I2.kept (h' := h') (t' := s1.toks) fun b o e => hx' b o (Nat.ne_of_lt (Heap.lt_size e)) e
  refine assignInOrder_cons (wpAny_assign_Name (store_ok I3 hN hi hx rv (fun s2 I4 => ?_) fx))
  refine assignInOrder_cons (wpAny_assign_Name (store_ok I4 hN hj hy rw' (fun s3 I5 => assignInOrder_nil (wpAny_pure ?_)) fy))
  exact ⟨_, H1, I5, q1⟩
theorem cs_parC {i j : Nat} {x y : Str} {px py pt : Pos} {kt k2 pt2} (hN : X.N.Nodup) (h : CM X w E [a, b] l) (hi : X.N[i]? = some x := by rfl) (hj : X.N[j]? = some y := by rfl)
    (hx : Loc X.env.scope x := by first | exact Or.inl rfl | exact Or.inr rfl) (hy : Loc X.env.scope y := by first | exact Or.inl rfl | exact Or.inr rfl)
    (fx : X.fn x = true ∨ X.env.scope.names.lookup x = some .local := by first | exact .inl rfl | exact .inr rfl) (fy : X.fn y = true ∨ X.env.scope.names.lookup y = some .local := by first | exact .inl rfl | exact .inr rfl)
    (hc : X.calm = true := by rfl) (hw : swappedStores [.Tuple [.Name x px, .Name y py] kt pt] (.Tuple [a, b] k2 pt2) X.env = pure none := by rfl)
    (hs : swapsWithSole [.Tuple [.Name x px, .Name y py] kt pt] (.Tuple [a, b] k2 pt2) pos.line X.env = pure false := by rfl) :
    CS X w E fr (.Assign [.Tuple [.Name x px, .Name y py] kt pt] (.Tuple [a, b] k2 pt2) pos) (cPar [i, j] l) := by
  refine ⟨⟨fun pins s σ H D I hh => ?_⟩⟩
  have hl := I.len
  refine (ps_parC hc hN hi hj hx hy fx fy h.pa hw hs).run pins s σ H D I ?_
  have q := evPar (is := [i, j]) (by
    intro k hk
    rcases List.mem_cons.mp hk with rfl | hk
    · rw [hl]; exact (List.getElem?_eq_some_iff.mp hi).1
    · rcases List.mem_cons.mp hk with rfl | hk
      · rw [hl]; exact (List.getElem?_eq_some_iff.mp hj).1
      · cases hk) hh
  obtain ⟨H0, Z0, r, Z, o, R, q⟩ := q
  refine ⟨H0, Z0, r, Z, o, R, G.wp_mono q (fun ss hss vs oo H' Z' g sl => ?_) fun _ x => x⟩
  obtain ⟨e, hn⟩ := hss vs oo H' Z' g sl
  match vs, e, hn with
  | [v, u], _, hn => exact ⟨v, u, rfl, hn⟩
end
end TL
end s_TL59
section s_TL60
set_option Elab.async false
set_option linter.all false
set_option maxRecDepth 100000
set_option maxHeartbeats 4000000
/-! TL60: a module's int or text, from the top's facts -/
namespace TL
open PySem PySem.Spec PyProof.Rows L2
section
variable {K : PySem.W.Frag} {h : Heap} {mg : Str → Option Value} {x s : Str} {i : Int} {v : Value} {t : Tok}
theorem gInt_mk (KX : K.In h) (G : h.Ns mainGlobals mg) (a : PySem.W.nsIn K mainGlobals x = some (some v)) (e : v = .int i t) : ∃ t, mg x = some (.int i t) := ⟨t, e ▸ PySem.W.mg_of KX G a⟩
theorem gStr_mk (KX : K.In h) (G : h.Ns mainGlobals mg) (a : PySem.W.nsIn K mainGlobals x = some (some v)) (e : v = .str s t) : ∃ t, mg x = some (.str s t) := ⟨t, e ▸ PySem.W.mg_of KX G a⟩
end
end TL
end s_TL60
section s_TL61
set_option Elab.async false
set_option linter.all false
set_option maxRecDepth 100000
set_option maxHeartbeats 4000000
/-! TL61: enumerate of a list or a tuple -/
namespace TL
open PySem PySem.Spec PyProof.Rows L2
section
variable {prog : Program} {w : World} {A : Around} {E : Value → Shared → Prop} {s : Shared} {a : Addr} {xs : Array Value} {oa : Obj} {sa : Addr → Nat → Heap → Prop} {fa : Heap → Prop}
set_option maxHeartbeats 8000000 in
theorem meets_enumG (Ra : Raw1 prog w a xs oa sa fa) :
    MeetsIn prog w (Builtin.«enumerate.__new__» ⟨[.type "enumerate", .ref a], []⟩) (fun _ R s => fa s.heap ∧ R (.ok (.ret (.ref (s.heap.push oa).objs.size)))
      { s with heap := (s.heap.push oa).push { cls := .type "enumerate", data := .fields #[.none, .bool false, .ref s.heap.objs.size, rawInt 0, .none, .none] } }) :=
  .of_wp fun A R s h => by
    obtain ⟨hp, g, d, tk, os⟩ := s; obtain ⟨hl, h⟩ := h
    have hsub := sub_enumerate
    have q1 : ∀ {A' : Around} {E : Value → Shared → Prop} {Q : Value → Shared → Prop}, Q (.ref hp.objs.size) ⟨hp.push oa, g, d, tk, os⟩ → wpAny (model prog w) A' (pyIter (.ref a)) Q E ⟨hp, g, d, tk, os⟩ :=
      fun q => Ra.iter _ _ ⟨hp, g, d, tk, os⟩ _ hl q
    wp_walk using q1
    refine wpAny_stack_any fun st => wpAny_pure ?_
    split
    · rename_i c _ _ _ _ _
      cases (c == Value.type "enumerate")
      · wp_walk using q1
        exact ⟨_, rfl, h⟩
      · wp_walk using q1
        exact ⟨_, rfl, h⟩
    · wp_walk using q1
      exact ⟨_, rfl, h⟩
theorem call_enumG (Ra : Raw1 prog w a xs oa sa fa) {Q : Value → Shared → Prop} (ha : fa s.heap)
    (h : ∀ h', IsEnum h' (s.heap.objs.size + 1) s.heap.objs.size 0 .none → sa s.heap.objs.size 0 h' → h'.objs.size = s.heap.objs.size + 2 →
      (∀ c o, s.heap.get? c = some o → h'.get? c = some o) → Q (.ref (s.heap.objs.size + 1)) { s with heap := h' }) :
    wpAny (model prog w) A (call (.type "enumerate") [.ref a]) Q E s := by
  refine callType_newIn F.called_enumerate (by decide) (F.typeCall_enumerate_1 _) (F.newCall_enumerate_1 _) (fun obj => F.args_object_init_2 obj _) F.entry_enumerate_new (meets_enumG Ra) ⟨ha, ?_⟩
  have hz : (s.heap.push oa).objs.size = s.heap.objs.size + 1 := Heap.size_push ..
  show _ ∧ _
  rw [hz]
  have he : IsEnum ((s.heap.push oa).push { cls := .type "enumerate", data := .fields #[.none, .bool false, .ref s.heap.objs.size, rawInt 0, .none, .none] }) (s.heap.objs.size + 1) s.heap.objs.size 0 .none := by
    have := Heap.get?_push_size (s.heap.push oa) (o := { cls := .type "enumerate", data := .fields #[.none, .bool false, .ref s.heap.objs.size, rawInt 0, .none, .none] }) rfl
    rw [hz] at this; exact this
  refine ⟨⟨_, he, rfl⟩, h _ he (Ra.keep _ _ _ _ (Ra.st0 s.heap) fun o e => Heap.get?_push_of_some _ e) (by rw [Heap.size_push, hz]) fun c o x => Heap.get?_push_of_some _ (Heap.get?_push_of_some _ x)⟩
end
section
variable {P : Program} {wd : World} {K : PySem.W.Frag} {a : Addr} {xs : List V} {oa : Obj} {sa : Addr → Nat → Heap → Prop} {pa : Hp → Prop}
/-- each item in a new pair with its place -/
def ItE (pa : Hp → Prop) (xs : List V) : It :=
  ⟨fun i H => pa H ∧ i < xs.length,
    fun i H v H' => ∃ T x, v = .ref T ∧ H T = none ∧ H' = upd H T (.tup [.int (i : Nat), x]) ∧ xs[i]? = some x,
    fun i H => pa H ∧ i = xs.length⟩
theorem turn_enumG (Sa : Sr P wd K a xs oa sa pa) {elts : List Expr} {kk : Nat} {tpos : Pos} {I0 : Nat} (la : a < I0)
    (ka : ∀ it i h h', sa it i h → (∀ o, h.get? it = some o → h'.get? it = some o) → sa it i h')
    (oka : ∀ it i h, sa it i h → ∃ o, h.get? it = some o ∧ ∀ v, o.data ≠ .cell v) :
    Turn P wd K (.Tuple elts kk tpos) (ItE pa xs) [I0 + 1, I0] (I0 + 1)
      (fun i h => (∃ old, IsEnum h (I0 + 1) I0 ((i : Nat) : Int) old) ∧ sa I0 i h) where
  mem := by simp
  obj := fun i h st c hc => by
    obtain ⟨⟨old, he⟩, h1⟩ := st
    have e' : c = I0 + 1 ∨ c = I0 := by simpa using hc
    rcases e' with q | q
    · rw [q]; exact ⟨_, he, fun v q => nomatch q⟩
    · rw [q]; exact oka _ _ _ h1
  keep := fun i h h' st k => by
    obtain ⟨⟨old, he⟩, h1⟩ := st
    exact ⟨⟨old, k _ (by simp) _ he⟩, ka _ _ _ _ h1 fun o q => k _ (by simp) o q⟩
  item := by
    intro X hP hw hK hc i pins s σ H E I hf st hg
    subst hP hw hK
    obtain ⟨⟨old, he⟩, h1⟩ := st
    obtain ⟨ha, hx⟩ := hg
    obtain ⟨its, f1, R1, p1, rv⟩ := Sa.ex X rfl rfl rfl pins σ H s I ha
    obtain ⟨u, hu, ru⟩ := rv.get (List.getElem?_eq_getElem hx)
    have l1 := rv.length
    have hel : I0 + 1 < s.heap.objs.size := Heap.lt_size he
    have hd1 : X.A.in1.handled = none := I.ok.hd hc
    refine wpAny_pyNext_enum_itemD (R1.draws X.A.in1 I0 hd1 (Nat.ne_of_lt la)) he ⟨h1, p1⟩ (by simp; omega) (Nat.succ_ne_self I0) (by simp only [List.mem_cons, List.not_mem_nil, or_false, not_or]; exact ⟨Nat.succ_ne_self I0, Nat.ne_of_gt (Nat.lt_succ_of_lt la)⟩) fun x h' tk y1 ho hs' hT hsz hk => ?_
    have e1 : x = u := by
      have q : its.toArray[i]? = some u := by simpa using hu
      rw [q] at y1; cases y1; rfl
    subst e1
    refine ⟨_, rfl, wpAny_letOwnedTupleGo_enum (s := { s with heap := h', toks := tk + 1 }) ho fun h'' he' sb => ?_⟩
    have hT2 : h''.get? s.heap.objs.size = some { cls := .type "tuple", data := .seq #[.int i tk, x] } := (sb.2 _ (Nat.ne_of_gt hel)).trans hT
    have new : ObjOk X.prog X.w (upd H s.heap.objs.size (.tup [.int (i : Nat), xs[i]])) h'' s.heap.objs.size (.tup [.int (i : Nat), xs[i]]) :=
      ⟨by show 2 ≤ sizeLine; decide, [.int i tk, x], .cons ⟨_, rfl⟩ (.cons ru .nil), ⟨_, hT2, rfl, _, rfl⟩⟩
    have I1 : Inv X pins σ (upd H s.heap.objs.size (.tup [.int (i : Nat), xs[i]])) { s with heap := h'', toks := tk + 1 } :=
      I.turnedNew (t' := tk + 1) (ch := [I0 + 1, I0]) (fun c o hb q => (sb.2 c (fun q' => hb (by simp [q']))).trans (hk c o (fun q' => hb (by simp [q'])) (fun q' => hb (by simp [q'])) q)) hf (Nat.le_refl _) new
    refine ⟨.ref s.heap.objs.size, _, I1, rfl, ⟨_, xs[i], rfl, I.hok.fresh (Nat.le_refl _), rfl, List.getElem?_eq_getElem hx⟩, ⟨⟨x, ?_⟩, ?_⟩, fun c hcm => ?_⟩
    · have e1 : ((i + 1 : Nat) : Int) = (i : Int) + 1 := by omega
      rw [e1]; exact he'
    · exact ka _ _ _ _ hs'.1 fun o q => (sb.2 _ (by refine neA ?_; omega)).trans q
    · have hlt : c < s.heap.objs.size := by
        have e' : c = I0 + 1 ∨ c = I0 := by simpa using hcm
        rcases e' with q | q <;> (rw [q]; first | exact hel | exact Nat.lt_of_le_of_lt (by omega) hel)
      rw [upd_ne (Nat.ne_of_lt hlt)]
      exact (hf c hcm).1
  done := by
    intro X hP hw hK hc i pins s σ H E I hf st hg
    subst hP hw hK
    obtain ⟨⟨old, he⟩, h1⟩ := st
    obtain ⟨ha, hx⟩ := hg
    obtain ⟨its, f1, R1, p1, rv⟩ := Sa.ex X rfl rfl rfl pins σ H s I ha
    have l1 := rv.length
    have hd1 : X.A.in1.handled = none := I.ok.hd hc
    have D := R1.draws X.A.in1 I0 hd1 (Nat.ne_of_lt la)
    have ez : i = its.toArray.size := by simp; omega
    refine wpAny_pyNext_enum_endD D he (by rw [← ez]; exact ⟨h1, p1⟩) fun h' eb => ⟨rfl, ?_⟩
    exact I.turnedL (t' := s.toks) (ch := [I0 + 1, I0]) (fun c o hb q => eb c o (fun q' => hb (by simp [q'])) q) hf
  self := fun A i s Q E st h => let ⟨⟨_, he⟩, _⟩ := st; wpAny_pyIter_enum he h
end
def iEnumG (P : Program) (wd : World) (K : PySem.W.Frag) (ta : TA) : TI := fun σ H R => ta σ H fun vs H1 => ∃ a xs oa sa pa, vs = [.ref a] ∧ Sr P wd K a xs oa sa pa ∧ pa H1 ∧ R (ItE pa xs) H1
theorem pi_enumG {X : Cx} {e : Expr} {ta : TA} {p pos tpos : Pos} {elts : List Expr} {kk : Nat} (hg : Gl X "enumerate") (hm : X.mg "enumerate" = none) (ha : PA X [e] ta) (hs : starEach [e] X.env = [(false, eval e X.env)] := by rfl) :
    PI X (.Tuple elts kk tpos) (.Call (.Name "enumerate" p) [e] [] pos) (iEnumG X.prog X.w X.K ta) := by
  refine ⟨fun pins s σ H R I h => ?_⟩
  refine Call_ (ld_blt I hg hm boot_enumerate (PyProof.Rows.callWith_type1 (thn (ha.run pos pins s σ H _ I h) fun us s1 ⟨vs, H1, I1, r1, q1⟩ => ?_) hs rfl))
  obtain ⟨a, xs, oa, sa, pa, ex, Sa, ha1, q⟩ := q1
  subst ex
  cases r1 with
  | cons r rr =>
    cases rr
    cases r
    obtain ⟨its, f1, R1, p1, rv⟩ := Sa.ex X rfl rfl rfl pins σ H1 s1 I1 ha1
    refine call_enumG R1 p1 fun h' he h1 hsz hk => wpAny_pyIter_enum he ?_
    have I2 : Inv X pins σ H1 { s1 with heap := h' } := I1.kept (t' := s1.toks) hk
    refine ⟨s1.heap.objs.size + 1, [s1.heap.objs.size + 1, s1.heap.objs.size], _, _, H1, rfl, I2, turn_enumG Sa (R1.lt _ p1) R1.keep R1.obj, ⟨⟨.none, he⟩, h1⟩, fun c hcm => ?_, q⟩
    have e' : c = s1.heap.objs.size + 1 ∨ c = s1.heap.objs.size := by simpa using hcm
    have hle : s1.heap.objs.size ≤ c := by rcases e' with z | z <;> (rw [z]; first | exact Nat.le_add_right _ _ | exact Nat.le_refl _)
    exact I1.fpOk hle (I1.hok.fresh hle)
section
variable {X : Cx} {w : Wd} {E : XK} {tg e : Expr} {p pos tpos : Pos} {cs : List Sl → G (List T)} {H0 Z0 H Z : Hp} {r : List Sl} {σ : L2.St} {o : Nat → List Addr}
def enumT : Nat → List T → List T
  | _, [] => []
  | k, t :: ts => .tup [.int (k : Nat), t] :: enumT (k + 1) ts
theorem enumT_len : ∀ (k : Nat) (ts : List T), (enumT k ts).length = ts.length
  | _, [] => rfl
  | k, t :: ts => by simp only [enumT, List.length_cons, enumT_len (k + 1) ts]
theorem enumT_get : ∀ (k : Nat) (ts : List T) (i : Nat) (t : T), (enumT k ts)[i]? = some t → ∃ a, ts[i]? = some a ∧ t = .tup [.int ((k + i : Nat) : Int), a]
  | k, a :: as, 0, t, e => by simp only [enumT, List.getElem?_cons_zero, Option.some.injEq] at e; exact ⟨a, rfl, e.symm⟩
  | k, a :: as, i + 1, t, e => by
    obtain ⟨x, h1, h2⟩ := enumT_get (k + 1) as i t (by simpa [enumT] using e)
    exact ⟨x, by simpa using h1, by rw [h2]; congr 3; omega⟩
  | _, [], _, _, e => by simp [enumT] at e
theorem iter_enum {M : Km} {xs : List V} {pa : Hp → Prop} {ts : List T} {Zs : Hp} (ha : ∀ H' Z', Sub Zs Z' → Good w H' Z' → pa H') (t1 : Trs M.K M.mg w Zs ts xs) : IterOk M w (ItE pa xs) (enumT 0 ts) Zs := fun i H Z s g => by
  have l1 := t1.length
  refine ⟨fun t ht => ?_, fun hl => ?_⟩
  · obtain ⟨a, h1, rfl⟩ := enumT_get _ _ _ _ ht
    obtain ⟨x, hx, tx⟩ := t1.get h1
    refine ⟨⟨ha H Z s g, (List.getElem?_eq_some_iff.mp hx).1⟩, fun v H' q => ?_⟩
    obtain ⟨p, x', rfl, hp, rfl, e1⟩ := q
    rw [hx] at e1; cases e1
    have gl := Grow.laidF (o := .tup [.int ((i : Nat) : Int), x]) g hp
    refine ⟨_, gl, ?_⟩
    rw [Nat.zero_add]
    exact .tup (SqT.of upd_same) (by show 2 ≤ sizeLine; decide) (.cons (.int _) (.cons ((tx.mono s).mono gl.zz) .nil))
  · rw [enumT_len] at hl
    exact ⟨ha H Z s g, by omega⟩
def enumOf : List T → G (List T)
  | [.lst ts] => .ret (enumT 0 ts)
  | [.tup ts] => .ret (enumT 0 ts)
  | _ => .stuck
theorem ci_enum {elts : List Expr} {kk : Nat} (hg : Gl X "enumerate") (hm : X.mg "enumerate" = none) (ha : CA X w E [e] cs) (hs : starEach [e] X.env = [(false, eval e X.env)] := by rfl) :
    CI X w E (.Tuple elts kk tpos) (.Call (.Name "enumerate" p) [e] [] pos) (fun r => cs r >>= enumOf) := by
  refine ⟨piImp (pi_enumG hg hm ha.pa hs) fun σ H Rr h => ?_⟩
  obtain ⟨H0, Z0, r, Z, o, R, h⟩ := h
  refine evSeqA (P := fun H Z => fun ts => ∀ J H' Z', Grow w H Z H' Z' → ts.length ≤ sizeLine → IterOk X.km w J ts Z' → Rr J H') R (fun g h J H' Z' g' => h J H' Z' (g.trans g')) h fun xs H1 Z1 ts R1 g1 t1 h1 => ?_
  unfold enumOf at h1
  split at h1
  · rename_i us
    obtain ⟨v, rfl, tv⟩ := trs1 t1
    cases tv with
    | @lst _ p vs hz l tr =>
      have q : ∀ H' Z', Sub Z1 Z' → Good w H' Z' → SqL X.K H' p vs := fun H' Z' s g => SqL.of (g.zh _ _ (s _ _ hz))
      exact ⟨p, vs, _, _, _, rfl, sr_list, q H1 Z1 (Sub.refl _) R1.good, h1 _ H1 Z1 (Grow.refl R1.good) (by rw [enumT_len, tr.length]; exact l) (iter_enum q tr)⟩
  · rename_i us
    obtain ⟨v, rfl, tv⟩ := trs1 t1
    cases tv with
    | @tup _ p vs hz l tr =>
      have q : ∀ H' Z', Sub Z1 Z' → Good w H' Z' → SqT X.K H' p vs := fun H' Z' s g => g.sqT (s.sqT hz)
      exact ⟨p, vs, _, _, _, rfl, sr_tup, q H1 Z1 (Sub.refl _) R1.good, h1 _ H1 Z1 (Grow.refl R1.good) (by rw [enumT_len, tr.length]; exact l) (iter_enum q tr)⟩
  · exact False.elim h1
end
end TL
end s_TL61
section s_TL62
set_option Elab.async false
set_option linter.all false
set_option maxRecDepth 100000
set_option maxHeartbeats 4000000
/-! TL62: a dict of own lists: x = {k: [..] for ..}, x[k][j] op= e, x[k][j] = e -/
namespace TL
open PySem PySem.Spec PyProof.Rows L2
def addD : List (T × T) → T → T → List (T × T)
  | [], k, t => [(k, t)]
  | (q, u) :: r, k, t => if keyT q = keyT k then (q, t) :: r else (q, u) :: addD r k t
theorem putK_pos {p : Key × V} {r : List (Key × V)} {k : Key} {v : V} (e : p.1 = k) (h : k ∉ r.map (·.1)) : putK (p :: r) k v = (p.1, v) :: r := by
  unfold putK
  have h2 : ∀ x ∈ r, (if x.1 = k then (x.1, v) else x) = x := fun x hx => if_neg fun q => h (by rw [← q]; exact List.mem_map_of_mem hx)
  simp only [List.any_cons, e, decide_true, Bool.true_or, if_true, List.map_cons]
  rw [List.map_congr_left h2, List.map_id']
theorem putK_neg {p : Key × V} {r : List (Key × V)} {k : Key} {v : V} (e : ¬ p.1 = k) : putK (p :: r) k v = p :: putK r k v := by
  unfold putK
  simp only [List.any_cons, e, decide_false, Bool.false_or, List.map_cons, if_false]
  split
  · rfl
  · rfl
theorem putK_mem {k x : Key} {v : V} : ∀ {r : List (Key × V)}, x ∈ (putK r k v).map (·.1) → x = k ∨ x ∈ r.map (·.1)
  | [], h => by simp [putK] at h; exact .inl h
  | p :: r, h => by
    by_cases e : p.1 = k
    · unfold putK at h
      simp only [List.any_cons, e, decide_true, Bool.true_or, if_true, List.map_map, List.mem_map] at h
      obtain ⟨q, hq, h⟩ := h
      right
      refine List.mem_map.mpr ⟨q, hq, ?_⟩
      simp only [Function.comp] at h
      split at h <;> exact h
    · rw [putK_neg e, List.map_cons, List.mem_cons] at h
      rcases h with h | h
      · right; simp [h]
      · rcases putK_mem h with q | q
        · exact .inl q
        · right; rw [List.map_cons]; exact List.mem_cons_of_mem _ q
section
variable {K : PySem.W.Frag} {mg : Str → Option Value} {w : Wd} {Z H : Hp} {key : Key} {k : T}
theorem TrD.get : ∀ {kts : List (T × T)} {kvs : List (Key × V)} {qs : List Addr}, TrD K mg w Z H kts kvs qs → ∀ {t : T}, dGet kts key = some t → ∃ ts vs q, t = .lst ts ∧ valV kvs key = some (.ref q) ∧ q ∈ qs ∧ H q = some (.lst vs) ∧ vs.length ≤ sizeLine ∧ Trs K mg w Z ts vs
  | _, _, _, .nil, t, e => by simp [dGet] at e
  | _, _, _, .cons (k := k1) (key := key1) (q := q1) (ts := ts1) (vs := vs1) (kts := kts) (kvs := kvs) e h l tr r, t, g => by
    by_cases hk : key1 = key
    · have : dGet ((k1, T.lst ts1) :: kts) key = some (.lst ts1) := by unfold dGet; rw [List.find?_cons_of_pos (by simp [e, hk])]; rfl
      rw [this] at g; cases g
      exact ⟨ts1, vs1, q1, rfl, valV_pos hk, by simp, h, l, tr⟩
    · have : dGet ((k1, T.lst ts1) :: kts) key = dGet kts key := by unfold dGet; rw [List.find?_cons_of_neg (by simp [e, hk])]
      rw [this] at g
      obtain ⟨ts, vs, q, e1, e2, e3, e4, e5, e6⟩ := TrD.get r g
      exact ⟨ts, vs, q, e1, by rw [valV_neg hk]; exact e2, by simp [e3], e4, e5, e6⟩
theorem TrD.mem : ∀ {kts : List (T × T)} {kvs : List (Key × V)} {qs : List Addr}, TrD K mg w Z H kts kvs qs → ∀ {q : Addr}, valV kvs key = some (.ref q) → q ∈ qs
  | _, _, _, .nil, q, e => by simp [valV] at e
  | _, _, _, .cons (key := key1) (q := q1) e h l tr r, q, g => by
    by_cases hk : key1 = key
    · rw [valV_pos hk] at g; cases g; simp
    · rw [valV_neg hk] at g; exact List.mem_cons_of_mem _ (TrD.mem r g)
theorem TrD.set (hk : keyT k = some key) {q : Addr} {vs' : List V} {ts' : List T} (hl : vs'.length ≤ sizeLine) (ht : Trs K mg w Z ts' vs') :
    ∀ {kts : List (T × T)} {kvs : List (Key × V)} {qs : List Addr}, TrD K mg w Z H kts kvs qs → qs.Nodup → valV kvs key = some (.ref q) → TrD K mg w Z (upd H q (.lst vs')) (addD kts k (.lst ts')) kvs qs
  | _, _, _, .nil, _, e => by simp [valV] at e
  | _, _, _, .cons (k := k1) (key := key1) (q := q1) (qs := qs) e h l tr r, nd, g => by
    obtain ⟨n1, n2⟩ := List.nodup_cons.mp nd
    by_cases hk1 : key1 = key
    · rw [valV_pos hk1] at g; cases g
      have e2 : keyT k1 = keyT k := by rw [e, hk, hk1]
      simp only [addD, if_pos e2]
      refine .cons e upd_same hl ht (r.move (Sub.refl _) fun a ha u hu => ?_)
      have ne : a ≠ q := fun z => n1 (by rw [← z]; exact ha)
      rw [upd_ne ne]; exact hu
    · rw [valV_neg hk1] at g
      have e2 : ¬ keyT k1 = keyT k := by rw [e, hk]; simpa using hk1
      simp only [addD, if_neg e2]
      have hm := TrD.mem r g
      have ne : q1 ≠ q := fun z => n1 (by rw [z]; exact hm)
      exact .cons e (by rw [upd_ne ne]; exact h) l tr (TrD.set hk hl ht r n2 g)
theorem TrD.add (hk : keyT k = some key) {q : Addr} {vs : List V} {ts : List T} (hq : H q = some (.lst vs)) (hl : vs.length ≤ sizeLine) (ht : Trs K mg w Z ts vs) :
    ∀ {kts : List (T × T)} {kvs : List (Key × V)} {qs : List Addr}, TrD K mg w Z H kts kvs qs → (kvs.map (·.1)).Nodup → q ∉ qs → qs.Nodup →
      ∃ qs', TrD K mg w Z H (addD kts k (.lst ts)) (putK kvs key (.ref q)) qs' ∧ qs'.Nodup ∧ (∀ a ∈ qs', a = q ∨ a ∈ qs) ∧ ((putK kvs key (.ref q)).map (·.1)).Nodup
  | _, _, _, .nil, _, _, _ => ⟨[q], by simp only [addD]; exact .cons hk hq hl ht .nil, by simp, fun a ha => .inl (by simpa using ha), by simp [putK]⟩
  | _, _, _, .cons (k := k1) (key := key1) (q := q1) (qs := qs) (kvs := kvs) e h l tr r, nk, hn, nd => by
    obtain ⟨n1, n2⟩ := List.nodup_cons.mp nd
    rw [List.map_cons] at nk
    obtain ⟨k1n, k2n⟩ := List.nodup_cons.mp nk
    by_cases hk1 : key1 = key
    · have e2 : keyT k1 = keyT k := by rw [e, hk, hk1]
      simp only [addD, if_pos e2]
      rw [putK_pos (p := (key1, V.ref q1)) hk1 (hk1 ▸ k1n)]
      exact ⟨q :: qs, .cons e hq hl ht r, List.nodup_cons.mpr ⟨fun z => hn (List.mem_cons_of_mem _ z), n2⟩, fun a ha => by
        rcases List.mem_cons.mp ha with z | z
        · exact .inl z
        · exact .inr (List.mem_cons_of_mem _ z), nk⟩
    · have e2 : ¬ keyT k1 = keyT k := by rw [e, hk]; simpa using hk1
      simp only [addD, if_neg e2]
      rw [putK_neg (p := (key1, V.ref q1)) hk1]
      obtain ⟨qs', h1, h2, h3, h4⟩ := TrD.add hk hq hl ht r k2n (fun z => hn (List.mem_cons_of_mem _ z)) n2
      refine ⟨q1 :: qs', .cons e h l tr h1, List.nodup_cons.mpr ⟨fun z => ?_, h2⟩, fun a ha => ?_, ?_⟩
      · rcases h3 _ z with y | y
        · exact hn (by rw [← y]; simp)
        · exact n1 y
      · rcases List.mem_cons.mp ha with z | z
        · exact .inr (by rw [z]; simp)
        · rcases h3 _ z with y | y
          · exact .inl y
          · exact .inr (List.mem_cons_of_mem _ y)
      · rw [List.map_cons]
        refine List.nodup_cons.mpr ⟨fun z => ?_, h4⟩
        rcases putK_mem z with y | y
        · exact hk1 y
        · exact k1n y
end
section
variable {X : Km} {w : Wd} {H0 Z0 H Z : Hp} {r : List Sl} {σ : L2.St} {o : Nat → List Addr}
theorem EnvR.setS (R : EnvR X.km w H0 Z0 r σ H Z o) (i : Nat) {s : Sl} {x : Option V} {oo : List Addr} (hi : i < r.length) (h : SlR X.K X.mg w Z H s x oo) (f : ∀ a ∈ oo, H0 a = none ∧ Z a = none ∧ a ∉ w.W) (dj : ∀ j a, a ∈ o j → a ∉ oo) :
    EnvR X.km w H0 Z0 (r.set i s) (σ.set i x) H Z (fun j => if j = i then oo else o j) := by
  refine ⟨R.gr, by rw [List.length_set, List.length_set]; exact R.len, fun j s' x' h1 h2 => ?_, fun j hj => ?_, fun j k a h1 h2 => ?_, fun j a ha => ?_⟩
  · by_cases e : j = i
    · subst e
      have hj : j < r.length := by
        have := (List.getElem?_eq_some_iff.mp h1).1
        rwa [List.length_set] at this
      rw [List.getElem?_set_self hj] at h1
      rw [List.getElem?_set_self (R.len ▸ hj)] at h2
      cases h1; cases h2
      simpa using h
    · rw [List.getElem?_set_ne (Ne.symm e)] at h1 h2
      simp only [if_neg e]
      exact R.sl j s' x' h1 h2
  · rw [List.length_set] at hj
    have e : j ≠ i := by omega
    simp only [if_neg e]; exact R.out j hj
  · by_cases e1 : j = i <;> by_cases e2 : k = i
    · rw [e1, e2]
    · rw [e1] at h1; simp only [if_true] at h1; simp only [if_neg e2] at h2; exact absurd h1 (dj k a h2)
    · rw [e2] at h2; simp only [if_true] at h2; simp only [if_neg e1] at h1; exact absurd h2 (dj j a h1)
    · simp only [if_neg e1] at h1; simp only [if_neg e2] at h2; exact R.dis j k a h1 h2
  · by_cases e1 : j = i
    · rw [e1] at ha; simp only [if_true] at ha; exact f a ha
    · simp only [if_neg e1] at ha; exact R.fr j a ha
theorem EnvR.ownD (R : EnvR X.km w H0 Z0 r σ H Z o) {i : Nat} {kts : List (T × T)} (hr : r[i]? = some (.dp kts)) : ∃ p, σ[i]? = some (some (.ref p)) ∧ RootD X.K X.mg w Z H kts p (o i) := by
  have hi : i < σ.length := by
    have := (List.getElem?_eq_some_iff.mp hr).1
    rw [R.len] at this; exact this
  obtain ⟨p, ev, rt⟩ := R.sl i _ _ hr (List.getElem?_eq_getElem hi)
  exact ⟨p, (List.getElem?_eq_getElem hi).trans (congrArg some ev), rt⟩
theorem EnvR.rewD (R : EnvR X.km w H0 Z0 r σ H Z o) {i : Nat} {kts kts' : List (T × T)} {p q : Addr} {u : HO} (hr : r[i]? = some (.dp kts)) (hs : σ[i]? = some (some (.ref p))) (hq : q ∈ o i) (h : RootD X.K X.mg w Z (upd H q u) kts' p (o i)) :
    EnvR X.km w H0 Z0 (r.set i (.dp kts')) σ (upd H q u) Z o := by
  obtain ⟨h0, hz, hw⟩ := R.fr i q hq
  refine ⟨R.gr.beside h0 hz hw, by rw [List.length_set]; exact R.len, fun j s x h1 h2 => ?_, fun j hj => R.out j (by rw [List.length_set] at hj; exact hj), R.dis, R.fr⟩
  by_cases e : j = i
  · subst e
    have hj : j < r.length := (List.getElem?_eq_some_iff.mp hr).1
    rw [List.getElem?_set_self hj] at h1
    cases h1
    rw [hs] at h2
    cases h2
    exact ⟨p, rfl, h⟩
  · rw [List.getElem?_set_ne (Ne.symm e)] at h1
    exact (R.sl j s x h1 h2).move (Sub.refl _) fun b hb v z => by
      have ne : b ≠ q := fun y => e (R.dis j i q (y ▸ hb) hq)
      rw [upd_ne ne]; exact z
end

/-! ### x = {k: [..] for ..} -/
def PostD (X : Km) (w : Wd) (H Z : Hp) (Q : VK) : List (T × T) → Prop := fun kts => ∀ p o H' Z', Grow w H Z H' Z' → RootD X.K X.mg w Z' H' kts p o → Fresh w H Z' o → Q (.ref p) H'
abbrev DC := List Sl → G (List (T × T))
def EvD (X : Km) (w : Wd) (E : XK) (c : DC) : TE := fun σ H Q => ∃ H0 Z0 r Z o, EnvR X.km w H0 Z0 r σ H Z o ∧ (c r).wp (PostD X.km w H Z Q) (PostX X.km w E H0 Z0)
structure CD (X : Cx) (w : Wd) (E : XK) (e : Expr) (c : DC) : Prop where
  pe : PE X e (EvD X.km w E c)
theorem PostD.weak {X : Km} {w : Wd} {H Z H1 Z1 : Hp} {Q : VK} {t : List (T × T)} (g : Grow w H Z H1 Z1) (h : PostD X.km w H Z Q t) : PostD X.km w H1 Z1 Q t := by
  intro p o H' Z' g' r f
  refine h p o H' Z' (g.trans g') r fun a ha => ⟨?_, (f a ha).2⟩
  cases q : H a with
  | none => rfl
  | some u =>
    have z := (f a ha).1
    rw [g.hh a u q (f a ha).2.2] at z
    cases z
def dcompDG (g : GC) (tt : List Sl → G Bool) (tk tv : EC) : List T → List Sl → List (T × T) → G (List (T × T))
  | [], _, acc => .ret acc
  | t :: ts, r, acc => (g t r).nox >>= fun r1 => (tt r1).nox >>= fun b => if b then ((tk r1).nox >>= fun k => (tv r1).nox >>= fun v => match v with
    | .lst us => if (keyT k).isSome then dcompDG g tt tk tv ts r (addD acc k (.lst us)) else .stuck
    | _ => .stuck) else dcompDG g tt tk tv ts r acc
def cDCompD (ci : List Sl → G (List T)) (g : GC) (tt : List Sl → G Bool) (tk tv : EC) (vs : List Nat) : DC := fun r => ci r >>= fun ts => dcompDG g tt tk tv ts (wipeR r vs) []
section
variable {X : Cx} {w : Wd} {E : XK} {fr : Bool} {tg iter kx vx : Expr} {ifs : List Expr} {pos : Pos} {tk tv : EC} {ci : List Sl → G (List T)} {g : GC} {S : List Nat} {tt : List Sl → G Bool}
variable {H0 Z0 H Z Z1 : Hp} {r : List Sl} {σ σ' : L2.St} {o : Nat → List Addr} {D : Ends} {e : Expr}
theorem dcompD_core {vs : List Nat} {Q : VK} (R : EnvR X.km w H0 Z0 r σ H Z o) (hS : ∀ j ∈ S, j ∈ vs)
    (h : (cDCompD ci g tt tk tv vs r).wp (PostD X.km w H Z Q) (PostX X.km w E H0 Z0)) :
    tDc (EvI X.km w E ci) (EvG X.km w (fun _ _ _ => False) S g) (EvT X.km w (fun _ _ _ => False) tt) (EvE X.km w (fun _ _ _ => False) tk) (EvF X.km w (fun _ _ _ => False) tv) vs σ H Q := by
  refine ⟨H0, Z0, r, Z, o, R, G.wp_mono (G.wp_bind.mp h) (fun ts ht J H1 Z1 g1 hz iok D hD => ?_) fun _ x => x⟩
  have R1 := R.grow g1
  obtain ⟨oi, Ri⟩ := R1.wipe vs
  have hDz : Z1 D = none := R1.good.tracked hD
  have hDw : D ∉ w.W := fun hm => R1.good.nw hD D hm rfl
  have h0of : ∀ a, H1 a = none → a ∉ w.W → H0 a = none := fun a ha hw => by
    cases e : H0 a with
    | none => rfl
    | some u => have z := R1.gr.hh a u e hw; rw [ha] at z; cases z
  have hD0 : H0 D = none := h0of D hD hDw
  have hDo : ∀ i, D ∉ oi i := fun i hm => Ri.tr i D hm hD
  refine ⟨fun i m H => m = ts.length - i ∧ i ≤ ts.length ∧ ∃ Z2 acc vacc qs, EnvR X.km w H0 Z0 (wipeR r vs) (L2.wipe σ vs) H Z2 oi ∧ Grow w H1 Z1 H Z2 ∧ H D = some (.dK vacc) ∧ Z2 D = none ∧ vacc.length ≤ i ∧ TrD X.K X.mg w Z2 H acc vacc qs ∧
      (D :: qs).Nodup ∧ (vacc.map (·.1)).Nodup ∧ (∀ a ∈ qs, H1 a = none ∧ Z2 a = none ∧ a ∉ w.W) ∧
      (dcompDG g tt tk tv (ts.drop i) (wipeR r vs) acc).wp (PostD X.km w H1 Z1 Q) (PostX X.km w E H0 Z0),
    ⟨ts.length, by simp, Nat.zero_le _, Z1, [], [], [], Ri.beside hD0 hDz hDw hDo, Grow.beside (Grow.refl R1.good) hD hDz hDw, upd_same, hDz, Nat.zero_le _, .nil, by simp, by simp, fun a ha => (nomatch ha), G.wp_mono ht (fun t q => PostD.weak g1 q) fun _ x => x⟩, ?_⟩
  rintro i m H2 ⟨rfl, hi, Z2, acc, vacc, qs, R2, g2, hD2, hDz2, hl2, tr2, nd2, nk2, fq2, h2⟩
  obtain ⟨go, stop⟩ := iok i H2 Z2 g2.zz R2.good
  by_cases hlt : i < ts.length
  · obtain ⟨hgo, yld⟩ := go _ (List.getElem?_eq_getElem hlt)
    rw [List.drop_eq_getElem_cons hlt] at h2
    refine .inr ⟨hgo, fun H' => ∃ Z2 acc vacc qs, EnvR X.km w H0 Z0 (wipeR r vs) (L2.wipe σ vs) H' Z2 oi ∧ Grow w H1 Z1 H' Z2 ∧ H' D = some (.dK vacc) ∧ Z2 D = none ∧ vacc.length ≤ i + 1 ∧ TrD X.K X.mg w Z2 H' acc vacc qs ∧
      (D :: qs).Nodup ∧ (vacc.map (·.1)).Nodup ∧ (∀ a ∈ qs, H1 a = none ∧ Z2 a = none ∧ a ∉ w.W) ∧
      (dcompDG g tt tk tv (ts.drop (i + 1)) (wipeR r vs) acc).wp (PostD X.km w H1 Z1 Q) (PostX X.km w E H0 Z0), fun H' n => ⟨ts.length - (i + 1), by omega, rfl, hlt, n⟩, fun x H3 y => ?_⟩
    obtain ⟨Z3, g3, t3⟩ := yld x H3 y
    have R3 := R2.grow g3
    have h3 := G.wp_nox (E' := PostX X.km w (fun _ _ _ => False) H0 Z0) (G.wp_bind.mp h2)
    refine ⟨H0, Z0, _, Z3, oi, _, R3, t3, G.wp_mono h3 (fun r4 h4 σ4 H4 Z4 o4 R4 g4 off => ⟨wipe_off off hS, ?_⟩) fun _ x => x⟩
    have h5 := G.wp_nox (E' := PostX X.km w (fun _ _ _ => False) H0 Z0) (G.wp_bind.mp h4)
    refine ⟨H0, Z0, r4, Z4, o4, R4, G.wp_mono h5 (fun b hb H5 Z5 g5 => ?_) fun _ x => x⟩
    have g25 : Grow w H2 Z2 H5 Z5 := (g3.trans g4).trans g5
    have keepq : ∀ {H' Z'}, Grow w H2 Z2 H' Z' → (∀ a ∈ qs, ∀ u, H2 a = some u → H' a = some u) ∧ ∀ a ∈ qs, H1 a = none ∧ Z' a = none ∧ a ∉ w.W := fun gg =>
      ⟨fun a ha u hu => gg.hh a u hu (fq2 a ha).2.2, fun a ha => ⟨(fq2 a ha).1, gg.free (fq2 a ha).2.1 (tr2.tracked a ha), (fq2 a ha).2.2⟩⟩
    cases b with
    | false =>
      refine iteF ⟨Z5, acc, vacc, qs, R2.grow g25, g2.trans g25, g25.hh D _ hD2 hDw, g25.free hDz2 (by rw [hD2]; simp), by omega, tr2.move g25.zz (keepq g25).1, nd2, nk2, (keepq g25).2, hb⟩
    | true =>
      refine iteT ?_
      have h6 := G.wp_nox (E' := PostX X.km w (fun _ _ _ => False) H0 Z0) (G.wp_bind.mp hb)
      refine ⟨H0, Z0, r4, Z5, o4, R4.grow g5, G.wp_mono h6 (fun tky hky vky H6 Z6 g6 t6 => ?_) fun _ x => x⟩
      have h7 := G.wp_nox (E' := PostX X.km w (fun _ _ _ => False) H0 Z0) (G.wp_bind.mp hky)
      refine ⟨H0, Z0, r4, Z6, o4, (R4.grow g5).grow g6, G.wp_mono h7 (fun tvy hvy p7 o7 H7 Z7 g7 rt7 f7 => ?_) fun _ x => x⟩
      have g27 : Grow w H2 Z2 H7 Z7 := (g25.trans g6).trans g7
      have hD7 : H7 D = some (.dK vacc) := g27.hh D _ hD2 hDw
      have hDz7 : Z7 D = none := g27.free hDz2 (by rw [hD2]; simp)
      split at hvy
      · rename_i us
        obtain ⟨rfl, vsu, hp7, hl7, tr7⟩ := rt7
        have f7' := f7 p7 (by simp)
        cases ek : keyT tky with
        | none => rw [ek] at hvy; exact hvy.elim
        | some key =>
          rw [ek] at hvy
          have hlp := length_putK vacc key (V.ref p7)
          have H6D : H6 D ≠ none := by rw [(g25.trans g6).hh D _ hD2 hDw]; simp
          have pD : p7 ≠ D := fun z => H6D (by rw [← z]; exact f7'.1)
          have pq : p7 ∉ qs := fun z => by
            cases e2 : H2 p7 with
            | none => exact tr2.tracked p7 z e2
            | some u => have y := (g25.trans g6).hh p7 u e2 (fq2 p7 z).2.2; rw [f7'.1] at y; cases y
          have p1 : H1 p7 = none := by
            cases e2 : H1 p7 with
            | none => rfl
            | some u => have y := ((g2.trans g25).trans g6).hh p7 u e2 f7'.2.2; rw [f7'.1] at y; cases y
          have mv : ∀ (u : HO) a, a ∈ qs → ∀ v, H2 a = some v → upd H7 D u a = some v := fun u a ha v hv => by
            have ne : a ≠ D := fun z => (List.nodup_cons.mp nd2).1 (by rw [← z]; exact ha)
            rw [upd_ne ne]; exact (keepq g27).1 a ha v hv
          obtain ⟨qs', a1, a2, a3, a4⟩ := TrD.add (H := upd H7 D (.dK (putK vacc key (.ref p7)))) (q := p7) (vs := vsu) (ts := us) ek (by rw [upd_ne pD]; exact hp7) hl7 tr7 (tr2.move g27.zz (mv _)) nk2 pq (List.nodup_cons.mp nd2).2
          refine ⟨vacc, key, t6.key ek, hD7, by omega, Z7, addD acc tky (.lst us), putK vacc key (.ref p7), qs', (R2.grow g27).beside hD0 hDz7 hDw hDo, (g2.trans g27).beside hD hDz7 hDw, upd_same, hDz7, by omega, a1, List.nodup_cons.mpr ⟨fun z => ?_, a2⟩, a4, fun a ha => ?_, hvy⟩
          · rcases a3 _ z with y | y
            · exact pD y.symm
            · exact (List.nodup_cons.mp nd2).1 y
          · rcases a3 _ ha with y | y
            · rw [y]; exact ⟨p1, f7'.2.1, f7'.2.2⟩
            · exact (keepq g27).2 a y
      · exact hvy.elim
  · have e : i = ts.length := by omega
    subst e
    rw [List.drop_length] at h2
    refine .inl ⟨stop rfl, ?_⟩
    have h3 : PostD X.km w H1 Z1 Q acc := h2
    refine h3 D (D :: qs) H2 Z2 g2 ⟨qs, vacc, rfl, nd2, hD2, Nat.le_trans hl2 hz, tr2⟩ fun a ha => ?_
    rcases List.mem_cons.mp ha with z | z
    · subst z; exact ⟨hD, hDz2, hDw⟩
    · exact fq2 a z
theorem cd_dcomp {scope : Scope} {own : List (Str × Nat)} (hN : X.N.Nodup) (hi : CI X w E tg iter ci) (ok : BlkOk X.N X.env.scope scope own)
    (hg : ∀ (s : Shared) (H : Hp) (C : Addr) (cl : List (Str × Addr)) (fp : List Addr), CG (X.blk s H scope (compEnvC scope cl C X.env) fp) w (fun _ _ _ => False) tg S g) (ht : ∀ (s : Shared) (H : Hp) (C : Addr) (cl : List (Str × Addr)) (fp : List Addr), CTs (X.blk s H scope (compEnvC scope cl C X.env) fp) w (fun _ _ _ => False) ifs tt)
    (hk : ∀ (s : Shared) (H : Hp) (C : Addr) (cl : List (Str × Addr)) (fp : List Addr), CE (X.blk s H scope (compEnvC scope cl C X.env) fp) w (fun _ _ _ => False) kx tk)
    (he : ∀ (s : Shared) (H : Hp) (C : Addr) (cl : List (Str × Addr)) (fp : List Addr), CF (X.blk s H scope (compEnvC scope cl C X.env) fp) w (fun _ _ _ => False) vx tv) (hc : X.calm = true := by rfl) (hs : ∀ x, foldedSetIterable iter X.env x = pure x := by intro _; rfl)
    (hS : ∀ j ∈ S, j ∈ own.map (·.2) := by decide) : CD X w E (.DictComp kx vx [⟨tg, iter, ifs, 0⟩] scope pos) (cDCompD ci g tt tk tv (own.map (·.2))) :=
  ⟨peImp (pe_dc hc hN hi.pi ok (fun s H C cl fp => (hg s H C cl fp).pg) (fun s H C cl fp => (ht s H C cl fp).pt) (fun s H C cl fp => (hk s H C cl fp).pe) (fun s H C cl fp => (he s H C cl fp).pe) hs) fun σ H Q ⟨H0, Z0, r, Z, o, R, h⟩ => dcompD_core R hS h⟩
def cSetD (i : Nat) (c : DC) : SC := fun r => c r >>= fun kts => .ret (.nx (r.set i (.dp kts)))
theorem cs_setD (i : Nat) {x : Str} {p' : Pos} {cd : DC} (hN : X.N.Nodup) (he : CD X w E e cd) (hi : X.N[i]? = some x := by rfl) (hx : Loc X.env.scope x := by first | exact Or.inl rfl | exact Or.inr rfl)
    (hs : swapsWith e (some (.Name x p')) pos.line X.env = pure false := by rfl) (hf : X.fn x = true ∨ X.env.scope.names.lookup x = some .local := by first | exact .inl rfl | exact .inr rfl | assumption) : CS X w E fr (.Assign [.Name x p'] e pos) (cSetD i cd) := by
  refine ⟨⟨fun pins s σ H D I h => ?_⟩⟩
  have hl := I.len
  refine (ps_set hN hi hx he.pe hs hf).run pins s σ H D I ?_
  obtain ⟨H0, Z0, r, Z, o, R, h⟩ := h
  refine ⟨H0, Z0, r, Z, o, R, G.wp_mono (G.wp_bind.mp h) (fun t ht p oo H' Z' g rt f => ?_) fun _ x => x⟩
  have hir : i < r.length := by rw [R.len, hl]; exact (List.getElem?_eq_some_iff.mp hi).1
  obtain ⟨f1, f2⟩ := Fresh.env R f
  exact ht _ H' Z' _ ((R.grow g).setS i hir ⟨p, rfl, rt⟩ f1 f2) g.zz

/-! ### x[k][j] op= e, x[k][j] = e -/
def rGetL (K : PySem.W.Frag) : V → V → Hp → VK → Prop := fun o i H Q => ∃ p xs j v, o = .ref p ∧ i = .int ((j : Nat) : Int) ∧ SqL K H p xs ∧ xs[j]? = some v ∧ Q v H
theorem get_list : PGet X (rGetL X.K) := by
  intro pins s σ H o i ov iv Q I ro ri h
  obtain ⟨p, xs, j, v, rfl, rfl, hq, he, q⟩ := h
  cases ro
  obtain ⟨t, rfl⟩ := ri
  obtain ⟨its, r, pl, hz⟩ := I.list hq
  obtain ⟨u, hu, ru⟩ := r.get he
  have hj := (List.getElem?_eq_some_iff.mp he).1
  have hn := line63
  exact wpAny_getItem_list pl.isList (Int.natCast_nonneg j) (by omega) (by simpa using hu) ⟨v, H, I, ru, q⟩
def natOf : T → Option Nat
  | .int n => if 0 ≤ n then some n.toNat else none
  | _ => none
def dpGet (kts : List (T × T)) (k : T) : Option (List T) := match keyT k with
  | some key => (match dGet kts key with | some (.lst ts) => some ts | _ => none)
  | none => none
def dpPut (r : List Sl) (i : Nat) (kts : List (T × T)) (k : T) (ts : List T) (m : Nat) (t : T) : G Ctl := .ret (.nx (r.set i (.dp (addD kts k (.lst (ts.set m t))))))
def augK (f : Int → Int → Int) : T → T → G T
  | .int a, .int b => .ret (.int (f a b))
  | _, _ => .stuck
def cDpAug (i : Nat) (ck cj : EC) (f : Int → Int → Int) (ce : EC) : SC := fun r => match r[i]? with
  | some (.dp kts) => ck r >>= fun k => match dpGet kts k with
    | some ts => cj r >>= fun j => match natOf j with
      | some m => (match ts[m]? with | some x => ce r >>= fun y => augK f x y >>= fun t => dpPut r i kts k ts m t | none => .stuck)
      | none => .stuck
    | none => .stuck
  | _ => .stuck
theorem dpGet_ok {K : PySem.W.Frag} {mg : Str → Option Value} {Z H : Hp} {kts : List (T × T)} {p : Addr} {oo : List Addr} {k : T} {ts : List T} {kv : V} {Zk : Hp} (rt : RootD K mg w Z H kts p oo) (e : dpGet kts k = some ts) (tk : Tr K mg w Zk k kv) :
    ∃ kvs key vs q, H p = some (.dK kvs) ∧ keyT k = some key ∧ kv = kV key ∧ valV kvs key = some (.ref q) ∧ q ∈ oo ∧ H q = some (.lst vs) ∧ vs.length ≤ sizeLine ∧ Trs K mg w Z ts vs ∧
      ∀ (vs' : List V) (ts' : List T), vs'.length ≤ sizeLine → Trs K mg w Z ts' vs' → RootD K mg w Z (upd H q (.lst vs')) (addD kts k (.lst ts')) p oo := by
  obtain ⟨qs, kvs, rfl, nd, hp, hl, tr⟩ := rt
  unfold dpGet at e
  cases ek : keyT k with
  | none => rw [ek] at e; cases e
  | some key =>
    rw [ek] at e
    simp only at e
    split at e
    · rename_i us eg
      cases e
      obtain ⟨ts2, vs, q, h1, h2, h3, h4, h5, h6⟩ := tr.get eg
      cases h1
      refine ⟨kvs, key, vs, q, hp, rfl, tk.key ek, h2, by simp [h3], h4, h5, h6, fun vs' ts' hl' ht' => ⟨qs, kvs, rfl, nd, ?_, hl, TrD.set ek hl' ht' tr (List.nodup_cons.mp nd).2 h2⟩⟩
      have ne : p ≠ q := fun z => (List.nodup_cons.mp nd).1 (by rw [z]; exact h3)
      rw [upd_ne ne]; exact hp
    · cases e
variable {ck cj ce : EC} {x : Str} {ke je ve : Expr} {p0 p1 tpos : Pos} {k : Nat}
theorem cs_dpAug {op : Operator} {f : Int → Int → Int} (i : Nat) (hu : X.A.units + 1 < cLine) (hk : CE X w E ke ck) (hj : CE X w E je cj) (hop : PIp X op (ipI f)) (hv : CE X w E ve ce) (hN : X.N[i]? = some x := by rfl) (hvs : Vis X.env.scope x := by first | exact Or.inl rfl | exact Or.inr (Or.inl rfl) | exact Or.inr (Or.inr rfl)) (hd : (x == ("__debug__" : Str)) = false := by decide)
    (hcd : (x == ("__classdict__" : Str)) = false := by decide) (hs : PlainIx ke := by exact fun _ _ => rfl) (ha : ∀ ov iv new, augStore je ov iv new = (do holding [new, ov, iv] (setItem ov iv new); release [new, ov, iv] []; pure .next) := by intros; rfl) :
    CS X w E fr (.AugAssign (.Subscript (.Subscript (.Name x p0) ke p1) je tpos) op ve pos) (cDpAug i ck cj f ce) := by
  refine ⟨psImp (ps_augS (pe_ix (ix_dict hu) (pe_var hN hvs hd hcd) hk.pe hs) hj.pe get_list hv.pe hop set_list ha) fun D σ H h => ?_⟩
  obtain ⟨H0, Z0, r, Z, o, R, h⟩ := h
  unfold cDpAug at h
  split at h
  · rename_i kts er
    obtain ⟨p, es, rt⟩ := R.ownD er
    refine ⟨.ref p, es, evSeqS R h fun kv H1 Z1 kt R1 g1 t1 h1 => ?_⟩
    split at h1
    · rename_i ts eg
      obtain ⟨p1', es1, rt1⟩ := R1.ownD er
      rw [es] at es1; cases es1
      obtain ⟨kvs, key, vs, q, hp, ek, ekv, hval, hqm, hq, hlq, htr, hset⟩ := dpGet_ok rt1 eg t1
      refine ⟨p, .ref q, rfl, .inl ⟨kvs, key, .inl hp, ekv, hval.symm⟩, evSeqS R1 h1 fun jv H2 Z2 jt R2 g2 t2 h2 => ?_⟩
      split at h2
      · rename_i m em
        split at h2
        · rename_i xt ex
          have hjv : jv = .int ((m : Nat) : Int) := by
            unfold natOf at em
            split at em
            · split at em
              · cases em; cases t2; congr 1; omega
              · cases em
            · cases em
          obtain ⟨v, hv1, tv1⟩ := htr.get ex
          have qw := (R1.fr i q hqm).2.2
          have hq2 : H2 q = some (.lst vs) := g2.hh q _ hq qw
          refine ⟨q, vs, m, v, rfl, hjv, SqL.of hq2, hv1, evSeqS R2 h2 fun yv H3 Z3 yt R3 g3 t3 h3 => ?_⟩
          unfold augK at h3
          split at h3
          · rename_i a b
            cases tv1; cases t3
            refine ⟨a, b, rfl, rfl, ?_⟩
            have hq3 : H3 q = some (.lst vs) := g3.hh q _ hq2 qw
            have hm : m < vs.length := (List.getElem?_eq_some_iff.mp hv1).1
            refine ⟨q, vs, (m : Int), m, rfl, hjv, hq3, ?_, ?_⟩
            · unfold ixN; rw [if_pos (by omega), if_pos (by omega)]; simp
            · obtain ⟨p3, es3, rt3⟩ := R3.ownD er
              rw [es] at es3; cases es3
              obtain ⟨kvs3, key3, vs3, q3, hp3, ek3, ekv3, hval3, hqm3, hqq3, hlq3, htr3, hset3⟩ := dpGet_ok rt3 eg (t1.mono (g2.trans g3).zz)
              have ep : H3 p = some (.dK kvs) := by
                obtain ⟨qs1, _, eo, _⟩ := rt1
                exact (g2.trans g3).hh p _ hp (R1.fr i p (by rw [eo]; simp)).2.2
              rw [hp3] at ep; cases ep
              rw [ek] at ek3; cases ek3
              rw [hval] at hval3; cases hval3
              rw [hq3] at hqq3; cases hqq3
              have rt4 := hset3 (vs.set m (.int (f a b))) (ts.set m (.int (f a b))) (by rw [List.length_set]; exact hlq3) (htr3.set (.int _) m)
              exact h3 σ _ Z3 o (R3.rewD er es hqm3 rt4) (Sub.refl _)
          · exact h3.elim
        · exact h2.elim
      · exact h2.elim
    · exact h1.elim
  · exact h.elim
/-- x[k][j] = e -/
def cDpPut (i : Nat) (ck cj ce : EC) : SC := fun r => match r[i]? with
  | some (.dp kts) => ce r >>= fun t => ck r >>= fun k => match dpGet kts k with
    | some ts => cj r >>= fun j => match natOf j with
      | some m => if m < ts.length then dpPut r i kts k ts m t else .stuck
      | none => .stuck
    | none => .stuck
  | _ => .stuck
theorem cs_dpPut (i : Nat) (hu : X.A.units + 1 < cLine) (hk : CE X w E ke ck) (hj : CE X w E je cj) (hv : CE X w E ve ce) (hN : X.N[i]? = some x := by rfl) (hvs : Vis X.env.scope x := by first | exact Or.inl rfl | exact Or.inr (Or.inl rfl) | exact Or.inr (Or.inr rfl)) (hd : (x == ("__debug__" : Str)) = false := by decide)
    (hcd : (x == ("__classdict__" : Str)) = false := by decide) (hs : PlainIx ke := by exact fun _ _ => rfl)
    (hs2 : swapsWithSole [.Subscript (.Subscript (.Name x p0) ke p1) je tpos] ve pos.line X.env = pure false := by rfl) (hw : swappedStores [.Subscript (.Subscript (.Name x p0) ke p1) je tpos] ve X.env = pure none := by rfl)
    (h1 : (assignEach [.Subscript (.Subscript (.Name x p0) ke p1) je tpos] X.env).map (·.2) = [assign (.Subscript (.Subscript (.Name x p0) ke p1) je tpos) X.env] := by rfl)
    (ha : ∀ v, assign (.Subscript (.Subscript (.Name x p0) ke p1) je tpos) X.env v = (do
      let ov ← holding [v] (eval (.Subscript (.Name x p0) ke p1) X.env)
      let iv ← holding [v, ov] (eval je X.env)
      standAt tpos
      holding [v, ov, iv] (setItem ov iv v)
      release [v, ov, iv] []) := by intro _; rfl) :
    CS X w E fr (.Assign [.Subscript (.Subscript (.Name x p0) ke p1) je tpos] ve pos) (cDpPut i ck cj ce) := by
  refine ⟨psImp (ps_asg hv.pe (pg_sub (pe_ix (ix_dict hu) (pe_var hN hvs hd hcd) hk.pe hs) hj.pe set_list ha) hs2 hw h1) fun D σ H h => ?_⟩
  obtain ⟨H0, Z0, r, Z, o, R, h⟩ := h
  unfold cDpPut at h
  split at h
  · rename_i kts er
    refine evSeqS R h fun yv H1 Z1 yt R1 g1 t1 h1 => ?_
    obtain ⟨p, es, rt⟩ := R1.ownD er
    refine ⟨.ref p, es, evSeqS R1 h1 fun kv H2 Z2 kt R2 g2 t2 h2 => ?_⟩
    split at h2
    · rename_i ts eg
      obtain ⟨p1', es1, rt1⟩ := R2.ownD er
      rw [es] at es1; cases es1
      obtain ⟨kvs, key, vs, q, hp, ek, ekv, hval, hqm, hq, hlq, htr, hset⟩ := dpGet_ok rt1 eg t2
      refine ⟨p, .ref q, rfl, .inl ⟨kvs, key, .inl hp, ekv, hval.symm⟩, evSeqS R2 h2 fun jv H3 Z3 jt R3 g3 t3 h3 => ?_⟩
      split at h3
      · rename_i m em
        by_cases hm : m < ts.length
        · rw [if_pos hm] at h3
          have hjv : jv = .int ((m : Nat) : Int) := by
            unfold natOf at em
            split at em
            · split at em
              · cases em; cases t3; congr 1; omega
              · cases em
            · cases em
          have qw := (R2.fr i q hqm).2.2
          have hq3 : H3 q = some (.lst vs) := g3.hh q _ hq qw
          have hlen := htr.length
          refine ⟨q, vs, (m : Int), m, rfl, hjv, hq3, ?_, ?_⟩
          · unfold ixN; rw [if_pos (by omega), if_pos (by omega)]; simp
          · obtain ⟨p3, es3, rt3⟩ := R3.ownD er
            rw [es] at es3; cases es3
            obtain ⟨kvs3, key3, vs3, q3, hp3, ek3, ekv3, hval3, hqm3, hqq3, hlq3, htr3, hset3⟩ := dpGet_ok rt3 eg (t2.mono g3.zz)
            have ep : H3 p = some (.dK kvs) := by
              obtain ⟨qs1, _, eo, _⟩ := rt1
              exact g3.hh p _ hp (R2.fr i p (by rw [eo]; simp)).2.2
            rw [hp3] at ep; cases ep
            rw [ek] at ek3; cases ek3
            rw [hval] at hval3; cases hval3
            rw [hq3] at hqq3; cases hqq3
            have rt4 := hset3 (vs.set m yv) (ts.set m yt) (by rw [List.length_set]; exact hlq3) (htr3.set (t1.mono (g2.trans g3).zz) m)
            exact h3 σ _ Z3 o (R3.rewD er es hqm3 rt4) (Sub.refl _)
        · rw [if_neg hm] at h3; exact h3.elim
      · exact h3.elim
    · exact h2.elim
  · exact h.elim
end
end TL
end s_TL62
section s_TL63
set_option Elab.async false
set_option linter.all false
set_option maxRecDepth 100000
set_option maxHeartbeats 4000000
/-! TL63: sorted(d), sorted(l) of texts, sum(l) -/
namespace TL
open PySem PySem.Spec PyProof.Rows L2
def insS (x : Str) : List Str → List Str
  | [] => [x]
  | y :: r => if y.cps.toList < x.cps.toList then y :: insS x r else x :: y :: r
def sortStr : List Str → List Str
  | [] => []
  | x :: r => insS x (sortStr r)
theorem insS_perm (x : Str) : ∀ l : List Str, (insS x l).Perm (x :: l)
  | [] => List.Perm.refl _
  | y :: r => by
    unfold insS
    split
    · exact ((insS_perm x r).cons y).trans (List.Perm.swap x y r)
    · exact List.Perm.refl _
theorem sortStr_perm : ∀ l : List Str, (sortStr l).Perm l
  | [] => List.Perm.refl _
  | x :: r => (insS_perm x (sortStr r)).trans ((sortStr_perm r).cons x)
abbrev LeS (a b : Str) : Prop := ¬ b.cps.toList < a.cps.toList
theorem leS_trans {a b c : Str} (h : LeS a b) (g : LeS b c) : LeS a c := fun z => by
  have h' : a.cps.toList ≤ b.cps.toList := List.not_lt.mp h
  have g' : b.cps.toList ≤ c.cps.toList := List.not_lt.mp g
  exact List.not_lt.mpr (List.le_trans h' g') z
theorem leS_anti {a b : Str} (h : LeS a b) (g : LeS b a) : a = b := by
  have e : a.cps.toList = b.cps.toList := List.le_antisymm (List.not_lt.mp h) (List.not_lt.mp g)
  cases a; cases b
  congr 1
  exact Array.ext' e
theorem insS_mem {x y : Str} {l : List Str} (h : y ∈ insS x l) : y = x ∨ y ∈ l := by
  have := (insS_perm x l).mem_iff.mp h
  simpa using this
theorem insS_sorted (x : Str) : ∀ l : List Str, l.Pairwise LeS → (insS x l).Pairwise LeS
  | [], _ => by simp [insS]
  | y :: r, h => by
    obtain ⟨h1, h2⟩ := List.pairwise_cons.mp h
    unfold insS
    split
    · rename_i q
      refine List.pairwise_cons.mpr ⟨fun z hz => ?_, insS_sorted x r h2⟩
      rcases insS_mem hz with rfl | hz
      · exact fun w => List.lt_irrefl _ (List.lt_trans q w)
      · exact h1 z hz
    · rename_i q
      refine List.pairwise_cons.mpr ⟨fun z hz => ?_, h⟩
      rcases List.mem_cons.mp hz with rfl | hz
      · exact q
      · exact leS_trans q (h1 z hz)
theorem sortStr_sorted : ∀ l : List Str, (sortStr l).Pairwise LeS
  | [] => List.Pairwise.nil
  | x :: r => insS_sorted x _ (sortStr_sorted r)
theorem rising_pair : ∀ (l : List Str) (p : Str), risingS p l = true → (p :: l).Pairwise LeS
  | [], p, _ => by simp
  | x :: r, p, h => by
    unfold risingS at h
    rw [Bool.and_eq_true] at h
    have h2 := rising_pair r x h.2
    have h1 : LeS p x := by
      have := h.1
      rw [ltCps_eq] at this
      simpa using this
    refine List.pairwise_cons.mpr ⟨fun z hz => ?_, h2⟩
    rcases List.mem_cons.mp hz with rfl | hz
    · exact h1
    · exact leS_trans h1 ((List.pairwise_cons.mp h2).1 z hz)
theorem sortedS_pair : ∀ (l : List Str), sortedS l = true → l.Pairwise LeS
  | [], _ => List.Pairwise.nil
  | x :: r, h => rising_pair r x h
theorem sort_uniq : ∀ {l l' : List Str}, l.Perm l' → l.Pairwise LeS → l'.Pairwise LeS → l = l'
  | [], l', p, _, _ => (List.perm_nil.mp p.symm).symm
  | x :: r, [], p, _, _ => by simp at p
  | x :: r, y :: r', p, h, h' => by
    obtain ⟨h1, h2⟩ := List.pairwise_cons.mp h
    obtain ⟨g1, g2⟩ := List.pairwise_cons.mp h'
    have e : x = y := by
      have hy : y ∈ x :: r := p.symm.mem_iff.mp (by simp)
      have hx : x ∈ y :: r' := p.mem_iff.mp (by simp)
      rcases List.mem_cons.mp hy with q | q
      · exact q.symm
      · rcases List.mem_cons.mp hx with q' | q'
        · exact q'
        · exact leS_anti (h1 y q) (g1 x q')
    subst e
    rw [sort_uniq (p.cons_inv) h2 g2]
theorem sortedS_eq {ys ks : List Str} (p : ys.Perm ks) (h : sortedS ys = true) : ys = sortStr ks := sort_uniq (p.trans (sortStr_perm ks).symm) (sortedS_pair ys h) (sortStr_sorted ks)
def strT : T → Option Str
  | .str x => some x
  | _ => none
def strTs : List T → Option (List Str)
  | [] => some []
  | t :: r => match strT t, strTs r with | some x, some xs => some (x :: xs) | _, _ => none
theorem strTs_eq : ∀ {ts : List T} {ks : List Str}, strTs ts = some ks → ts = ks.map T.str
  | [], ks, e => by cases e; rfl
  | t :: r, ks, e => by
    unfold strTs at e
    split at e
    · rename_i x xs e1 e2
      cases e
      rw [strTs_eq e2]
      cases t <;> simp only [strT, Option.some.injEq, reduceCtorEq] at e1
      subst e1; rfl
    · cases e
def fSorted : List T → G T
  | [.dic kts] => (match strTs (kts.map (·.1)) with | some ks => if ks.length < 64 then .ret (.lst ((sortStr ks).map .str)) else .stuck | none => .stuck)
  | [.lst ts] => (match strTs ts with | some ks => if ks.length < 64 then .ret (.lst ((sortStr ks).map .str)) else .stuck | none => .stuck)
  | _ => .stuck
def rSortA (K : PySem.W.Frag) : List V → Hp → VK → Prop := fun xs H Q => (∃ (a : Addr) (kvs : List (Key × V)) (ks : List Str), xs = [.ref a] ∧ Rd H a (.dK kvs) ∧ kvs.map (·.1) = ks.map Sum.inr ∧ ks.length < 64 ∧
    ∀ ys p, ys.Perm ks → sortedS ys = true → H p = none → Q (.ref p) (upd H p (.lst (ys.map V.str)))) ∨ rSortedS K xs H Q
section
variable {X : Cx} {M : Km} {w : Wd} {E : XK}
theorem cr_sortA (hc : X.calm = true) : CallR X (.builtin "sorted") (rSortA X.K) := by
  intro pins s σ H xs us Q I r q
  rcases q with q | q
  · exact call_sortedD hc pins s σ H xs us Q I r q
  · exact cr_sortedS pins s σ H xs us Q I r q
theorem Trd.keys {K : PySem.W.Frag} {mg : Str → Option Value} {Z : Hp} : ∀ {kts : List (T × T)} {kvs : List (Key × V)} {ks : List Str}, Trd K mg w Z kts kvs → strTs (kts.map (·.1)) = some ks → kvs.map (·.1) = ks.map Sum.inr
  | _, _, ks, .nil, e => by cases e; rfl
  | _, _, ks, .cons (k := k) (kts := kts) ek tv r, e => by
    rw [List.map_cons] at e
    unfold strTs at e
    split at e
    · rename_i x xs e1 e2
      cases e
      cases k <;> simp only [strT, Option.some.injEq, reduceCtorEq] at e1
      subst e1
      cases ek
      rw [List.map_cons, List.map_cons, Trd.keys r e2]
    · cases e
theorem trs_strT {K : PySem.W.Frag} {mg : Str → Option Value} {Z : Hp} : ∀ (ks : List Str), Trs K mg w Z (ks.map T.str) (ks.map V.str)
  | [] => .nil
  | _ :: r => .cons (.str _) (trs_strT r)
theorem tn_sorted : TNF M w E (rSortA M.K) fSorted := fun H0 Z0 r σ H Z o R ts vs Q tr hw => by
  unfold fSorted at hw
  split at hw
  · rename_i kts
    obtain ⟨v, rfl, tv⟩ := trs1 tr
    cases tv with
    | @dic _ p kvs hq hz trd =>
      split at hw
      · rename_i ks ek
        by_cases h64 : ks.length < 64
        · rw [if_pos h64] at hw
          refine .inl ⟨p, kvs, ks, rfl, Sub.rd R.good.zh hq.rd, trd.keys ek, h64, fun ys c py sy hc => ?_⟩
          rw [sortedS_eq py sy]
          exact hw c [c] _ Z (Grow.laid R.good hc) ⟨rfl, _, upd_same, by rw [List.length_map, (sortStr_perm ks).length_eq]; exact Nat.le_of_lt (small1000 (by omega)), trs_strT _⟩ (Grow.newRoot R.good hc)
        · rw [if_neg h64] at hw; exact False.elim hw
      · exact False.elim hw
  · rename_i us
    obtain ⟨v, rfl, tv⟩ := trs1 tr
    cases tv with
    | @lst _ p vs hq hz trs =>
      split at hw
      · rename_i ks ek
        by_cases h64 : ks.length < 64
        · rw [if_pos h64] at hw
          have e := strTs_eq ek
          subst e
          have ev : vs = ks.map V.str := by
            clear hw h64 ek hz hq tr
            induction ks generalizing vs with
            | nil => cases trs; rfl
            | cons k ks ih =>
              cases trs with
              | cons a b => cases a; rw [List.map_cons, ih b]
          subst ev
          refine .inr ⟨p, ks, rfl, SqL.of (R.good.zh _ _ hq), h64, fun ys c py sy hc => ?_⟩
          rw [sortedS_eq py sy]
          exact hw c [c] _ Z (Grow.laid R.good hc) ⟨rfl, _, upd_same, by rw [List.length_map, (sortStr_perm ks).length_eq]; exact Nat.le_of_lt (small1000 (by omega)), trs_strT _⟩ (Grow.newRoot R.good hc)
        · rw [if_neg h64] at hw; exact False.elim hw
      · exact False.elim hw
  · exact False.elim hw
def intTs : List T → Option (List Int)
  | [] => some []
  | .int i :: r => (match intTs r with | some is => some (i :: is) | none => none)
  | _ => none
theorem Trs.ints {K : PySem.W.Frag} {mg : Str → Option Value} {Z : Hp} : ∀ {ts : List T} {vs : List V} {is : List Int}, Trs K mg w Z ts vs → intTs ts = some is → vs = is.map V.int
  | _, _, is, .nil, e => by cases e; rfl
  | _, _, is, .cons (t := t) a b, e => by
    cases t <;> simp only [intTs, reduceCtorEq] at e
    split at e
    · rename_i js ej
      cases e
      cases a
      rw [List.map_cons, Trs.ints b ej]
    · cases e
def fSum : List T → G T
  | [.lst ts] => (match intTs ts with | some is => .ret (.int is.sum) | none => .stuck)
  | _ => .stuck
theorem tn_sum : TN M w E (rSum M.K) fSum := fun H0 Z0 r σ H Z o R ts vs Q tr hw => by
  unfold fSum at hw
  split at hw
  · rename_i us
    obtain ⟨v, rfl, tv⟩ := trs1 tr
    cases tv with
    | @lst _ p vs hq hz trs =>
      split at hw
      · rename_i is ei
        have e := trs.ints ei
        subst e
        exact ⟨p, is, rfl, SqL.of (R.good.zh _ _ hq), hw _ H Z (Grow.refl R.good) (.int _)⟩
      · exact False.elim hw
  · exact False.elim hw
end
end TL
end s_TL63
section s_TL64
set_option Elab.async false
set_option linter.all false
set_option maxRecDepth 100000
set_option maxHeartbeats 4000000
/-! TL64: == of two dicts of data that are equal -/
namespace TL
open PySem PySem.Spec PyProof.Rows L2
def EqDp (K : PySem.W.Frag) (H : Hp) (x y : V) : Prop := ∃ d e, Dp K H x d ∧ Dp K H y e ∧ SeqAt.shaped d = true ∧ SeqAt.shaped e = true ∧ PyData.eqv d e = true
def rEqDD (K : PySem.W.Frag) : R2 := fun x y H Q => ∃ a b ks ls, x = .ref a ∧ y = .ref b ∧ Rd H a (.dK ks) ∧ Rd H b (.dK ls) ∧ ks.length = ls.length ∧ (∀ p ∈ ks, ∃ u, valV ls p.1 = some u ∧ EqDp K H p.2 u) ∧ Q (.bl true) H
theorem op_eqDD {X : Cx} (hu : X.A.units + 66 < cLine) : OpR X (compareOp .Eq) (rEqDD X.K) := by
  intro pins s σ H x y v u Q I rx ry h
  obtain ⟨a, b, ks, ls, rfl, rfl, ha, hb, hl, hp, q⟩ := h
  cases (show v = Value.ref a from rx)
  cases (show u = Value.ref b from ry)
  obtain ⟨_, ya, va, ra, da⟩ := dk_rd I.hok ha
  obtain ⟨_, yb, vb, rb, db⟩ := dk_rd I.hok hb
  have ih : ∀ x y v u, EqDp X.K H x y → RelV x v → RelV y u → SeqAt.EqP X.prog X.w X.A.in1 s v u true := by
    intro x y v u ⟨d, e, hd, he, sd, se, hq⟩ rx ry
    obtain ⟨as, r1⟩ := Dp.reads I d x v hd rx
    obtain ⟨bs, r2⟩ := Dp.reads I e y u he ry
    have := SeqAt.eqAt_reads d e X.A.in1 s v u as bs r1 r2 (SeqAt.canLay_of_shaped sd) (SeqAt.canLay_of_shaped se) (SeqAt.room_of_shaped sd (by show X.A.units + 1 + 64 < cLine; omega))
    rw [hq] at this
    exact this.eqP
  refine PySem.W.rcP_dicts (knd := mixKind X.prog X.w) (r := true) ya yb da db (by omega) (fun _ => hits_run ih rb ra hp) _ _ ?_
  have e : va.length = vb.length := by rw [← ra.length, ← rb.length]; exact hl
  rw [show (va.length == vb.length && true) = true from by rw [e]; simp]
  exact ⟨.bl true, H, I, rfl, q⟩
def eqDic (kts lts : List (T × T)) : Bool := kts.all fun p => match keyT p.1 with
  | some key => (match dGet lts key with | some u => okT p.2 && okT u && eqT p.2 u | none => false)
  | none => false
def fEqA : T → T → G T
  | .dic kts, .dic lts => if kts.length = lts.length ∧ eqDic kts lts = true then .ret (.bl true) else .stuck
  | a, b => fEq a b
section
variable {M : Km} {X : Cx} {w : Wd} {E : XK} {k : Nat}
theorem okT_ex {t : T} (h : okT t = true) : ∃ d, toPy t = some d ∧ SeqAt.shaped d = true := by
  unfold okT at h
  cases e : toPy t with
  | none => rw [e] at h; cases h
  | some d => rw [e] at h; exact ⟨d, rfl, h⟩
theorem Trd.eachV {K : PySem.W.Frag} {mg : Str → Option Value} {Z : Hp} : ∀ {kts : List (T × T)} {kvs : List (Key × V)}, Trd K mg w Z kts kvs → ∀ p ∈ kvs, ∃ q ∈ kts, keyT q.1 = some p.1 ∧ Tr K mg w Z q.2 p.2
  | _, _, .nil, p, hp => (nomatch hp)
  | _, _, .cons (k := k) (t := t) e a r, p, hp => by
    rcases List.mem_cons.mp hp with rfl | hp
    · exact ⟨(k, t), by simp, e, a⟩
    · obtain ⟨q, hq, h1, h2⟩ := Trd.eachV r p hp
      exact ⟨q, by simp [hq], h1, h2⟩
theorem o_eqA (hr : Room k X.A) : OpR X (compareOp .Eq) (fun x y H Q => rEqDD X.K x y H Q ∨ (rEq x y H Q ∨ rEqD X.K x y H Q)) := (op_eqDD (by have := hr.un; omega)).or (o_eq hr)
theorem t2_eqA : T2 M w E (fun x y H Q => rEqDD M.K x y H Q ∨ (rEq x y H Q ∨ rEqD M.K x y H Q)) fEqA := fun H0 Z0 r σ H Z o R a b x y Q ta tb hw => by
  have other : (fEq a b).wp (Post M.km w H Z Q) (PostX M.km w E H0 Z0) → (rEqDD M.K x y H Q ∨ (rEq x y H Q ∨ rEqD M.K x y H Q)) := fun h => Or.inr (t2_eq H0 Z0 r σ H Z o R a b x y Q ta tb h)
  cases ta with
  | @dic kts p kvs hq hz tr =>
    cases tb with
    | @dic lts p2 lvs hq2 hz2 tr2 =>
      simp only [fEqA] at hw
      split at hw
      · rename_i hc
        refine .inl ⟨p, p2, kvs, lvs, rfl, rfl, Sub.rd R.good.zh hq.rd, Sub.rd R.good.zh hq2.rd, by rw [← tr.length, ← tr2.length]; exact hc.1, fun pv hpv => ?_, hw _ H Z (Grow.refl R.good) (.bl _)⟩
        obtain ⟨q, hqm, ek, tq⟩ := tr.eachV pv hpv
        have hall := List.all_eq_true.mp hc.2 q hqm
        rw [ek] at hall
        simp only at hall
        rcases tr2.get (k := pv.1) with ⟨e1, _⟩ | ⟨t, v, e1, e2, tv⟩
        · rw [e1] at hall; cases hall
        · rw [e1] at hall
          simp only [Bool.and_eq_true] at hall
          obtain ⟨⟨o1, o2⟩, o3⟩ := hall
          obtain ⟨d1, f1, s1⟩ := okT_ex o1
          obtain ⟨d2, f2, s2⟩ := okT_ex o2
          refine ⟨v, e2, d1, d2, tq.dp R.good.zh f1, tv.dp R.good.zh f2, s1, s2, ?_⟩
          unfold eqT at o3
          rw [f1, f2] at o3
          exact o3
      · exact False.elim hw
    | _ => exact other hw
  | _ => exact other (by cases tb <;> exact hw)
end
end TL
end s_TL64
section s_G11
set_option Elab.async false
set_option linter.all false
set_option maxRecDepth 100000
set_option maxHeartbeats 4000000
namespace LW
open PySem PySem.Spec PyProof.Rows L2 TL
def topS (i : Nat) : Stmt := PySem.Challenge.pw_saidagain_k11_windows_by_hand.main.body.getD i (.Pass ⟨0, 0, 0, 0⟩)
def tab : List (Str × T) := [("first", .tup [.int 1, .int 2]), ("window", .tup [.non, .int 1, .int 2, .int 3]), ("renew", .tup [.bl false, .bl true]), ("nth", .tup [.int 0, .int 1, .int 2]), ("ahead", .tup [.bl false, .bl true]), ("atend", .tup [.bl false, .bl true]), ("most", .tup [.int 1, .int 2, .int 3]), ("full", .tup [.str "stop", .str "tell"]), ("slots", .tup [.non, .int 1, .int 2]), ("farewell", .tup [.bl false, .bl true])]
abbrev s_Rule_parts : Stmt := inBody (clsBody (topS 12)) 1
abbrev s_Rule_first : Stmt := inBody (clsBody (topS 12)) 2
abbrev s_Rule_window : Stmt := inBody (clsBody (topS 12)) 3
abbrev s_Rule_renew : Stmt := inBody (clsBody (topS 12)) 4
abbrev s_Rule_nth : Stmt := inBody (clsBody (topS 12)) 5
abbrev s_Rule_ahead : Stmt := inBody (clsBody (topS 12)) 6
abbrev s_Rule_atend : Stmt := inBody (clsBody (topS 12)) 7
abbrev s_Rule_most : Stmt := inBody (clsBody (topS 12)) 8
abbrev s_Rule_full : Stmt := inBody (clsBody (topS 12)) 9
abbrev s_Rule_slots : Stmt := inBody (clsBody (topS 12)) 10
abbrev s_Rule_farewell : Stmt := inBody (clsBody (topS 12)) 11
abbrev s_is_value : Stmt := topS 11
theorem sc_is_value : FnScope ["part", "thing", "one"] ["part", "thing"] (defScope s_is_value) := ⟨rfl, rfl, rfl, by decide +kernel, rfl, by decide +kernel, by decide +kernel⟩
@[irreducible] def c_is_value : SC := (cSeq (cIfS (cAndT (cB (cOp1 fNotN (cVar 1))) (cNotT (cB (cOp1 (fIsi "Rule" [.ty "int", .ty "str"]) (cVar 1))))) (cRet (cC (.bl false)))
  (fun r => .ret (.nx r)))
  (cRet (cCall fAny (caCons (cComp (fun r => (cOp2 (fTab "PARTS" tab) (cC (.fn "PARTS")) (cVar 0)) r >>= anyOf) (gcName 2) (fun _ => .ret true) (cAndV (cOp2 fEq (cVar 2) (cVar 1)) (cOp2 fEq (cOp1 (fIsi "Rule" [.ty "bool"]) (cVar 2)) (cOp1 (fIsi "Rule" [.ty "bool"]) (cVar 1)))) [2]) caNil))))
theorem bd_is_value {P : Program} {wd : World} {K : PySem.W.Frag} {mg : Str → Option Value} {base : Heap} (m_isinstance : mg "isinstance" = none) (isR : InsT K mg "Rule") (m_int : mg "int" = none) (m_str : mg "str" = none) (KT : KTb K mg wd "PARTS" tab) (m_bool : mg "bool" = none) (m_any : mg "any" = none) : ∀ (f : Addr) (cdv : Value) (A : Around) (outer : List Env) (s : Shared) (H : Hp) (w : Wd) (E : XK), Bd (bx P wd K mg base ["part", "thing", "one"] "is_value" s_is_value f cdv A outer s H E) 0 E → CSs (bx P wd K mg base ["part", "thing", "one"] "is_value" s_is_value f cdv A outer s H E) w E false (defBody s_is_value) c_is_value := by
  intro f cdv A outer s H w E B
  unfold c_is_value
  exact (css_cons (cs_if ((cw_and (ct_notN (ce_var 1)) (cw_and1 (ct_not (ct_val (ce_isBT (ns := ["int", "str"]) isR (by rfl) m_isinstance (ce_var 1) (pac_cons (pe_bltn (by rfl) m_int (by rfl) (by rfl)) (pac_cons (pe_bltn (by rfl) m_str (by rfl) (by rfl)) pac_nil)))))))).ct (css_one (cs_ret ce_bl))
  css_nil)
  (css_one (cs_ret (ce_callB (cr_any rfl) tn_any (by rfl) m_any (by rfl) (ca_cons ((cf_comp (own := [("one", 2)]) sc_is_value.nd (ci_any (ce_tabIx KT (ce_tab KT (by rfl)) (ce_var 0))) (blkOk_by (by rfl)) (fun s H C cl fp => (cg_name 2 sc_is_value.nd)) (fun s H C cl fp => cts_nil) (fun s H C cl fp => (ce_and (ce_cmp (o_eq (B.blk s H _ _ fp).hr) t2_eq (ce_var 2) (ce_var 1)) (ce_one (ce_cmp (o_eq (B.blk s H _ _ fp).hr) t2_eq (ce_isB isR (by rfl) m_isinstance (ce_var 2) (pe_bltn (by rfl) m_bool (by rfl) (by rfl))) (ce_isB isR (by rfl) m_isinstance (ce_var 1) (pe_bltn (by rfl) m_bool (by rfl) (by rfl))))))))).ce ca_nil)))))
theorem ok_is_value {P : Program} {wd : World} {K : PySem.W.Frag} {mg : Str → Option Value} {base : Heap} (A : FunAt K mg "is_value" "is_value" s_is_value ["part", "thing"]) (m_isinstance : mg "isinstance" = none) (isR : InsT K mg "Rule") (m_int : mg "int" = none) (m_str : mg "str" = none) (KT : KTb K mg wd "PARTS" tab) (m_bool : mg "bool" = none) (m_any : mg "any" = none) : CallT P wd K mg base 1 "is_value" 2 (runB c_is_value 3) :=
  fn_at (k := 0) (c := c_is_value) A sc_is_value (bd_is_value m_isinstance isR m_int m_str KT m_bool m_any)
theorem okS_is_value {P : Program} {wd : World} {K : PySem.W.Frag} {mg : Str → Option Value} {base : Heap} {n : Nat} {ks : List Str} {perm : List Nat} {dts : List T} (A : FunAtS K mg "is_value" "is_value" s_is_value ["part", "thing"] n ks perm dts) (hp : perm.length = 2) (hl : ∀ i ∈ perm, i < n + ks.length + dts.length) (m_isinstance : mg "isinstance" = none) (isR : InsT K mg "Rule") (m_int : mg "int" = none) (m_str : mg "str" = none) (KT : KTb K mg wd "PARTS" tab) (m_bool : mg "bool" = none) (m_any : mg "any" = none) : CallS P wd K mg base 1 "is_value" n ks perm dts 2 (runB c_is_value 3) :=
  fnS_at (k := 0) (c := c_is_value) A sc_is_value hp hl (bd_is_value m_isinstance isR m_int m_str KT m_bool m_any)
abbrev s_Rule___init__ : Stmt := inBody (clsBody (topS 12)) 0
theorem sc_Rule___init__ : FnScope ["self", "first", "window", "renew", "nth", "ahead", "atend", "most", "full", "slots", "farewell", "values", "part", "value"] ["self", "first", "window", "renew", "nth", "ahead", "atend", "most", "full", "slots", "farewell"] (defScope s_Rule___init__) := ⟨rfl, rfl, rfl, by decide +kernel, rfl, by decide +kernel, by decide +kernel⟩
@[irreducible] def c_Rule___init___b1 : SC := (cIfS (cNotT (cB (cCall (runB c_is_value 3) (caCons (cVar 12) (caCons (cVar 13) caNil))))) (fun _ => .stuck)
  (fun r => .ret (.nx r)))
@[irreducible] def c_Rule___init__ : SC := (cSeq (cSet 11 (cTup (caCons (cVar 1) (caCons (cVar 2) (caCons (cVar 3) (caCons (cVar 4) (caCons (cVar 5) (caCons (cVar 6) (caCons (cVar 7) (caCons (cVar 8) (caCons (cVar 9) (caCons (cVar 10) caNil))))))))))))
  (cSeq (cFor (fun r => (caCons (cC (.fn "PARTS")) (caCons (cVar 11) caNil)) r >>= zipOf "PARTS" tab) (gcTup 2 (gcsCons (gcName 12) (gcsCons (gcName 13) gcsNil)))
  c_Rule___init___b1)
  (cSeq (cFldMe 0 "Rule" "own_parts" (cVar 11))
  (cSeq (cFldMe 0 "Rule" "own_first" (cVar 1))
  (cSeq (cFldMe 0 "Rule" "own_window" (cVar 2))
  (cSeq (cFldMe 0 "Rule" "own_renew" (cVar 3))
  (cSeq (cFldMe 0 "Rule" "own_nth" (cVar 4))
  (cSeq (cFldMe 0 "Rule" "own_ahead" (cVar 5))
  (cSeq (cFldMe 0 "Rule" "own_atend" (cVar 6))
  (cSeq (cFldMe 0 "Rule" "own_most" (cVar 7))
  (cSeq (cFldMe 0 "Rule" "own_full" (cVar 8))
  (cSeq (cFldMe 0 "Rule" "own_slots" (cVar 9))
  (cFldMe 0 "Rule" "own_farewell" (cVar 10))))))))))))))
theorem bd_Rule___init__ {P : Program} {wd : World} {K : PySem.W.Frag} {mg : Str → Option Value} {base : Heap} (KT : KTb K mg wd "PARTS" tab) (m_zip : mg "zip" = none) (C_is_value : CallT P wd K mg base 1 "is_value" 2 (runB c_is_value 3)) (fd_own_parts : FldT K mg "Rule" "own_parts") (fd_own_first : FldT K mg "Rule" "own_first") (fd_own_window : FldT K mg "Rule" "own_window") (fd_own_renew : FldT K mg "Rule" "own_renew") (fd_own_nth : FldT K mg "Rule" "own_nth") (fd_own_ahead : FldT K mg "Rule" "own_ahead") (fd_own_atend : FldT K mg "Rule" "own_atend") (fd_own_most : FldT K mg "Rule" "own_most") (fd_own_full : FldT K mg "Rule" "own_full") (fd_own_slots : FldT K mg "Rule" "own_slots") (fd_own_farewell : FldT K mg "Rule" "own_farewell") : ∀ (f : Addr) (cdv : Value) (A : Around) (outer : List Env) (s : Shared) (H : Hp) (w : Wd) (E : XK), Bd (bx P wd K mg base ["self", "first", "window", "renew", "nth", "ahead", "atend", "most", "full", "slots", "farewell", "values", "part", "value"] "Rule.__init__" s_Rule___init__ f cdv A outer s H E) 1 E → CSs (bx P wd K mg base ["self", "first", "window", "renew", "nth", "ahead", "atend", "most", "full", "slots", "farewell", "values", "part", "value"] "Rule.__init__" s_Rule___init__ f cdv A outer s H E) w E false (defBody s_Rule___init__) c_Rule___init__ := by
  intro f cdv A outer s H w E B
  unfold c_Rule___init__
  unfold c_Rule___init___b1
  exact (css_cons (cs_set 11 sc_Rule___init__.nd (ce_tup (ca_cons (ce_var 1) (ca_cons (ce_var 2) (ca_cons (ce_var 3) (ca_cons (ce_var 4) (ca_cons (ce_var 5) (ca_cons (ce_var 6) (ca_cons (ce_var 7) (ca_cons (ce_var 8) (ca_cons (ce_var 9) (ca_cons (ce_var 10) ca_nil)))))))))) (len_cons (len_cons (len_cons (len_cons (len_cons (len_cons (len_cons (len_cons (len_cons (len_cons len_nil))))))))))))
  (css_cons (cs_for B.po (ci_zip KT (by rfl) m_zip (ca_cons (ce_tab KT (by rfl)) (ca_cons (ce_var 11) ca_nil))) (cg_tup (cgs_cons (cg_name 12 sc_Rule___init__.nd) (cgs_cons (cg_name 13 sc_Rule___init__.nd) cgs_nil)))
  (css_one (cs_if (ct_not (ct_val (ce_fn B C_is_value (ca_cons (ce_var 12) (ca_cons (ce_var 13) ca_nil)) (len_cons (len_cons len_nil))))) (css_one cs_never)
  css_nil)))
  (css_cons (cs_fldMeT 0 fd_own_parts (ce_var 11))
  (css_cons (cs_fldMeT 0 fd_own_first (ce_var 1))
  (css_cons (cs_fldMeT 0 fd_own_window (ce_var 2))
  (css_cons (cs_fldMeT 0 fd_own_renew (ce_var 3))
  (css_cons (cs_fldMeT 0 fd_own_nth (ce_var 4))
  (css_cons (cs_fldMeT 0 fd_own_ahead (ce_var 5))
  (css_cons (cs_fldMeT 0 fd_own_atend (ce_var 6))
  (css_cons (cs_fldMeT 0 fd_own_most (ce_var 7))
  (css_cons (cs_fldMeT 0 fd_own_full (ce_var 8))
  (css_cons (cs_fldMeT 0 fd_own_slots (ce_var 9))
  (css_one (cs_fldMeT 0 fd_own_farewell (ce_var 10)))))))))))))))
theorem ok_Rule___init__ {P : Program} {wd : World} {K : PySem.W.Frag} {mg : Str → Option Value} {base : Heap} (A : InitAt K mg "Rule" "__init__" "Rule.__init__" s_Rule___init__ ["self", "first", "window", "renew", "nth", "ahead", "atend", "most", "full", "slots", "farewell"]) (KT : KTb K mg wd "PARTS" tab) (m_zip : mg "zip" = none) (C_is_value : CallT P wd K mg base 1 "is_value" 2 (runB c_is_value 3)) (fd_own_parts : FldT K mg "Rule" "own_parts") (fd_own_first : FldT K mg "Rule" "own_first") (fd_own_window : FldT K mg "Rule" "own_window") (fd_own_renew : FldT K mg "Rule" "own_renew") (fd_own_nth : FldT K mg "Rule" "own_nth") (fd_own_ahead : FldT K mg "Rule" "own_ahead") (fd_own_atend : FldT K mg "Rule" "own_atend") (fd_own_most : FldT K mg "Rule" "own_most") (fd_own_full : FldT K mg "Rule" "own_full") (fd_own_slots : FldT K mg "Rule" "own_slots") (fd_own_farewell : FldT K mg "Rule" "own_farewell") : MakeT P wd K mg base 2 "Rule" 10 (runI "Rule" c_Rule___init__ 14) :=
  fnI_at (k := 1) (c := c_Rule___init__) A sc_Rule___init__ rfl (bd_Rule___init__ KT m_zip C_is_value fd_own_parts fd_own_first fd_own_window fd_own_renew fd_own_nth fd_own_ahead fd_own_atend fd_own_most fd_own_full fd_own_slots fd_own_farewell)
theorem okK_Rule___init__ {P : Program} {wd : World} {K : PySem.W.Frag} {mg : Str → Option Value} {base : Heap} {ks : List Str} {perm : List Nat} (A : InitAtK K mg "Rule" "__init__" "Rule.__init__" s_Rule___init__ ["self", "first", "window", "renew", "nth", "ahead", "atend", "most", "full", "slots", "farewell"] ks perm) (KT : KTb K mg wd "PARTS" tab) (m_zip : mg "zip" = none) (C_is_value : CallT P wd K mg base 1 "is_value" 2 (runB c_is_value 3)) (fd_own_parts : FldT K mg "Rule" "own_parts") (fd_own_first : FldT K mg "Rule" "own_first") (fd_own_window : FldT K mg "Rule" "own_window") (fd_own_renew : FldT K mg "Rule" "own_renew") (fd_own_nth : FldT K mg "Rule" "own_nth") (fd_own_ahead : FldT K mg "Rule" "own_ahead") (fd_own_atend : FldT K mg "Rule" "own_atend") (fd_own_most : FldT K mg "Rule" "own_most") (fd_own_full : FldT K mg "Rule" "own_full") (fd_own_slots : FldT K mg "Rule" "own_slots") (fd_own_farewell : FldT K mg "Rule" "own_farewell") : MakeK P wd K mg base 2 "Rule" ks perm 10 (runI "Rule" c_Rule___init__ 14) :=
  fnIK_at (k := 1) (c := c_Rule___init__) A sc_Rule___init__ rfl (bd_Rule___init__ KT m_zip C_is_value fd_own_parts fd_own_first fd_own_window fd_own_renew fd_own_nth fd_own_ahead fd_own_atend fd_own_most fd_own_full fd_own_slots fd_own_farewell)
abbrev s_Rule___eq__ : Stmt := inBody (clsBody (topS 12)) 13
theorem sc_Rule___eq__ : FnScope ["self", "other"] ["self", "other"] (defScope s_Rule___eq__) := ⟨rfl, rfl, rfl, by decide +kernel, rfl, by decide +kernel, by decide +kernel⟩
@[irreducible] def c_Rule___eq__ : SC := (cRet (cAndV (cOp1 (fIsi "Rule" [.own "Rule"]) (cVar 1)) (cOp2 fEq (cFld "Rule" "own_parts" (cVar 0)) (cFld "Rule" "own_parts" (cVar 1)))))
theorem ok_Rule___eq__ {P : Program} {wd : World} {K : PySem.W.Frag} {mg : Str → Option Value} {base : Heap} (A : EqAt K mg "Rule" "__eq__" "Rule.__eq__" s_Rule___eq__ ["self", "other"]) (m_isinstance : mg "isinstance" = none) (isR : InsT K mg "Rule") (fd_own_parts : FldT K mg "Rule" "own_parts") : EqT P wd K mg base 1 "Rule" (runB c_Rule___eq__ 2) := by
  refine eq_at (k := 0) (c := c_Rule___eq__) A sc_Rule___eq__ rfl fun f cdv A outer s H w E B => ?_
  unfold c_Rule___eq__
  exact (css_one (cs_ret (ce_and (ce_isO isR (by rfl) m_isinstance (ce_var 1)) (ce_one (ce_cmp (o_eq B.hr) t2_eq (ce_fd fd_own_parts (ce_var 0)) (ce_fd fd_own_parts (ce_var 1)))))))
abbrev s__law_begin : Stmt := topS 42
theorem sc__law_begin : FnScope ["_law_script", "_law_great", "_law_cell"] ["_law_script"] (defScope s__law_begin) := ⟨rfl, rfl, rfl, by decide +kernel, rfl, by decide +kernel, by decide +kernel⟩
abbrev s__law_rule : Stmt := topS 46
theorem sc__law_rule : FnScope ["_law_mode", "_law_first", "_law_rest"] ["_law_mode"] (defScope s__law_rule) := ⟨rfl, rfl, rfl, by decide +kernel, rfl, by decide +kernel, by decide +kernel⟩
@[irreducible] def c__law_rule : SC := (cSeq (cSet 1 (cLst (caCons (cOp2 fIx (cVar 0) (cC (.str "first"))) (caCons (cOp2 fIx (cVar 0) (cC (.str "window"))) (caCons (cOp2 fIx (cVar 0) (cC (.str "renew"))) (caCons (cOp2 fIx (cVar 0) (cC (.str "nth"))) (caCons (cOp2 fIx (cVar 0) (cC (.str "ahead"))) caNil)))))))
  (cSeq (cSet 2 (cLst (caCons (cOp2 fIx (cVar 0) (cC (.str "atend"))) (caCons (cOp2 fIx (cVar 0) (cC (.str "most"))) (caCons (cOp2 fIx (cVar 0) (cC (.str "full"))) (caCons (cOp2 fIx (cVar 0) (cC (.str "slots"))) (caCons (cOp2 fIx (cVar 0) (cC (.str "farewell"))) caNil)))))))
  (cRet (cCall (runI "Rule" c_Rule___init__ 14) (caCons (cOp2 fIx (cVar 1) (cC (.int 0))) (caCons (cOp2 fIx (cVar 1) (cC (.int 1))) (caCons (cOp2 fIx (cVar 1) (cC (.int 2))) (caCons (cOp2 fIx (cVar 1) (cC (.int 3))) (caCons (cOp2 fIx (cVar 1) (cC (.int 4))) (caCons (cOp2 fIx (cVar 2) (cC (.int 0))) (caCons (cOp2 fIx (cVar 2) (cC (.int 1))) (caCons (cOp2 fIx (cVar 2) (cC (.int 2))) (caCons (cOp2 fIx (cVar 2) (cC (.int 3))) (caCons (cOp2 fIx (cVar 2) (cC (.int 4))) caNil))))))))))))))
theorem bd__law_rule {P : Program} {wd : World} {K : PySem.W.Frag} {mg : Str → Option Value} {base : Heap} (Mk_Rule : MakeT P wd K mg base 2 "Rule" 10 (runI "Rule" c_Rule___init__ 14)) : ∀ (f : Addr) (cdv : Value) (A : Around) (outer : List Env) (s : Shared) (H : Hp) (w : Wd) (E : XK), Bd (bx P wd K mg base ["_law_mode", "_law_first", "_law_rest"] "_law_rule" s__law_rule f cdv A outer s H E) 3 E → CSs (bx P wd K mg base ["_law_mode", "_law_first", "_law_rest"] "_law_rule" s__law_rule f cdv A outer s H E) w E true (defBody s__law_rule) c__law_rule := by
  intro f cdv A outer s H w E B
  unfold c__law_rule
  exact (css_cons (cs_set 1 sc__law_rule.nd ((cf_lst (ca_cons (ce_ix (o_ix B.hr) t2_ix (ce_var 0) ce_str) (ca_cons (ce_ix (o_ix B.hr) t2_ix (ce_var 0) ce_str) (ca_cons (ce_ix (o_ix B.hr) t2_ix (ce_var 0) ce_str) (ca_cons (ce_ix (o_ix B.hr) t2_ix (ce_var 0) ce_str) (ca_cons (ce_ix (o_ix B.hr) t2_ix (ce_var 0) ce_str) ca_nil))))) (len_cons (len_cons (len_cons (len_cons (len_cons len_nil))))))).ce)
  (css_cons (cs_set 2 sc__law_rule.nd ((cf_lst (ca_cons (ce_ix (o_ix B.hr) t2_ix (ce_var 0) ce_str) (ca_cons (ce_ix (o_ix B.hr) t2_ix (ce_var 0) ce_str) (ca_cons (ce_ix (o_ix B.hr) t2_ix (ce_var 0) ce_str) (ca_cons (ce_ix (o_ix B.hr) t2_ix (ce_var 0) ce_str) (ca_cons (ce_ix (o_ix B.hr) t2_ix (ce_var 0) ce_str) ca_nil))))) (len_cons (len_cons (len_cons (len_cons (len_cons len_nil))))))).ce)
  (css_one (cs_retF (cf_mk B Mk_Rule (ca_cons (ce_ix (o_ix B.hr) t2_ix (ce_var 1) ce_int) (ca_cons (ce_ix (o_ix B.hr) t2_ix (ce_var 1) ce_int) (ca_cons (ce_ix (o_ix B.hr) t2_ix (ce_var 1) ce_int) (ca_cons (ce_ix (o_ix B.hr) t2_ix (ce_var 1) ce_int) (ca_cons (ce_ix (o_ix B.hr) t2_ix (ce_var 1) ce_int) (ca_cons (ce_ix (o_ix B.hr) t2_ix (ce_var 2) ce_int) (ca_cons (ce_ix (o_ix B.hr) t2_ix (ce_var 2) ce_int) (ca_cons (ce_ix (o_ix B.hr) t2_ix (ce_var 2) ce_int) (ca_cons (ce_ix (o_ix B.hr) t2_ix (ce_var 2) ce_int) (ca_cons (ce_ix (o_ix B.hr) t2_ix (ce_var 2) ce_int) ca_nil)))))))))) (len_cons (len_cons (len_cons (len_cons (len_cons (len_cons (len_cons (len_cons (len_cons (len_cons len_nil)))))))))))))))
theorem ok__law_rule {P : Program} {wd : World} {K : PySem.W.Frag} {mg : Str → Option Value} {base : Heap} (A : FunAt K mg "_law_rule" "_law_rule" s__law_rule ["_law_mode"]) (Mk_Rule : MakeT P wd K mg base 2 "Rule" 10 (runI "Rule" c_Rule___init__ 14)) : CallN P wd K mg base 4 "_law_rule" 1 (runR c__law_rule 3) :=
  fnN_at (k := 3) (c := c__law_rule) A sc__law_rule (bd__law_rule Mk_Rule)
abbrev s__law_ten : Stmt := topS 48
theorem sc__law_ten : FnScope ["_law_mode", "_law_found"] ["_law_mode"] (defScope s__law_ten) := ⟨rfl, rfl, rfl, by decide +kernel, rfl, by decide +kernel, by decide +kernel⟩
@[irreducible] def c__law_ten : SC := (cSeq (cSetO 1 (cDisp (((cC (.str "first")), (cC (.int 1))) :: (((cC (.str "window")), (cC .non)) :: (((cC (.str "renew")), (cC (.bl false))) :: (((cC (.str "nth")), (cC (.int 0))) :: (((cC (.str "ahead")), (cC (.bl false))) :: (((cC (.str "atend")), (cC (.bl false))) :: (((cC (.str "most")), (cC (.int 3))) :: [])))))))))
  (cSeq (cMut "dict" 1 mUpdate (caCons (cDisp (((cC (.str "full")), (cC (.str "stop"))) :: (((cC (.str "slots")), (cC .non)) :: (((cC (.str "farewell")), (cC (.bl false))) :: [])))) caNil))
  (cSeq (cMut "dict" 1 mUpdate (caCons (cVar 0) caNil))
  (cRetO 1))))
theorem bd__law_ten {P : Program} {wd : World} {K : PySem.W.Frag} {mg : Str → Option Value} {base : Heap}  : ∀ (f : Addr) (cdv : Value) (A : Around) (outer : List Env) (s : Shared) (H : Hp) (w : Wd) (E : XK), Bd (bx P wd K mg base ["_law_mode", "_law_found"] "_law_ten" s__law_ten f cdv A outer s H E) 0 E → CSs (bx P wd K mg base ["_law_mode", "_law_found"] "_law_ten" s__law_ten f cdv A outer s H E) w E true (defBody s__law_ten) c__law_ten := by
  intro f cdv A outer s H w E B
  unfold c__law_ten
  exact (css_cons (cs_setO 1 sc__law_ten.nd (cf_disp (cps_cons ce_str ce_int (cps_cons ce_str ce_non (cps_cons ce_str ce_bl (cps_cons ce_str ce_int (cps_cons ce_str ce_bl (cps_cons ce_str ce_bl (cps_cons ce_str ce_int cps_nil)))))))))
  (css_cons (cs_mut 1 F.plainAttrs_dict F.slot_dict_update F.type_dict_update mt_update mut_update (ca_cons ((cf_disp (cps_cons ce_str ce_str (cps_cons ce_str ce_non (cps_cons ce_str ce_bl cps_nil))))).ce ca_nil))
  (css_cons (cs_mut 1 F.plainAttrs_dict F.slot_dict_update F.type_dict_update mt_update mut_update (ca_cons (ce_var 0) ca_nil))
  (css_one (cs_retO 1)))))
theorem ok__law_ten {P : Program} {wd : World} {K : PySem.W.Frag} {mg : Str → Option Value} {base : Heap} (A : FunAt K mg "_law_ten" "_law_ten" s__law_ten ["_law_mode"])  : CallN P wd K mg base 1 "_law_ten" 1 (runR c__law_ten 2) :=
  fnN_at (k := 0) (c := c__law_ten) A sc__law_ten (bd__law_ten )
abbrev s_need_rule : Stmt := topS 13
theorem sc_need_rule : FnScope ["rule", "part"] ["rule", "part"] (defScope s_need_rule) := ⟨rfl, rfl, rfl, by decide +kernel, rfl, by decide +kernel, by decide +kernel⟩
@[irreducible] def c_need_rule : SC := (cIfS (cNotT (cB (cOp1 (fIsi "Rule" [.own "Rule"]) (cVar 0)))) (fun _ => .stuck)
  (fun r => .ret (.nx r)))
theorem bd_need_rule {P : Program} {wd : World} {K : PySem.W.Frag} {mg : Str → Option Value} {base : Heap} (m_isinstance : mg "isinstance" = none) (isR : InsT K mg "Rule") : ∀ (f : Addr) (cdv : Value) (A : Around) (outer : List Env) (s : Shared) (H : Hp) (w : Wd) (E : XK), Bd (bx P wd K mg base ["rule", "part"] "need_rule" s_need_rule f cdv A outer s H E) 0 E → CSs (bx P wd K mg base ["rule", "part"] "need_rule" s_need_rule f cdv A outer s H E) w E false (defBody s_need_rule) c_need_rule := by
  intro f cdv A outer s H w E B
  unfold c_need_rule
  exact (css_one (cs_if (ct_not (ct_val (ce_isO isR (by rfl) m_isinstance (ce_var 0)))) (css_one cs_never)
  css_nil))
theorem okS_need_rule {P : Program} {wd : World} {K : PySem.W.Frag} {mg : Str → Option Value} {base : Heap} {n : Nat} {ks : List Str} {perm : List Nat} {dts : List T} (A : FunAtS K mg "need_rule" "need_rule" s_need_rule ["rule", "part"] n ks perm dts) (hp : perm.length = 2) (hl : ∀ i ∈ perm, i < n + ks.length + dts.length) (m_isinstance : mg "isinstance" = none) (isR : InsT K mg "Rule") : CallS P wd K mg base 1 "need_rule" n ks perm dts 2 (runB c_need_rule 2) :=
  fnS_at (k := 0) (c := c_need_rule) A sc_need_rule hp hl (bd_need_rule m_isinstance isR)
abbrev s_is_list : Stmt := topS 9
theorem sc_is_list : FnScope ["thing"] ["thing"] (defScope s_is_list) := ⟨rfl, rfl, rfl, by decide +kernel, rfl, by decide +kernel, by decide +kernel⟩
@[irreducible] def c_is_list : SC := (cRet (cOp1 (fIsi "Rule" [.ty "list", .ty "tuple"]) (cVar 0)))
theorem bd_is_list {P : Program} {wd : World} {K : PySem.W.Frag} {mg : Str → Option Value} {base : Heap} (m_isinstance : mg "isinstance" = none) (isR : InsT K mg "Rule") (m_list : mg "list" = none) (m_tuple : mg "tuple" = none) : ∀ (f : Addr) (cdv : Value) (A : Around) (outer : List Env) (s : Shared) (H : Hp) (w : Wd) (E : XK), Bd (bx P wd K mg base ["thing"] "is_list" s_is_list f cdv A outer s H E) 0 E → CSs (bx P wd K mg base ["thing"] "is_list" s_is_list f cdv A outer s H E) w E false (defBody s_is_list) c_is_list := by
  intro f cdv A outer s H w E B
  unfold c_is_list
  exact (css_one (cs_ret (ce_isBT (ns := ["list", "tuple"]) isR (by rfl) m_isinstance (ce_var 0) (pac_cons (pe_bltn (by rfl) m_list (by rfl) (by rfl)) (pac_cons (pe_bltn (by rfl) m_tuple (by rfl) (by rfl)) pac_nil)))))
theorem ok_is_list {P : Program} {wd : World} {K : PySem.W.Frag} {mg : Str → Option Value} {base : Heap} (A : FunAt K mg "is_list" "is_list" s_is_list ["thing"]) (m_isinstance : mg "isinstance" = none) (isR : InsT K mg "Rule") (m_list : mg "list" = none) (m_tuple : mg "tuple" = none) : CallT P wd K mg base 1 "is_list" 1 (runB c_is_list 1) :=
  fn_at (k := 0) (c := c_is_list) A sc_is_list (bd_is_list m_isinstance isR m_list m_tuple)
theorem okS_is_list {P : Program} {wd : World} {K : PySem.W.Frag} {mg : Str → Option Value} {base : Heap} {n : Nat} {ks : List Str} {perm : List Nat} {dts : List T} (A : FunAtS K mg "is_list" "is_list" s_is_list ["thing"] n ks perm dts) (hp : perm.length = 1) (hl : ∀ i ∈ perm, i < n + ks.length + dts.length) (m_isinstance : mg "isinstance" = none) (isR : InsT K mg "Rule") (m_list : mg "list" = none) (m_tuple : mg "tuple" = none) : CallS P wd K mg base 1 "is_list" n ks perm dts 1 (runB c_is_list 1) :=
  fnS_at (k := 0) (c := c_is_list) A sc_is_list hp hl (bd_is_list m_isinstance isR m_list m_tuple)
abbrev s_is_key : Stmt := topS 10
theorem sc_is_key : FnScope ["thing", "sign"] ["thing"] (defScope s_is_key) := ⟨rfl, rfl, rfl, by decide +kernel, rfl, by decide +kernel, by decide +kernel⟩
@[irreducible] def c_is_key : SC := (cRet (cAndV (cOp1 (fIsi "Rule" [.ty "str"]) (cVar 0)) (cAndV (cChain (fun i j => decide (i ≤ j)) (fun i j => decide (i ≤ j)) (cC (.int 1)) (cCall fLen (caCons (cVar 0) caNil)) (cC (.int 6))) (cCall fAll (caCons (cComp (fun r => (cVar 0) r >>= anyOf) (gcName 1) (fun _ => .ret true) (cOp2 (fInB false) (cVar 1) (cC (.str "abcdefghijklmnopqrstuvwxyz"))) [1]) caNil)))))
theorem bd_is_key {P : Program} {wd : World} {K : PySem.W.Frag} {mg : Str → Option Value} {base : Heap} (m_isinstance : mg "isinstance" = none) (isR : InsT K mg "Rule") (m_str : mg "str" = none) (m_len : mg "len" = none) (g_LONGEST : ∃ t, mg "LONGEST" = some (.int 6 t)) (g_LETTERS : ∃ t, mg "LETTERS" = some (.str "abcdefghijklmnopqrstuvwxyz" t)) (m_all : mg "all" = none) : ∀ (f : Addr) (cdv : Value) (A : Around) (outer : List Env) (s : Shared) (H : Hp) (w : Wd) (E : XK), Bd (bx P wd K mg base ["thing", "sign"] "is_key" s_is_key f cdv A outer s H E) 0 E → CSs (bx P wd K mg base ["thing", "sign"] "is_key" s_is_key f cdv A outer s H E) w E false (defBody s_is_key) c_is_key := by
  intro f cdv A outer s H w E B
  unfold c_is_key
  exact (css_one (cs_ret (ce_and (ce_isB isR (by rfl) m_isinstance (ce_var 0) (pe_bltn (by rfl) m_str (by rfl) (by rfl))) (ce_and (ce_chain op_le op_le ce_int (ce_callB o_len tn_len (by rfl) m_len (by rfl) (ca_cons (ce_var 0) ca_nil)) (ce_gint g_LONGEST)) (ce_one (ce_callB (cr_all rfl) tn_all (by rfl) m_all (by rfl) (ca_cons ((cf_comp (own := [("sign", 1)]) sc_is_key.nd (ci_any (ce_var 0)) (blkOk_by (by rfl)) (fun s H C cl fp => (cg_name 1 sc_is_key.nd)) (fun s H C cl fp => cts_nil) (fun s H C cl fp => (ce_cmp (o_in (B.blk s H _ _ fp).hr (un65 (B.blk s H _ _ fp).hr)) (t2_in false) (ce_var 1) (ce_gstr g_LETTERS))))).ce ca_nil)))))))
theorem ok_is_key {P : Program} {wd : World} {K : PySem.W.Frag} {mg : Str → Option Value} {base : Heap} (A : FunAt K mg "is_key" "is_key" s_is_key ["thing"]) (m_isinstance : mg "isinstance" = none) (isR : InsT K mg "Rule") (m_str : mg "str" = none) (m_len : mg "len" = none) (g_LONGEST : ∃ t, mg "LONGEST" = some (.int 6 t)) (g_LETTERS : ∃ t, mg "LETTERS" = some (.str "abcdefghijklmnopqrstuvwxyz" t)) (m_all : mg "all" = none) : CallT P wd K mg base 1 "is_key" 1 (runB c_is_key 2) :=
  fn_at (k := 0) (c := c_is_key) A sc_is_key (bd_is_key m_isinstance isR m_str m_len g_LONGEST g_LETTERS m_all)
theorem okS_is_key {P : Program} {wd : World} {K : PySem.W.Frag} {mg : Str → Option Value} {base : Heap} {n : Nat} {ks : List Str} {perm : List Nat} {dts : List T} (A : FunAtS K mg "is_key" "is_key" s_is_key ["thing"] n ks perm dts) (hp : perm.length = 1) (hl : ∀ i ∈ perm, i < n + ks.length + dts.length) (m_isinstance : mg "isinstance" = none) (isR : InsT K mg "Rule") (m_str : mg "str" = none) (m_len : mg "len" = none) (g_LONGEST : ∃ t, mg "LONGEST" = some (.int 6 t)) (g_LETTERS : ∃ t, mg "LETTERS" = some (.str "abcdefghijklmnopqrstuvwxyz" t)) (m_all : mg "all" = none) : CallS P wd K mg base 1 "is_key" n ks perm dts 1 (runB c_is_key 2) :=
  fnS_at (k := 0) (c := c_is_key) A sc_is_key hp hl (bd_is_key m_isinstance isR m_str m_len g_LONGEST g_LETTERS m_all)
abbrev s_is_sign : Stmt := topS 32
theorem sc_is_sign : FnScope ["thing"] ["thing"] (defScope s_is_sign) := ⟨rfl, rfl, rfl, by decide +kernel, rfl, by decide +kernel, by decide +kernel⟩
@[irreducible] def c_is_sign : SC := (cSeq (cIfS (cOrT (cNotT (cB (cOp1 (fIsi "Rule" [.ty "tuple"]) (cVar 0)))) (cOrT (cB (cOp2 fEq (cCall fLen (caCons (cVar 0) caNil)) (cC (.int 0)))) (cNotT (cB (cOp1 (fIsi "Rule" [.ty "str"]) (cOp2 fIx (cVar 0) (cC (.int 0)))))))) (cRet (cC (.bl false)))
  (fun r => .ret (.nx r)))
  (cSeq (cIfS (cB (cOp2 fEq (cOp2 fIx (cVar 0) (cC (.int 0))) (cC (.str "tick")))) (cRet (cOp2 fEq (cCall fLen (caCons (cVar 0) caNil)) (cC (.int 1))))
  (fun r => .ret (.nx r)))
  (cRet (cAndV (cOp2 fEq (cOp2 fIx (cVar 0) (cC (.int 0))) (cC (.str "say"))) (cAndV (cOp2 fEq (cCall fLen (caCons (cVar 0) caNil)) (cC (.int 2))) (cCall (runB c_is_key 2) (caCons (cOp2 fIx (cVar 0) (cC (.int 1))) caNil)))))))
theorem bd_is_sign {P : Program} {wd : World} {K : PySem.W.Frag} {mg : Str → Option Value} {base : Heap} (m_isinstance : mg "isinstance" = none) (isR : InsT K mg "Rule") (m_tuple : mg "tuple" = none) (m_len : mg "len" = none) (m_str : mg "str" = none) (g_TICK : ∃ t, mg "TICK" = some (.str "tick" t)) (g_SAY : ∃ t, mg "SAY" = some (.str "say" t)) (C_is_key : CallT P wd K mg base 1 "is_key" 1 (runB c_is_key 2)) : ∀ (f : Addr) (cdv : Value) (A : Around) (outer : List Env) (s : Shared) (H : Hp) (w : Wd) (E : XK), Bd (bx P wd K mg base ["thing"] "is_sign" s_is_sign f cdv A outer s H E) 1 E → CSs (bx P wd K mg base ["thing"] "is_sign" s_is_sign f cdv A outer s H E) w E false (defBody s_is_sign) c_is_sign := by
  intro f cdv A outer s H w E B
  unfold c_is_sign
  exact (css_cons (cs_if ((cw_or (ct_not (ct_val (ce_isB isR (by rfl) m_isinstance (ce_var 0) (pe_bltn (by rfl) m_tuple (by rfl) (by rfl))))) (cw_or (ct_cmp (o_eq B.hr) t2_eq (ce_callB o_len tn_len (by rfl) m_len (by rfl) (ca_cons (ce_var 0) ca_nil)) ce_int) (cw_or1 (ct_not (ct_val (ce_isB isR (by rfl) m_isinstance (ce_ix (o_ix B.hr) t2_ix (ce_var 0) ce_int) (pe_bltn (by rfl) m_str (by rfl) (by rfl))))))))).ct (css_one (cs_ret ce_bl))
  css_nil)
  (css_cons (cs_if (ct_cmp (o_eq B.hr) t2_eq (ce_ix (o_ix B.hr) t2_ix (ce_var 0) ce_int) (ce_gstr g_TICK)) (css_one (cs_ret (ce_cmp (o_eq B.hr) t2_eq (ce_callB o_len tn_len (by rfl) m_len (by rfl) (ca_cons (ce_var 0) ca_nil)) ce_int)))
  css_nil)
  (css_one (cs_ret (ce_and (ce_cmp (o_eq B.hr) t2_eq (ce_ix (o_ix B.hr) t2_ix (ce_var 0) ce_int) (ce_gstr g_SAY)) (ce_and (ce_cmp (o_eq B.hr) t2_eq (ce_callB o_len tn_len (by rfl) m_len (by rfl) (ca_cons (ce_var 0) ca_nil)) ce_int) (ce_one (ce_fn B C_is_key (ca_cons (ce_ix (o_ix B.hr) t2_ix (ce_var 0) ce_int) ca_nil) (len_cons len_nil)))))))))
theorem ok_is_sign {P : Program} {wd : World} {K : PySem.W.Frag} {mg : Str → Option Value} {base : Heap} (A : FunAt K mg "is_sign" "is_sign" s_is_sign ["thing"]) (m_isinstance : mg "isinstance" = none) (isR : InsT K mg "Rule") (m_tuple : mg "tuple" = none) (m_len : mg "len" = none) (m_str : mg "str" = none) (g_TICK : ∃ t, mg "TICK" = some (.str "tick" t)) (g_SAY : ∃ t, mg "SAY" = some (.str "say" t)) (C_is_key : CallT P wd K mg base 1 "is_key" 1 (runB c_is_key 2)) : CallT P wd K mg base 2 "is_sign" 1 (runB c_is_sign 1) :=
  fn_at (k := 1) (c := c_is_sign) A sc_is_sign (bd_is_sign m_isinstance isR m_tuple m_len m_str g_TICK g_SAY C_is_key)
theorem okS_is_sign {P : Program} {wd : World} {K : PySem.W.Frag} {mg : Str → Option Value} {base : Heap} {n : Nat} {ks : List Str} {perm : List Nat} {dts : List T} (A : FunAtS K mg "is_sign" "is_sign" s_is_sign ["thing"] n ks perm dts) (hp : perm.length = 1) (hl : ∀ i ∈ perm, i < n + ks.length + dts.length) (m_isinstance : mg "isinstance" = none) (isR : InsT K mg "Rule") (m_tuple : mg "tuple" = none) (m_len : mg "len" = none) (m_str : mg "str" = none) (g_TICK : ∃ t, mg "TICK" = some (.str "tick" t)) (g_SAY : ∃ t, mg "SAY" = some (.str "say" t)) (C_is_key : CallT P wd K mg base 1 "is_key" 1 (runB c_is_key 2)) : CallS P wd K mg base 2 "is_sign" n ks perm dts 1 (runB c_is_sign 1) :=
  fnS_at (k := 1) (c := c_is_sign) A sc_is_sign hp hl (bd_is_sign m_isinstance isR m_tuple m_len m_str g_TICK g_SAY C_is_key)
abbrev s_need_course : Stmt := topS 33
theorem sc_need_course : FnScope ["course", "at", "sign"] ["course"] (defScope s_need_course) := ⟨rfl, rfl, rfl, by decide +kernel, rfl, by decide +kernel, by decide +kernel⟩
@[irreducible] def c_need_course_b1 : SC := (cIfS (cNotT (cB (cCall (runB c_is_sign 1) (caCons (cVar 2) caNil)))) (fun _ => .stuck)
  (fun r => .ret (.nx r)))
@[irreducible] def c_need_course : SC := (cSeq (cIfS (cNotT (cB (cCall (runB c_is_list 1) (caCons (cVar 0) caNil)))) (fun _ => .stuck)
  (fun r => .ret (.nx r)))
  (cFor (fun r => (caCons (cVar 0) caNil) r >>= enumOf) (gcTup 2 (gcsCons (gcName 1) (gcsCons (gcName 2) gcsNil)))
  c_need_course_b1))
theorem bd_need_course {P : Program} {wd : World} {K : PySem.W.Frag} {mg : Str → Option Value} {base : Heap} (C_is_list : CallT P wd K mg base 1 "is_list" 1 (runB c_is_list 1)) (m_enumerate : mg "enumerate" = none) (C_is_sign : CallT P wd K mg base 2 "is_sign" 1 (runB c_is_sign 1)) : ∀ (f : Addr) (cdv : Value) (A : Around) (outer : List Env) (s : Shared) (H : Hp) (w : Wd) (E : XK), Bd (bx P wd K mg base ["course", "at", "sign"] "need_course" s_need_course f cdv A outer s H E) 2 E → CSs (bx P wd K mg base ["course", "at", "sign"] "need_course" s_need_course f cdv A outer s H E) w E false (defBody s_need_course) c_need_course := by
  intro f cdv A outer s H w E B
  unfold c_need_course
  unfold c_need_course_b1
  exact (css_cons (cs_if (ct_not (ct_val (ce_fn B C_is_list (ca_cons (ce_var 0) ca_nil) (len_cons len_nil)))) (css_one cs_never)
  css_nil)
  (css_one (cs_for B.po (ci_enum (by rfl) m_enumerate (ca_cons (ce_var 0) ca_nil)) (cg_tup (cgs_cons (cg_name 1 sc_need_course.nd) (cgs_cons (cg_name 2 sc_need_course.nd) cgs_nil)))
  (css_one (cs_if (ct_not (ct_val (ce_fn B C_is_sign (ca_cons (ce_var 2) ca_nil) (len_cons len_nil)))) (css_one cs_never)
  css_nil)))))
theorem ok_need_course {P : Program} {wd : World} {K : PySem.W.Frag} {mg : Str → Option Value} {base : Heap} (A : FunAt K mg "need_course" "need_course" s_need_course ["course"]) (C_is_list : CallT P wd K mg base 1 "is_list" 1 (runB c_is_list 1)) (m_enumerate : mg "enumerate" = none) (C_is_sign : CallT P wd K mg base 2 "is_sign" 1 (runB c_is_sign 1)) : CallT P wd K mg base 3 "need_course" 1 (runB c_need_course 3) :=
  fn_at (k := 2) (c := c_need_course) A sc_need_course (bd_need_course C_is_list m_enumerate C_is_sign)
theorem okS_need_course {P : Program} {wd : World} {K : PySem.W.Frag} {mg : Str → Option Value} {base : Heap} {n : Nat} {ks : List Str} {perm : List Nat} {dts : List T} (A : FunAtS K mg "need_course" "need_course" s_need_course ["course"] n ks perm dts) (hp : perm.length = 1) (hl : ∀ i ∈ perm, i < n + ks.length + dts.length) (C_is_list : CallT P wd K mg base 1 "is_list" 1 (runB c_is_list 1)) (m_enumerate : mg "enumerate" = none) (C_is_sign : CallT P wd K mg base 2 "is_sign" 1 (runB c_is_sign 1)) : CallS P wd K mg base 3 "need_course" n ks perm dts 1 (runB c_need_course 3) :=
  fnS_at (k := 2) (c := c_need_course) A sc_need_course hp hl (bd_need_course C_is_list m_enumerate C_is_sign)
abbrev s_entry_of : Stmt := topS 20
theorem sc_entry_of : FnScope ["memory", "key", "found", "entry"] ["memory", "key"] (defScope s_entry_of) := ⟨rfl, rfl, rfl, by decide +kernel, rfl, by decide +kernel, by decide +kernel⟩
@[irreducible] def c_entry_of : SC := (cSeq (cSeqFrz 2 (cSetO 2 (cComp (fun r => (cVar 0) r >>= anyOf) (gcName 3) (cB (cOp2 fEq (cOp2 fIx (cVar 3) (cC (.int 0))) (cVar 1))) (cVar 3) [3])))
  (cRet (cIf (cB (cOp2 fNe (cVar 2) (cLst caNil))) (cOp2 fIx (cVar 2) (cC (.int 0))) (cC .non))))
theorem bd_entry_of {P : Program} {wd : World} {K : PySem.W.Frag} {mg : Str → Option Value} {base : Heap}  : ∀ (f : Addr) (cdv : Value) (A : Around) (outer : List Env) (s : Shared) (H : Hp) (w : Wd) (E : XK), Bd (bx P wd K mg base ["memory", "key", "found", "entry"] "entry_of" s_entry_of f cdv A outer s H E) 0 E → CSs (bx P wd K mg base ["memory", "key", "found", "entry"] "entry_of" s_entry_of f cdv A outer s H E) w E false (defBody s_entry_of) c_entry_of := by
  intro f cdv A outer s H w E B
  unfold c_entry_of
  exact (css_cons (cs_thenFrz 2 (cs_setComp (own := [("entry", 3)]) sc_entry_of.nd (by rfl) (ci_any (ce_var 0)) (blkOk_by (by rfl)) (fun s H C cl fp => (cg_name 3 sc_entry_of.nd)) (fun s H C cl fp => (cts_one (ct_cmp (o_eq (B.blk s H _ _ fp).hr) t2_eq (ce_ix (o_ix (B.blk s H _ _ fp).hr) t2_ix (ce_var 3) ce_int) (ce_var 1)))) (fun s H C cl fp => (ce_var 3))))
  (css_one (cs_ret (ce_if (ct_cmp (o_ne B.hr) t2_ne (ce_var 2) ((cf_lst ca_nil len_nil)).ce) (ce_ix (o_ix B.hr) t2_ix (ce_var 2) ce_int) ce_non))))
theorem ok_entry_of {P : Program} {wd : World} {K : PySem.W.Frag} {mg : Str → Option Value} {base : Heap} (A : FunAt K mg "entry_of" "entry_of" s_entry_of ["memory", "key"])  : CallT P wd K mg base 1 "entry_of" 2 (runB c_entry_of 4) :=
  fn_at (k := 0) (c := c_entry_of) A sc_entry_of (bd_entry_of )
theorem okS_entry_of {P : Program} {wd : World} {K : PySem.W.Frag} {mg : Str → Option Value} {base : Heap} {n : Nat} {ks : List Str} {perm : List Nat} {dts : List T} (A : FunAtS K mg "entry_of" "entry_of" s_entry_of ["memory", "key"] n ks perm dts) (hp : perm.length = 2) (hl : ∀ i ∈ perm, i < n + ks.length + dts.length)  : CallS P wd K mg base 1 "entry_of" n ks perm dts 2 (runB c_entry_of 4) :=
  fnS_at (k := 0) (c := c_entry_of) A sc_entry_of hp hl (bd_entry_of )
abbrev s_last_count : Stmt := topS 19
theorem sc_last_count : FnScope ["rule"] ["rule"] (defScope s_last_count) := ⟨rfl, rfl, rfl, by decide +kernel, rfl, by decide +kernel, by decide +kernel⟩
@[irreducible] def c_last_count : SC := (cRet (cOp2 fSubI (cOp2 fAdd (cFld "Rule" "own_first" (cVar 0)) (cCall fMax2 (caCons (cFld "Rule" "own_nth" (cVar 0)) (caCons (cC (.int 1)) caNil)))) (cC (.int 1))))
theorem bd_last_count {P : Program} {wd : World} {K : PySem.W.Frag} {mg : Str → Option Value} {base : Heap} (fd_own_first : FldT K mg "Rule" "own_first") (fd_own_nth : FldT K mg "Rule" "own_nth") (m_max : mg "max" = none) : ∀ (f : Addr) (cdv : Value) (A : Around) (outer : List Env) (s : Shared) (H : Hp) (w : Wd) (E : XK), Bd (bx P wd K mg base ["rule"] "last_count" s_last_count f cdv A outer s H E) 0 E → CSs (bx P wd K mg base ["rule"] "last_count" s_last_count f cdv A outer s H E) w E false (defBody s_last_count) c_last_count := by
  intro f cdv A outer s H w E B
  unfold c_last_count
  exact (css_one (cs_ret (ce_op op_sub (t2_int fun _ _ _ => .int _) (ce_op o_add t2_add (ce_fd fd_own_first (ce_var 0)) (ce_callB (call_max2 rfl) tn_max2 (by rfl) m_max (by rfl) (ca_cons (ce_fd fd_own_nth (ce_var 0)) (ca_cons ce_int ca_nil)))) ce_int)))
theorem ok_last_count {P : Program} {wd : World} {K : PySem.W.Frag} {mg : Str → Option Value} {base : Heap} (A : FunAt K mg "last_count" "last_count" s_last_count ["rule"]) (fd_own_first : FldT K mg "Rule" "own_first") (fd_own_nth : FldT K mg "Rule" "own_nth") (m_max : mg "max" = none) : CallT P wd K mg base 1 "last_count" 1 (runB c_last_count 1) :=
  fn_at (k := 0) (c := c_last_count) A sc_last_count (bd_last_count fd_own_first fd_own_nth m_max)
theorem okS_last_count {P : Program} {wd : World} {K : PySem.W.Frag} {mg : Str → Option Value} {base : Heap} {n : Nat} {ks : List Str} {perm : List Nat} {dts : List T} (A : FunAtS K mg "last_count" "last_count" s_last_count ["rule"] n ks perm dts) (hp : perm.length = 1) (hl : ∀ i ∈ perm, i < n + ks.length + dts.length) (fd_own_first : FldT K mg "Rule" "own_first") (fd_own_nth : FldT K mg "Rule" "own_nth") (m_max : mg "max" = none) : CallS P wd K mg base 1 "last_count" n ks perm dts 1 (runB c_last_count 1) :=
  fnS_at (k := 0) (c := c_last_count) A sc_last_count hp hl (bd_last_count fd_own_first fd_own_nth m_max)
abbrev s_is_left_out : Stmt := topS 21
theorem sc_is_left_out : FnScope ["rule", "entry", "count"] ["rule", "entry"] (defScope s_is_left_out) := ⟨rfl, rfl, rfl, by decide +kernel, rfl, by decide +kernel, by decide +kernel⟩
@[irreducible] def c_is_left_out : SC := (cSeq (cSet 2 (cOp2 fIx (cVar 1) (cC (.int 2))))
  (cSeq (cIfS (cB (cOp2 (fII fun i j => .bl (decide (i < j))) (cVar 2) (cFld "Rule" "own_first" (cVar 0)))) (cRet (cC (.bl false)))
  (fun r => .ret (.nx r)))
  (cRet (cOrV (cOp2 fEq (cFld "Rule" "own_nth" (cVar 0)) (cC (.int 0))) (cOp2 (fII fun i j => .bl (decide (i < j))) (cVar 2) (cCall (runB c_last_count 1) (caCons (cVar 0) caNil)))))))
theorem bd_is_left_out {P : Program} {wd : World} {K : PySem.W.Frag} {mg : Str → Option Value} {base : Heap} (fd_own_first : FldT K mg "Rule" "own_first") (fd_own_nth : FldT K mg "Rule" "own_nth") (C_last_count : CallT P wd K mg base 1 "last_count" 1 (runB c_last_count 1)) : ∀ (f : Addr) (cdv : Value) (A : Around) (outer : List Env) (s : Shared) (H : Hp) (w : Wd) (E : XK), Bd (bx P wd K mg base ["rule", "entry", "count"] "is_left_out" s_is_left_out f cdv A outer s H E) 1 E → CSs (bx P wd K mg base ["rule", "entry", "count"] "is_left_out" s_is_left_out f cdv A outer s H E) w E false (defBody s_is_left_out) c_is_left_out := by
  intro f cdv A outer s H w E B
  unfold c_is_left_out
  exact (css_cons (cs_set 2 sc_is_left_out.nd (ce_ix (o_ix B.hr) t2_ix (ce_var 1) ce_int))
  (css_cons (cs_if (ct_cmp op_lt (t2_int fun _ _ _ => .bl _) (ce_var 2) (ce_fd fd_own_first (ce_var 0))) (css_one (cs_ret ce_bl))
  css_nil)
  (css_one (cs_ret (ce_or (ce_cmp (o_eq B.hr) t2_eq (ce_fd fd_own_nth (ce_var 0)) ce_int) (ce_one (ce_cmp op_lt (t2_int fun _ _ _ => .bl _) (ce_var 2) (ce_fn B C_last_count (ca_cons (ce_var 0) ca_nil) (len_cons len_nil)))))))))
theorem ok_is_left_out {P : Program} {wd : World} {K : PySem.W.Frag} {mg : Str → Option Value} {base : Heap} (A : FunAt K mg "is_left_out" "is_left_out" s_is_left_out ["rule", "entry"]) (fd_own_first : FldT K mg "Rule" "own_first") (fd_own_nth : FldT K mg "Rule" "own_nth") (C_last_count : CallT P wd K mg base 1 "last_count" 1 (runB c_last_count 1)) : CallT P wd K mg base 2 "is_left_out" 2 (runB c_is_left_out 3) :=
  fn_at (k := 1) (c := c_is_left_out) A sc_is_left_out (bd_is_left_out fd_own_first fd_own_nth C_last_count)
theorem okS_is_left_out {P : Program} {wd : World} {K : PySem.W.Frag} {mg : Str → Option Value} {base : Heap} {n : Nat} {ks : List Str} {perm : List Nat} {dts : List T} (A : FunAtS K mg "is_left_out" "is_left_out" s_is_left_out ["rule", "entry"] n ks perm dts) (hp : perm.length = 2) (hl : ∀ i ∈ perm, i < n + ks.length + dts.length) (fd_own_first : FldT K mg "Rule" "own_first") (fd_own_nth : FldT K mg "Rule" "own_nth") (C_last_count : CallT P wd K mg base 1 "last_count" 1 (runB c_last_count 1)) : CallS P wd K mg base 2 "is_left_out" n ks perm dts 2 (runB c_is_left_out 3) :=
  fnS_at (k := 1) (c := c_is_left_out) A sc_is_left_out hp hl (bd_is_left_out fd_own_first fd_own_nth C_last_count)
abbrev s_left_out : Stmt := topS 22
theorem sc_left_out : FnScope ["rule", "entry", "key", "age", "count", "left", "happenings"] ["rule", "entry"] (defScope s_left_out) := ⟨rfl, rfl, rfl, by decide +kernel, rfl, by decide +kernel, by decide +kernel⟩
@[irreducible] def c_left_out : SC := (cSeq (cAsg (gcTup 4 (gcsCons (gcName 2) (gcsCons (gcName 3) (gcsCons (gcName 4) (gcsCons (gcName 5) gcsNil))))) (cVar 1))
  (cSeq (cSetO 6 (cLst (caCons (cTup (caCons (cC (.str "left")) (caCons (cVar 2) caNil))) caNil)))
  (cSeq (cIfS (cB (cOp2 fEq (cVar 5) (cFld "Rule" "own_most" (cVar 0)))) (cMut "list" 6 mAppend (caCons (cTup (caCons (cC (.str "lost")) (caCons (cVar 2) (caCons (cC (.int 1)) caNil)))) caNil))
  (cAugI 5 (fun i j => i + j) (cC (.int 1))))
  (cSeq (cIfS (cAndT (cB (cOp2 fEq (cVar 5) (cFld "Rule" "own_most" (cVar 0)))) (cB (cOp2 fEq (cFld "Rule" "own_full" (cVar 0)) (cC (.str "tell"))))) (cSeq (cMut "list" 6 mAppend (caCons (cTup (caCons (cC (.str "again")) (caCons (cVar 2) (caCons (cVar 5) caNil)))) caNil))
  (cSet 5 (cC (.int 0))))
  (fun r => .ret (.nx r)))
  (cFrz 6 (cRet (cTup (caCons (cTup (caCons (cVar 2) (caCons (cVar 3) (caCons (cIf (cB (cOp2 fEq (cFld "Rule" "own_nth" (cVar 0)) (cC (.int 0)))) (cVar 4) (cOp2 fAdd (cVar 4) (cC (.int 1)))) (caCons (cVar 5) caNil))))) (caCons (cVar 6) caNil)))))))))
theorem bd_left_out {P : Program} {wd : World} {K : PySem.W.Frag} {mg : Str → Option Value} {base : Heap} (g_LEFT : ∃ t, mg "LEFT" = some (.str "left" t)) (fd_own_most : FldT K mg "Rule" "own_most") (g_LOST : ∃ t, mg "LOST" = some (.str "lost" t)) (fd_own_full : FldT K mg "Rule" "own_full") (g_AGAIN : ∃ t, mg "AGAIN" = some (.str "again" t)) (fd_own_nth : FldT K mg "Rule" "own_nth") : ∀ (f : Addr) (cdv : Value) (A : Around) (outer : List Env) (s : Shared) (H : Hp) (w : Wd) (E : XK), Bd (bx P wd K mg base ["rule", "entry", "key", "age", "count", "left", "happenings"] "left_out" s_left_out f cdv A outer s H E) 0 E → CSs (bx P wd K mg base ["rule", "entry", "key", "age", "count", "left", "happenings"] "left_out" s_left_out f cdv A outer s H E) w E false (defBody s_left_out) c_left_out := by
  intro f cdv A outer s H w E B
  unfold c_left_out
  exact (css_cons (cs_asg (ce_var 1) (cg_tup (cgs_cons (cg_name 2 sc_left_out.nd) (cgs_cons (cg_name 3 sc_left_out.nd) (cgs_cons (cg_name 4 sc_left_out.nd) (cgs_cons (cg_name 5 sc_left_out.nd) cgs_nil))))))
  (css_cons (cs_setO 6 sc_left_out.nd (cf_lst (ca_cons (ce_tup (ca_cons (ce_gstr g_LEFT) (ca_cons (ce_var 2) ca_nil)) (len_cons (len_cons len_nil))) ca_nil) (len_cons len_nil)))
  (css_cons (cs_if (ct_cmp (o_eq B.hr) t2_eq (ce_var 5) (ce_fd fd_own_most (ce_var 0))) (css_one (cs_mut 6 F.plainAttrs_list F.slot_list_append F.type_list_append mt_append mut_append (ca_cons (ce_tup (ca_cons (ce_gstr g_LOST) (ca_cons (ce_var 2) (ca_cons ce_int ca_nil))) (len_cons (len_cons (len_cons len_nil)))) ca_nil)))
  (css_one (cs_augI 5 sc_left_out.nd ip_add ce_int)))
  (css_cons (cs_if ((cw_and (ct_cmp (o_eq B.hr) t2_eq (ce_var 5) (ce_fd fd_own_most (ce_var 0))) (cw_and1 (ct_cmp (o_eq B.hr) t2_eq (ce_fd fd_own_full (ce_var 0)) ce_str)))).ct (css_cons (cs_mut 6 F.plainAttrs_list F.slot_list_append F.type_list_append mt_append mut_append (ca_cons (ce_tup (ca_cons (ce_gstr g_AGAIN) (ca_cons (ce_var 2) (ca_cons (ce_var 5) ca_nil))) (len_cons (len_cons (len_cons len_nil)))) ca_nil))
  (css_one (cs_set 5 sc_left_out.nd ce_int)))
  css_nil)
  (css_one (CS.frz 6 (cs_ret (ce_tup (ca_cons (ce_tup (ca_cons (ce_var 2) (ca_cons (ce_var 3) (ca_cons (ce_if (ct_cmp (o_eq B.hr) t2_eq (ce_fd fd_own_nth (ce_var 0)) ce_int) (ce_var 4) (ce_op o_add t2_add (ce_var 4) ce_int)) (ca_cons (ce_var 5) ca_nil)))) (len_cons (len_cons (len_cons (len_cons len_nil))))) (ca_cons (ce_var 6) ca_nil)) (len_cons (len_cons len_nil))))))))))
theorem ok_left_out {P : Program} {wd : World} {K : PySem.W.Frag} {mg : Str → Option Value} {base : Heap} (A : FunAt K mg "left_out" "left_out" s_left_out ["rule", "entry"]) (g_LEFT : ∃ t, mg "LEFT" = some (.str "left" t)) (fd_own_most : FldT K mg "Rule" "own_most") (g_LOST : ∃ t, mg "LOST" = some (.str "lost" t)) (fd_own_full : FldT K mg "Rule" "own_full") (g_AGAIN : ∃ t, mg "AGAIN" = some (.str "again" t)) (fd_own_nth : FldT K mg "Rule" "own_nth") : CallT P wd K mg base 1 "left_out" 2 (runB c_left_out 7) :=
  fn_at (k := 0) (c := c_left_out) A sc_left_out (bd_left_out g_LEFT fd_own_most g_LOST fd_own_full g_AGAIN fd_own_nth)
theorem okS_left_out {P : Program} {wd : World} {K : PySem.W.Frag} {mg : Str → Option Value} {base : Heap} {n : Nat} {ks : List Str} {perm : List Nat} {dts : List T} (A : FunAtS K mg "left_out" "left_out" s_left_out ["rule", "entry"] n ks perm dts) (hp : perm.length = 2) (hl : ∀ i ∈ perm, i < n + ks.length + dts.length) (g_LEFT : ∃ t, mg "LEFT" = some (.str "left" t)) (fd_own_most : FldT K mg "Rule" "own_most") (g_LOST : ∃ t, mg "LOST" = some (.str "lost" t)) (fd_own_full : FldT K mg "Rule" "own_full") (g_AGAIN : ∃ t, mg "AGAIN" = some (.str "again" t)) (fd_own_nth : FldT K mg "Rule" "own_nth") : CallS P wd K mg base 1 "left_out" n ks perm dts 2 (runB c_left_out 7) :=
  fnS_at (k := 0) (c := c_left_out) A sc_left_out hp hl (bd_left_out g_LEFT fd_own_most g_LOST fd_own_full g_AGAIN fd_own_nth)
abbrev s_written : Stmt := topS 23
theorem sc_written : FnScope ["rule", "entry", "key", "age", "count", "left", "happenings"] ["rule", "entry"] (defScope s_written) := ⟨rfl, rfl, rfl, by decide +kernel, rfl, by decide +kernel, by decide +kernel⟩
@[irreducible] def c_written : SC := (cSeq (cAsg (gcTup 4 (gcsCons (gcName 2) (gcsCons (gcName 3) (gcsCons (gcName 4) (gcsCons (gcName 5) gcsNil))))) (cVar 1))
  (cSeq (cSetO 6 (cLst caNil))
  (cSeq (cIfS (cAndT (cB (cOp2 (fII fun i j => .bl (decide (j < i))) (cVar 5) (cC (.int 0)))) (cB (cFld "Rule" "own_ahead" (cVar 0)))) (cSeq (cMut "list" 6 mAppend (caCons (cTup (caCons (cC (.str "again")) (caCons (cVar 2) (caCons (cVar 5) caNil)))) caNil))
  (cSet 5 (cC (.int 0))))
  (fun r => .ret (.nx r)))
  (cSeq (cMut "list" 6 mAppend (caCons (cTup (caCons (cC (.str "line")) (caCons (cVar 2) caNil))) caNil))
  (cFrz 6 (cRet (cTup (caCons (cTup (caCons (cVar 2) (caCons (cVar 3) (caCons (cIf (cB (cOp2 (fII fun i j => .bl (decide (i < j))) (cVar 4) (cFld "Rule" "own_first" (cVar 0)))) (cOp2 fAdd (cVar 4) (cC (.int 1))) (cFld "Rule" "own_first" (cVar 0))) (caCons (cVar 5) caNil))))) (caCons (cVar 6) caNil)))))))))
theorem bd_written {P : Program} {wd : World} {K : PySem.W.Frag} {mg : Str → Option Value} {base : Heap} (fd_own_ahead : FldT K mg "Rule" "own_ahead") (g_AGAIN : ∃ t, mg "AGAIN" = some (.str "again" t)) (g_LINE : ∃ t, mg "LINE" = some (.str "line" t)) (fd_own_first : FldT K mg "Rule" "own_first") : ∀ (f : Addr) (cdv : Value) (A : Around) (outer : List Env) (s : Shared) (H : Hp) (w : Wd) (E : XK), Bd (bx P wd K mg base ["rule", "entry", "key", "age", "count", "left", "happenings"] "written" s_written f cdv A outer s H E) 0 E → CSs (bx P wd K mg base ["rule", "entry", "key", "age", "count", "left", "happenings"] "written" s_written f cdv A outer s H E) w E false (defBody s_written) c_written := by
  intro f cdv A outer s H w E B
  unfold c_written
  exact (css_cons (cs_asg (ce_var 1) (cg_tup (cgs_cons (cg_name 2 sc_written.nd) (cgs_cons (cg_name 3 sc_written.nd) (cgs_cons (cg_name 4 sc_written.nd) (cgs_cons (cg_name 5 sc_written.nd) cgs_nil))))))
  (css_cons (cs_setO 6 sc_written.nd (cf_lst ca_nil len_nil))
  (css_cons (cs_if ((cw_and (ct_cmp op_gt (t2_int fun _ _ _ => .bl _) (ce_var 5) ce_int) (cw_and1 (ct_val (ce_fd fd_own_ahead (ce_var 0)))))).ct (css_cons (cs_mut 6 F.plainAttrs_list F.slot_list_append F.type_list_append mt_append mut_append (ca_cons (ce_tup (ca_cons (ce_gstr g_AGAIN) (ca_cons (ce_var 2) (ca_cons (ce_var 5) ca_nil))) (len_cons (len_cons (len_cons len_nil)))) ca_nil))
  (css_one (cs_set 5 sc_written.nd ce_int)))
  css_nil)
  (css_cons (cs_mut 6 F.plainAttrs_list F.slot_list_append F.type_list_append mt_append mut_append (ca_cons (ce_tup (ca_cons (ce_gstr g_LINE) (ca_cons (ce_var 2) ca_nil)) (len_cons (len_cons len_nil))) ca_nil))
  (css_one (CS.frz 6 (cs_ret (ce_tup (ca_cons (ce_tup (ca_cons (ce_var 2) (ca_cons (ce_var 3) (ca_cons (ce_if (ct_cmp op_lt (t2_int fun _ _ _ => .bl _) (ce_var 4) (ce_fd fd_own_first (ce_var 0))) (ce_op o_add t2_add (ce_var 4) ce_int) (ce_fd fd_own_first (ce_var 0))) (ca_cons (ce_var 5) ca_nil)))) (len_cons (len_cons (len_cons (len_cons len_nil))))) (ca_cons (ce_var 6) ca_nil)) (len_cons (len_cons len_nil))))))))))
theorem ok_written {P : Program} {wd : World} {K : PySem.W.Frag} {mg : Str → Option Value} {base : Heap} (A : FunAt K mg "written" "written" s_written ["rule", "entry"]) (fd_own_ahead : FldT K mg "Rule" "own_ahead") (g_AGAIN : ∃ t, mg "AGAIN" = some (.str "again" t)) (g_LINE : ∃ t, mg "LINE" = some (.str "line" t)) (fd_own_first : FldT K mg "Rule" "own_first") : CallT P wd K mg base 1 "written" 2 (runB c_written 7) :=
  fn_at (k := 0) (c := c_written) A sc_written (bd_written fd_own_ahead g_AGAIN g_LINE fd_own_first)
theorem okS_written {P : Program} {wd : World} {K : PySem.W.Frag} {mg : Str → Option Value} {base : Heap} {n : Nat} {ks : List Str} {perm : List Nat} {dts : List T} (A : FunAtS K mg "written" "written" s_written ["rule", "entry"] n ks perm dts) (hp : perm.length = 2) (hl : ∀ i ∈ perm, i < n + ks.length + dts.length) (fd_own_ahead : FldT K mg "Rule" "own_ahead") (g_AGAIN : ∃ t, mg "AGAIN" = some (.str "again" t)) (g_LINE : ∃ t, mg "LINE" = some (.str "line" t)) (fd_own_first : FldT K mg "Rule" "own_first") : CallS P wd K mg base 1 "written" n ks perm dts 2 (runB c_written 7) :=
  fnS_at (k := 0) (c := c_written) A sc_written hp hl (bd_written fd_own_ahead g_AGAIN g_LINE fd_own_first)
abbrev s_said_again : Stmt := topS 24
theorem sc_said_again : FnScope ["rule", "entry", "key", "later", "happenings"] ["rule", "entry"] (defScope s_said_again) := ⟨rfl, rfl, rfl, by decide +kernel, rfl, by decide +kernel, by decide +kernel⟩
@[irreducible] def c_said_again : SC := (cSeq (cSet 2 (cOp2 fIx (cVar 1) (cC (.int 0))))
  (cSeq (cIfS (cB (cOp2 fEq (cOp2 fIx (cVar 1) (cC (.int 2))) (cC (.int 0)))) (cRet (cTup (caCons (cTup (caCons (cVar 2) (caCons (cC (.int 0)) (caCons (cC (.int 1)) (caCons (cC (.int 0)) caNil))))) (caCons (cLst (caCons (cTup (caCons (cC (.str "again")) (caCons (cVar 2) (caCons (cOp2 fIx (cVar 1) (cC (.int 3))) caNil)))) (caCons (cTup (caCons (cC (.str "line")) (caCons (cVar 2) caNil))) caNil))) caNil))))
  (fun r => .ret (.nx r)))
  (cSeq (cAsg (gcTup 2 (gcsCons (gcName 3) (gcsCons (gcName 4) gcsNil))) (cIf (cB (cCall (runB c_is_left_out 3) (caCons (cVar 0) (caCons (cVar 1) caNil)))) (cCall (runB c_left_out 7) (caCons (cVar 0) (caCons (cVar 1) caNil))) (cCall (runB c_written 7) (caCons (cVar 0) (caCons (cVar 1) caNil)))))
  (cRet (cTup (caCons (cTup (caCons (cVar 2) (caCons (cIf (cB (cFld "Rule" "own_renew" (cVar 0))) (cC (.int 0)) (cOp2 fIx (cVar 3) (cC (.int 1)))) (caCons (cOp2 fIx (cVar 3) (cC (.int 2))) (caCons (cOp2 fIx (cVar 3) (cC (.int 3))) caNil))))) (caCons (cVar 4) caNil)))))))
theorem bd_said_again {P : Program} {wd : World} {K : PySem.W.Frag} {mg : Str → Option Value} {base : Heap} (g_LINE : ∃ t, mg "LINE" = some (.str "line" t)) (g_AGAIN : ∃ t, mg "AGAIN" = some (.str "again" t)) (C_is_left_out : CallT P wd K mg base 2 "is_left_out" 2 (runB c_is_left_out 3)) (C_left_out : CallT P wd K mg base 1 "left_out" 2 (runB c_left_out 7)) (C_written : CallT P wd K mg base 1 "written" 2 (runB c_written 7)) (fd_own_renew : FldT K mg "Rule" "own_renew") : ∀ (f : Addr) (cdv : Value) (A : Around) (outer : List Env) (s : Shared) (H : Hp) (w : Wd) (E : XK), Bd (bx P wd K mg base ["rule", "entry", "key", "later", "happenings"] "said_again" s_said_again f cdv A outer s H E) 2 E → CSs (bx P wd K mg base ["rule", "entry", "key", "later", "happenings"] "said_again" s_said_again f cdv A outer s H E) w E false (defBody s_said_again) c_said_again := by
  intro f cdv A outer s H w E B
  unfold c_said_again
  exact (css_cons (cs_set 2 sc_said_again.nd (ce_ix (o_ix B.hr) t2_ix (ce_var 1) ce_int))
  (css_cons (cs_if (ct_cmp (o_eq B.hr) t2_eq (ce_ix (o_ix B.hr) t2_ix (ce_var 1) ce_int) ce_int) (css_one (cs_ret (ce_tup (ca_cons (ce_tup (ca_cons (ce_var 2) (ca_cons ce_int (ca_cons ce_int (ca_cons ce_int ca_nil)))) (len_cons (len_cons (len_cons (len_cons len_nil))))) (ca_cons ((cf_lst (ca_cons (ce_tup (ca_cons (ce_gstr g_AGAIN) (ca_cons (ce_var 2) (ca_cons (ce_ix (o_ix B.hr) t2_ix (ce_var 1) ce_int) ca_nil))) (len_cons (len_cons (len_cons len_nil)))) (ca_cons (ce_tup (ca_cons (ce_gstr g_LINE) (ca_cons (ce_var 2) ca_nil)) (len_cons (len_cons len_nil))) ca_nil)) (len_cons (len_cons len_nil)))).ce ca_nil)) (len_cons (len_cons len_nil)))))
  css_nil)
  (css_cons (cs_asg (ce_if (ct_val (ce_fn B C_is_left_out (ca_cons (ce_var 0) (ca_cons (ce_var 1) ca_nil)) (len_cons (len_cons len_nil)))) (ce_fn B C_left_out (ca_cons (ce_var 0) (ca_cons (ce_var 1) ca_nil)) (len_cons (len_cons len_nil))) (ce_fn B C_written (ca_cons (ce_var 0) (ca_cons (ce_var 1) ca_nil)) (len_cons (len_cons len_nil)))) (cg_tup (cgs_cons (cg_name 3 sc_said_again.nd) (cgs_cons (cg_name 4 sc_said_again.nd) cgs_nil))))
  (css_one (cs_ret (ce_tup (ca_cons (ce_tup (ca_cons (ce_var 2) (ca_cons (ce_if (ct_val (ce_fd fd_own_renew (ce_var 0))) ce_int (ce_ix (o_ix B.hr) t2_ix (ce_var 3) ce_int)) (ca_cons (ce_ix (o_ix B.hr) t2_ix (ce_var 3) ce_int) (ca_cons (ce_ix (o_ix B.hr) t2_ix (ce_var 3) ce_int) ca_nil)))) (len_cons (len_cons (len_cons (len_cons len_nil))))) (ca_cons (ce_var 4) ca_nil)) (len_cons (len_cons len_nil))))))))
theorem ok_said_again {P : Program} {wd : World} {K : PySem.W.Frag} {mg : Str → Option Value} {base : Heap} (A : FunAt K mg "said_again" "said_again" s_said_again ["rule", "entry"]) (g_LINE : ∃ t, mg "LINE" = some (.str "line" t)) (g_AGAIN : ∃ t, mg "AGAIN" = some (.str "again" t)) (C_is_left_out : CallT P wd K mg base 2 "is_left_out" 2 (runB c_is_left_out 3)) (C_left_out : CallT P wd K mg base 1 "left_out" 2 (runB c_left_out 7)) (C_written : CallT P wd K mg base 1 "written" 2 (runB c_written 7)) (fd_own_renew : FldT K mg "Rule" "own_renew") : CallT P wd K mg base 3 "said_again" 2 (runB c_said_again 5) :=
  fn_at (k := 2) (c := c_said_again) A sc_said_again (bd_said_again g_LINE g_AGAIN C_is_left_out C_left_out C_written fd_own_renew)
theorem okS_said_again {P : Program} {wd : World} {K : PySem.W.Frag} {mg : Str → Option Value} {base : Heap} {n : Nat} {ks : List Str} {perm : List Nat} {dts : List T} (A : FunAtS K mg "said_again" "said_again" s_said_again ["rule", "entry"] n ks perm dts) (hp : perm.length = 2) (hl : ∀ i ∈ perm, i < n + ks.length + dts.length) (g_LINE : ∃ t, mg "LINE" = some (.str "line" t)) (g_AGAIN : ∃ t, mg "AGAIN" = some (.str "again" t)) (C_is_left_out : CallT P wd K mg base 2 "is_left_out" 2 (runB c_is_left_out 3)) (C_left_out : CallT P wd K mg base 1 "left_out" 2 (runB c_left_out 7)) (C_written : CallT P wd K mg base 1 "written" 2 (runB c_written 7)) (fd_own_renew : FldT K mg "Rule" "own_renew") : CallS P wd K mg base 3 "said_again" n ks perm dts 2 (runB c_said_again 5) :=
  fnS_at (k := 2) (c := c_said_again) A sc_said_again hp hl (bd_said_again g_LINE g_AGAIN C_is_left_out C_left_out C_written fd_own_renew)
abbrev s_forgotten : Stmt := topS 25
theorem sc_forgotten : FnScope ["rule", "memory", "key", "age", "count", "left"] ["rule", "memory"] (defScope s_forgotten) := ⟨rfl, rfl, rfl, by decide +kernel, rfl, by decide +kernel, by decide +kernel⟩
@[irreducible] def c_forgotten : SC := (cSeq (cAsg (gcTup 4 (gcsCons (gcName 2) (gcsCons (gcName 3) (gcsCons (gcName 4) (gcsCons (gcName 5) gcsNil))))) (cOp2 fIx (cVar 1) (cOp1 (fI1 fun i => .int (-i)) (cC (.int 1)))))
  (cSeq (cIfS (cB (cOp2 fEq (cVar 5) (cC (.int 0)))) (cRet (cTup (caCons (cSl (cVar 1) coNone (coSome (cOp1 (fI1 fun i => .int (-i)) (cC (.int 1))))) (caCons (cLst caNil) caNil))))
  (fun r => .ret (.nx r)))
  (cRet (cTup (caCons (cSl (cVar 1) coNone (coSome (cOp1 (fI1 fun i => .int (-i)) (cC (.int 1))))) (caCons (cLst (caCons (cTup (caCons (cIf (cB (cFld "Rule" "own_farewell" (cVar 0))) (cC (.str "again")) (cC (.str "lost"))) (caCons (cVar 2) (caCons (cVar 5) caNil)))) caNil)) caNil))))))
theorem bd_forgotten {P : Program} {wd : World} {K : PySem.W.Frag} {mg : Str → Option Value} {base : Heap} (fd_own_farewell : FldT K mg "Rule" "own_farewell") (g_AGAIN : ∃ t, mg "AGAIN" = some (.str "again" t)) (g_LOST : ∃ t, mg "LOST" = some (.str "lost" t)) : ∀ (f : Addr) (cdv : Value) (A : Around) (outer : List Env) (s : Shared) (H : Hp) (w : Wd) (E : XK), Bd (bx P wd K mg base ["rule", "memory", "key", "age", "count", "left"] "forgotten" s_forgotten f cdv A outer s H E) 0 E → CSs (bx P wd K mg base ["rule", "memory", "key", "age", "count", "left"] "forgotten" s_forgotten f cdv A outer s H E) w E false (defBody s_forgotten) c_forgotten := by
  intro f cdv A outer s H w E B
  unfold c_forgotten
  exact (css_cons (cs_asg (ce_ix (o_ix B.hr) t2_ix (ce_var 1) (ce_un un_neg (t1_int fun _ _ => .int _) ce_int)) (cg_tup (cgs_cons (cg_name 2 sc_forgotten.nd) (cgs_cons (cg_name 3 sc_forgotten.nd) (cgs_cons (cg_name 4 sc_forgotten.nd) (cgs_cons (cg_name 5 sc_forgotten.nd) cgs_nil))))))
  (css_cons (cs_if (ct_cmp (o_eq B.hr) t2_eq (ce_var 5) ce_int) (css_one (cs_ret (ce_tup (ca_cons (ce_sl (ce_var 1) co_none (co_some (ce_un un_neg (t1_int fun _ _ => .int _) ce_int))) (ca_cons ((cf_lst ca_nil len_nil)).ce ca_nil)) (len_cons (len_cons len_nil)))))
  css_nil)
  (css_one (cs_ret (ce_tup (ca_cons (ce_sl (ce_var 1) co_none (co_some (ce_un un_neg (t1_int fun _ _ => .int _) ce_int))) (ca_cons ((cf_lst (ca_cons (ce_tup (ca_cons (ce_if (ct_val (ce_fd fd_own_farewell (ce_var 0))) (ce_gstr g_AGAIN) (ce_gstr g_LOST)) (ca_cons (ce_var 2) (ca_cons (ce_var 5) ca_nil))) (len_cons (len_cons (len_cons len_nil)))) ca_nil) (len_cons len_nil))).ce ca_nil)) (len_cons (len_cons len_nil)))))))
theorem ok_forgotten {P : Program} {wd : World} {K : PySem.W.Frag} {mg : Str → Option Value} {base : Heap} (A : FunAt K mg "forgotten" "forgotten" s_forgotten ["rule", "memory"]) (fd_own_farewell : FldT K mg "Rule" "own_farewell") (g_AGAIN : ∃ t, mg "AGAIN" = some (.str "again" t)) (g_LOST : ∃ t, mg "LOST" = some (.str "lost" t)) : CallT P wd K mg base 1 "forgotten" 2 (runB c_forgotten 6) :=
  fn_at (k := 0) (c := c_forgotten) A sc_forgotten (bd_forgotten fd_own_farewell g_AGAIN g_LOST)
theorem okS_forgotten {P : Program} {wd : World} {K : PySem.W.Frag} {mg : Str → Option Value} {base : Heap} {n : Nat} {ks : List Str} {perm : List Nat} {dts : List T} (A : FunAtS K mg "forgotten" "forgotten" s_forgotten ["rule", "memory"] n ks perm dts) (hp : perm.length = 2) (hl : ∀ i ∈ perm, i < n + ks.length + dts.length) (fd_own_farewell : FldT K mg "Rule" "own_farewell") (g_AGAIN : ∃ t, mg "AGAIN" = some (.str "again" t)) (g_LOST : ∃ t, mg "LOST" = some (.str "lost" t)) : CallS P wd K mg base 1 "forgotten" n ks perm dts 2 (runB c_forgotten 6) :=
  fnS_at (k := 0) (c := c_forgotten) A sc_forgotten hp hl (bd_forgotten fd_own_farewell g_AGAIN g_LOST)
abbrev s_say_of : Stmt := topS 26
theorem sc_say_of : FnScope ["rule", "memory", "key", "entry", "later", "happenings", "other"] ["rule", "memory", "key"] (defScope s_say_of) := ⟨rfl, rfl, rfl, by decide +kernel, rfl, by decide +kernel, by decide +kernel⟩
@[irreducible] def c_say_of : SC := (cSeq (cSet 3 (cCall (runB c_entry_of 4) (caCons (cVar 1) (caCons (cVar 2) caNil))))
  (cSeq (cIfS (cB (cOp1 fNotN (cVar 3))) (cSeq (cAsg (gcTup 2 (gcsCons (gcName 4) (gcsCons (gcName 5) gcsNil))) (cCall (runB c_said_again 5) (caCons (cVar 0) (caCons (cVar 3) caNil))))
  (cRet (cTup (caCons (cTupS (caCons (cVar 4) (caStar (cComp (fun r => (cVar 1) r >>= anyOf) (gcName 6) (cB (cOp2 fNe (cOp2 fIx (cVar 6) (cC (.int 0))) (cVar 2))) (cVar 6) [6]) caNil))) (caCons (cVar 5) caNil)))))
  (fun r => .ret (.nx r)))
  (cSeq (cSet 5 (cLst caNil))
  (cSeq (cIfS (cAndT (cB (cOp1 fNotN (cFld "Rule" "own_slots" (cVar 0)))) (cB (cOp2 fEq (cCall fLen (caCons (cVar 1) caNil)) (cFld "Rule" "own_slots" (cVar 0))))) (cAsg (gcTup 2 (gcsCons (gcName 1) (gcsCons (gcName 5) gcsNil))) (cCall (runB c_forgotten 6) (caCons (cVar 0) (caCons (cVar 1) caNil))))
  (fun r => .ret (.nx r)))
  (cRet (cTup (caCons (cTupS (caCons (cTup (caCons (cVar 2) (caCons (cC (.int 0)) (caCons (cC (.int 1)) (caCons (cC (.int 0)) caNil))))) (caStar (cVar 1) caNil))) (caCons (cLstS (caStar (cVar 5) (caCons (cTup (caCons (cC (.str "line")) (caCons (cVar 2) caNil))) caNil))) caNil))))))))
theorem bd_say_of {P : Program} {wd : World} {K : PySem.W.Frag} {mg : Str → Option Value} {base : Heap} (C_entry_of : CallT P wd K mg base 1 "entry_of" 2 (runB c_entry_of 4)) (C_said_again : CallT P wd K mg base 3 "said_again" 2 (runB c_said_again 5)) (fd_own_slots : FldT K mg "Rule" "own_slots") (m_len : mg "len" = none) (C_forgotten : CallT P wd K mg base 1 "forgotten" 2 (runB c_forgotten 6)) (g_LINE : ∃ t, mg "LINE" = some (.str "line" t)) : ∀ (f : Addr) (cdv : Value) (A : Around) (outer : List Env) (s : Shared) (H : Hp) (w : Wd) (E : XK), Bd (bx P wd K mg base ["rule", "memory", "key", "entry", "later", "happenings", "other"] "say_of" s_say_of f cdv A outer s H E) 3 E → CSs (bx P wd K mg base ["rule", "memory", "key", "entry", "later", "happenings", "other"] "say_of" s_say_of f cdv A outer s H E) w E false (defBody s_say_of) c_say_of := by
  intro f cdv A outer s H w E B
  unfold c_say_of
  exact (css_cons (cs_set 3 sc_say_of.nd (ce_fn B C_entry_of (ca_cons (ce_var 1) (ca_cons (ce_var 2) ca_nil)) (len_cons (len_cons len_nil))))
  (css_cons (cs_if (ct_notN (ce_var 3)) (css_cons (cs_asg (ce_fn B C_said_again (ca_cons (ce_var 0) (ca_cons (ce_var 3) ca_nil)) (len_cons (len_cons len_nil))) (cg_tup (cgs_cons (cg_name 4 sc_say_of.nd) (cgs_cons (cg_name 5 sc_say_of.nd) cgs_nil))))
  (css_one (cs_ret (ce_tup (ca_cons (ce_tupS (ca_cons (ce_var 4) (ca_star ((cf_comp (own := [("other", 6)]) sc_say_of.nd (ci_any (ce_var 1)) (blkOk_by (by rfl)) (fun s H C cl fp => (cg_name 6 sc_say_of.nd)) (fun s H C cl fp => (cts_one (ct_cmp (o_ne (B.blk s H _ _ fp).hr) t2_ne (ce_ix (o_ix (B.blk s H _ _ fp).hr) t2_ix (ce_var 6) ce_int) (ce_var 2)))) (fun s H C cl fp => (ce_var 6)))).ce ca_nil))) (ca_cons (ce_var 5) ca_nil)) (len_cons (len_cons len_nil))))))
  css_nil)
  (css_cons (cs_set 5 sc_say_of.nd ((cf_lst ca_nil len_nil)).ce)
  (css_cons (cs_if ((cw_and (ct_notN (ce_fd fd_own_slots (ce_var 0))) (cw_and1 (ct_cmp (o_eq B.hr) t2_eq (ce_callB o_len tn_len (by rfl) m_len (by rfl) (ca_cons (ce_var 1) ca_nil)) (ce_fd fd_own_slots (ce_var 0)))))).ct (css_one (cs_asg (ce_fn B C_forgotten (ca_cons (ce_var 0) (ca_cons (ce_var 1) ca_nil)) (len_cons (len_cons len_nil))) (cg_tup (cgs_cons (cg_name 1 sc_say_of.nd) (cgs_cons (cg_name 5 sc_say_of.nd) cgs_nil)))))
  css_nil)
  (css_one (cs_ret (ce_tup (ca_cons (ce_tupS (ca_cons (ce_tup (ca_cons (ce_var 2) (ca_cons ce_int (ca_cons ce_int (ca_cons ce_int ca_nil)))) (len_cons (len_cons (len_cons (len_cons len_nil))))) (ca_star (ce_var 1) ca_nil))) (ca_cons ((cf_lstS (ca_star (ce_var 5) (ca_cons (ce_tup (ca_cons (ce_gstr g_LINE) (ca_cons (ce_var 2) ca_nil)) (len_cons (len_cons len_nil))) ca_nil)))).ce ca_nil)) (len_cons (len_cons len_nil)))))))))
theorem ok_say_of {P : Program} {wd : World} {K : PySem.W.Frag} {mg : Str → Option Value} {base : Heap} (A : FunAt K mg "say_of" "say_of" s_say_of ["rule", "memory", "key"]) (C_entry_of : CallT P wd K mg base 1 "entry_of" 2 (runB c_entry_of 4)) (C_said_again : CallT P wd K mg base 3 "said_again" 2 (runB c_said_again 5)) (fd_own_slots : FldT K mg "Rule" "own_slots") (m_len : mg "len" = none) (C_forgotten : CallT P wd K mg base 1 "forgotten" 2 (runB c_forgotten 6)) (g_LINE : ∃ t, mg "LINE" = some (.str "line" t)) : CallT P wd K mg base 4 "say_of" 3 (runB c_say_of 7) :=
  fn_at (k := 3) (c := c_say_of) A sc_say_of (bd_say_of C_entry_of C_said_again fd_own_slots m_len C_forgotten g_LINE)
theorem okS_say_of {P : Program} {wd : World} {K : PySem.W.Frag} {mg : Str → Option Value} {base : Heap} {n : Nat} {ks : List Str} {perm : List Nat} {dts : List T} (A : FunAtS K mg "say_of" "say_of" s_say_of ["rule", "memory", "key"] n ks perm dts) (hp : perm.length = 3) (hl : ∀ i ∈ perm, i < n + ks.length + dts.length) (C_entry_of : CallT P wd K mg base 1 "entry_of" 2 (runB c_entry_of 4)) (C_said_again : CallT P wd K mg base 3 "said_again" 2 (runB c_said_again 5)) (fd_own_slots : FldT K mg "Rule" "own_slots") (m_len : mg "len" = none) (C_forgotten : CallT P wd K mg base 1 "forgotten" 2 (runB c_forgotten 6)) (g_LINE : ∃ t, mg "LINE" = some (.str "line" t)) : CallS P wd K mg base 4 "say_of" n ks perm dts 3 (runB c_say_of 7) :=
  fnS_at (k := 3) (c := c_say_of) A sc_say_of hp hl (bd_say_of C_entry_of C_said_again fd_own_slots m_len C_forgotten g_LINE)
abbrev s_aged : Stmt := topS 27
theorem sc_aged : FnScope ["rule", "entry", "key", "age", "count", "left"] ["rule", "entry"] (defScope s_aged) := ⟨rfl, rfl, rfl, by decide +kernel, rfl, by decide +kernel, by decide +kernel⟩
@[irreducible] def c_aged : SC := (cSeq (cAsg (gcTup 4 (gcsCons (gcName 2) (gcsCons (gcName 3) (gcsCons (gcName 4) (gcsCons (gcName 5) gcsNil))))) (cVar 1))
  (cSeq (cIfS (cOrT (cB (cOp2 fEq (cVar 4) (cC (.int 0)))) (cB (cOp2 (fII fun i j => .bl (decide (i < j))) (cOp2 fAdd (cVar 3) (cC (.int 1))) (cFld "Rule" "own_window" (cVar 0))))) (cRet (cTup (caCons (cLst (caCons (cIf (cB (cOp2 fEq (cVar 4) (cC (.int 0)))) (cVar 1) (cTup (caCons (cVar 2) (caCons (cOp2 fAdd (cVar 3) (cC (.int 1))) (caCons (cVar 4) (caCons (cVar 5) caNil)))))) caNil)) (caCons (cLst caNil) caNil))))
  (fun r => .ret (.nx r)))
  (cSeq (cIfS (cB (cOp2 fEq (cVar 5) (cC (.int 0)))) (cRet (cTup (caCons (cLst caNil) (caCons (cLst caNil) caNil))))
  (fun r => .ret (.nx r)))
  (cSeq (cIfS (cB (cFld "Rule" "own_atend" (cVar 0))) (cRet (cTup (caCons (cLst caNil) (caCons (cLst (caCons (cTup (caCons (cC (.str "again")) (caCons (cVar 2) (caCons (cVar 5) caNil)))) caNil)) caNil))))
  (fun r => .ret (.nx r)))
  (cSeq (cIfS (cB (cFld "Rule" "own_ahead" (cVar 0))) (cRet (cTup (caCons (cLst (caCons (cTup (caCons (cVar 2) (caCons (cC (.int 0)) (caCons (cC (.int 0)) (caCons (cVar 5) caNil))))) caNil)) (caCons (cLst caNil) caNil))))
  (fun r => .ret (.nx r)))
  (cRet (cTup (caCons (cLst caNil) (caCons (cLst (caCons (cTup (caCons (cC (.str "lost")) (caCons (cVar 2) (caCons (cVar 5) caNil)))) caNil)) caNil)))))))))
theorem bd_aged {P : Program} {wd : World} {K : PySem.W.Frag} {mg : Str → Option Value} {base : Heap} (fd_own_window : FldT K mg "Rule" "own_window") (fd_own_atend : FldT K mg "Rule" "own_atend") (g_AGAIN : ∃ t, mg "AGAIN" = some (.str "again" t)) (fd_own_ahead : FldT K mg "Rule" "own_ahead") (g_LOST : ∃ t, mg "LOST" = some (.str "lost" t)) : ∀ (f : Addr) (cdv : Value) (A : Around) (outer : List Env) (s : Shared) (H : Hp) (w : Wd) (E : XK), Bd (bx P wd K mg base ["rule", "entry", "key", "age", "count", "left"] "aged" s_aged f cdv A outer s H E) 0 E → CSs (bx P wd K mg base ["rule", "entry", "key", "age", "count", "left"] "aged" s_aged f cdv A outer s H E) w E false (defBody s_aged) c_aged := by
  intro f cdv A outer s H w E B
  unfold c_aged
  exact (css_cons (cs_asg (ce_var 1) (cg_tup (cgs_cons (cg_name 2 sc_aged.nd) (cgs_cons (cg_name 3 sc_aged.nd) (cgs_cons (cg_name 4 sc_aged.nd) (cgs_cons (cg_name 5 sc_aged.nd) cgs_nil))))))
  (css_cons (cs_if ((cw_or (ct_cmp (o_eq B.hr) t2_eq (ce_var 4) ce_int) (cw_or1 (ct_cmp op_lt (t2_int fun _ _ _ => .bl _) (ce_op o_add t2_add (ce_var 3) ce_int) (ce_fd fd_own_window (ce_var 0)))))).ct (css_one (cs_ret (ce_tup (ca_cons ((cf_lst (ca_cons (ce_if (ct_cmp (o_eq B.hr) t2_eq (ce_var 4) ce_int) (ce_var 1) (ce_tup (ca_cons (ce_var 2) (ca_cons (ce_op o_add t2_add (ce_var 3) ce_int) (ca_cons (ce_var 4) (ca_cons (ce_var 5) ca_nil)))) (len_cons (len_cons (len_cons (len_cons len_nil)))))) ca_nil) (len_cons len_nil))).ce (ca_cons ((cf_lst ca_nil len_nil)).ce ca_nil)) (len_cons (len_cons len_nil)))))
  css_nil)
  (css_cons (cs_if (ct_cmp (o_eq B.hr) t2_eq (ce_var 5) ce_int) (css_one (cs_ret (ce_tup (ca_cons ((cf_lst ca_nil len_nil)).ce (ca_cons ((cf_lst ca_nil len_nil)).ce ca_nil)) (len_cons (len_cons len_nil)))))
  css_nil)
  (css_cons (cs_if (ct_val (ce_fd fd_own_atend (ce_var 0))) (css_one (cs_ret (ce_tup (ca_cons ((cf_lst ca_nil len_nil)).ce (ca_cons ((cf_lst (ca_cons (ce_tup (ca_cons (ce_gstr g_AGAIN) (ca_cons (ce_var 2) (ca_cons (ce_var 5) ca_nil))) (len_cons (len_cons (len_cons len_nil)))) ca_nil) (len_cons len_nil))).ce ca_nil)) (len_cons (len_cons len_nil)))))
  css_nil)
  (css_cons (cs_if (ct_val (ce_fd fd_own_ahead (ce_var 0))) (css_one (cs_ret (ce_tup (ca_cons ((cf_lst (ca_cons (ce_tup (ca_cons (ce_var 2) (ca_cons ce_int (ca_cons ce_int (ca_cons (ce_var 5) ca_nil)))) (len_cons (len_cons (len_cons (len_cons len_nil))))) ca_nil) (len_cons len_nil))).ce (ca_cons ((cf_lst ca_nil len_nil)).ce ca_nil)) (len_cons (len_cons len_nil)))))
  css_nil)
  (css_one (cs_ret (ce_tup (ca_cons ((cf_lst ca_nil len_nil)).ce (ca_cons ((cf_lst (ca_cons (ce_tup (ca_cons (ce_gstr g_LOST) (ca_cons (ce_var 2) (ca_cons (ce_var 5) ca_nil))) (len_cons (len_cons (len_cons len_nil)))) ca_nil) (len_cons len_nil))).ce ca_nil)) (len_cons (len_cons len_nil))))))))))
theorem ok_aged {P : Program} {wd : World} {K : PySem.W.Frag} {mg : Str → Option Value} {base : Heap} (A : FunAt K mg "aged" "aged" s_aged ["rule", "entry"]) (fd_own_window : FldT K mg "Rule" "own_window") (fd_own_atend : FldT K mg "Rule" "own_atend") (g_AGAIN : ∃ t, mg "AGAIN" = some (.str "again" t)) (fd_own_ahead : FldT K mg "Rule" "own_ahead") (g_LOST : ∃ t, mg "LOST" = some (.str "lost" t)) : CallT P wd K mg base 1 "aged" 2 (runB c_aged 6) :=
  fn_at (k := 0) (c := c_aged) A sc_aged (bd_aged fd_own_window fd_own_atend g_AGAIN fd_own_ahead g_LOST)
theorem okS_aged {P : Program} {wd : World} {K : PySem.W.Frag} {mg : Str → Option Value} {base : Heap} {n : Nat} {ks : List Str} {perm : List Nat} {dts : List T} (A : FunAtS K mg "aged" "aged" s_aged ["rule", "entry"] n ks perm dts) (hp : perm.length = 2) (hl : ∀ i ∈ perm, i < n + ks.length + dts.length) (fd_own_window : FldT K mg "Rule" "own_window") (fd_own_atend : FldT K mg "Rule" "own_atend") (g_AGAIN : ∃ t, mg "AGAIN" = some (.str "again" t)) (fd_own_ahead : FldT K mg "Rule" "own_ahead") (g_LOST : ∃ t, mg "LOST" = some (.str "lost" t)) : CallS P wd K mg base 1 "aged" n ks perm dts 2 (runB c_aged 6) :=
  fnS_at (k := 0) (c := c_aged) A sc_aged hp hl (bd_aged fd_own_window fd_own_atend g_AGAIN fd_own_ahead g_LOST)
abbrev s_tick_of : Stmt := topS 28
theorem sc_tick_of : FnScope ["rule", "memory", "found", "happenings", "entry", "entries", "more"] ["rule", "memory"] (defScope s_tick_of) := ⟨rfl, rfl, rfl, by decide +kernel, rfl, by decide +kernel, by decide +kernel⟩
@[irreducible] def c_tick_of_b1 : SC := (cSeq (cAsg (gcTup 2 (gcsCons (gcName 5) (gcsCons (gcName 6) gcsNil))) (cCall (runB c_aged 6) (caCons (cVar 0) (caCons (cVar 4) caNil))))
  (cSeq (cSet 2 (cOp2 fAdd (cVar 5) (cVar 2)))
  (cMut "list" 3 mExtend (caCons (cVar 6) caNil))))
@[irreducible] def c_tick_of : SC := (cSeq (cIfS (cB (cOp1 fIsN (cFld "Rule" "own_window" (cVar 0)))) (cRet (cTup (caCons (cVar 1) (caCons (cLst caNil) caNil))))
  (fun r => .ret (.nx r)))
  (cSeq (cPar [2, 3] ((false, (cLst caNil)) :: ((true, (cLst caNil)) :: [])))
  (cSeq (cFor (fun r => (cOp1 fRev (cVar 1)) r >>= anyOf) (gcName 4)
  c_tick_of_b1)
  (cFrz 3 (cRet (cTup (caCons (cCall fTuple (caCons (cVar 2) caNil)) (caCons (cVar 3) caNil))))))))
theorem bd_tick_of {P : Program} {wd : World} {K : PySem.W.Frag} {mg : Str → Option Value} {base : Heap} (fd_own_window : FldT K mg "Rule" "own_window") (C_aged : CallT P wd K mg base 1 "aged" 2 (runB c_aged 6)) (m_tuple : mg "tuple" = none) : ∀ (f : Addr) (cdv : Value) (A : Around) (outer : List Env) (s : Shared) (H : Hp) (w : Wd) (E : XK), Bd (bx P wd K mg base ["rule", "memory", "found", "happenings", "entry", "entries", "more"] "tick_of" s_tick_of f cdv A outer s H E) 1 E → CSs (bx P wd K mg base ["rule", "memory", "found", "happenings", "entry", "entries", "more"] "tick_of" s_tick_of f cdv A outer s H E) w E false (defBody s_tick_of) c_tick_of := by
  intro f cdv A outer s H w E B
  unfold c_tick_of
  unfold c_tick_of_b1
  exact (css_cons (cs_if (ct_isN (ce_fd fd_own_window (ce_var 0))) (css_one (cs_ret (ce_tup (ca_cons (ce_var 1) (ca_cons ((cf_lst ca_nil len_nil)).ce ca_nil)) (len_cons (len_cons len_nil)))))
  css_nil)
  (css_cons (cs_par sc_tick_of.nd (cm_fz ((cf_lst ca_nil len_nil)).ce (cm_ow (cf_lst ca_nil len_nil) cm_nil)))
  (css_cons (cs_for B.po (ci_any (ce_rev (ce_var 1))) (cg_name 4 sc_tick_of.nd)
  (css_cons (cs_asg (ce_fn B C_aged (ca_cons (ce_var 0) (ca_cons (ce_var 4) ca_nil)) (len_cons (len_cons len_nil))) (cg_tup (cgs_cons (cg_name 5 sc_tick_of.nd) (cgs_cons (cg_name 6 sc_tick_of.nd) cgs_nil))))
  (css_cons (cs_set 2 sc_tick_of.nd (ce_op o_add t2_add (ce_var 5) (ce_var 2)))
  (css_one (cs_mut 3 F.plainAttrs_list F.slot_list_extend F.type_list_extend mt_extend mut_extend (ca_cons (ce_var 6) ca_nil))))))
  (css_one (CS.frz 3 (cs_ret (ce_tup (ca_cons (ce_callTy o_tuple tn_tuple (by rfl) m_tuple (by rfl) (ca_cons (ce_var 2) ca_nil)) (ca_cons (ce_var 3) ca_nil)) (len_cons (len_cons len_nil)))))))))
theorem ok_tick_of {P : Program} {wd : World} {K : PySem.W.Frag} {mg : Str → Option Value} {base : Heap} (A : FunAt K mg "tick_of" "tick_of" s_tick_of ["rule", "memory"]) (fd_own_window : FldT K mg "Rule" "own_window") (C_aged : CallT P wd K mg base 1 "aged" 2 (runB c_aged 6)) (m_tuple : mg "tuple" = none) : CallT P wd K mg base 2 "tick_of" 2 (runB c_tick_of 7) :=
  fn_at (k := 1) (c := c_tick_of) A sc_tick_of (bd_tick_of fd_own_window C_aged m_tuple)
theorem okS_tick_of {P : Program} {wd : World} {K : PySem.W.Frag} {mg : Str → Option Value} {base : Heap} {n : Nat} {ks : List Str} {perm : List Nat} {dts : List T} (A : FunAtS K mg "tick_of" "tick_of" s_tick_of ["rule", "memory"] n ks perm dts) (hp : perm.length = 2) (hl : ∀ i ∈ perm, i < n + ks.length + dts.length) (fd_own_window : FldT K mg "Rule" "own_window") (C_aged : CallT P wd K mg base 1 "aged" 2 (runB c_aged 6)) (m_tuple : mg "tuple" = none) : CallS P wd K mg base 2 "tick_of" n ks perm dts 2 (runB c_tick_of 7) :=
  fnS_at (k := 1) (c := c_tick_of) A sc_tick_of hp hl (bd_tick_of fd_own_window C_aged m_tuple)
abbrev s_sign_of : Stmt := topS 34
theorem sc_sign_of : FnScope ["rule", "memory", "sign"] ["rule", "memory", "sign"] (defScope s_sign_of) := ⟨rfl, rfl, rfl, by decide +kernel, rfl, by decide +kernel, by decide +kernel⟩
@[irreducible] def c_sign_of : SC := (cRet (cIf (cB (cOp2 fEq (cOp2 fIx (cVar 2) (cC (.int 0))) (cC (.str "say")))) (cCall (runB c_say_of 7) (caCons (cVar 0) (caCons (cVar 1) (caCons (cOp2 fIx (cVar 2) (cC (.int 1))) caNil)))) (cCall (runB c_tick_of 7) (caCons (cVar 0) (caCons (cVar 1) caNil)))))
theorem bd_sign_of {P : Program} {wd : World} {K : PySem.W.Frag} {mg : Str → Option Value} {base : Heap} (g_SAY : ∃ t, mg "SAY" = some (.str "say" t)) (C_say_of : CallT P wd K mg base 4 "say_of" 3 (runB c_say_of 7)) (C_tick_of : CallT P wd K mg base 2 "tick_of" 2 (runB c_tick_of 7)) : ∀ (f : Addr) (cdv : Value) (A : Around) (outer : List Env) (s : Shared) (H : Hp) (w : Wd) (E : XK), Bd (bx P wd K mg base ["rule", "memory", "sign"] "sign_of" s_sign_of f cdv A outer s H E) 4 E → CSs (bx P wd K mg base ["rule", "memory", "sign"] "sign_of" s_sign_of f cdv A outer s H E) w E false (defBody s_sign_of) c_sign_of := by
  intro f cdv A outer s H w E B
  unfold c_sign_of
  exact (css_one (cs_ret (ce_if (ct_cmp (o_eq B.hr) t2_eq (ce_ix (o_ix B.hr) t2_ix (ce_var 2) ce_int) (ce_gstr g_SAY)) (ce_fn B C_say_of (ca_cons (ce_var 0) (ca_cons (ce_var 1) (ca_cons (ce_ix (o_ix B.hr) t2_ix (ce_var 2) ce_int) ca_nil))) (len_cons (len_cons (len_cons len_nil)))) (ce_fn B C_tick_of (ca_cons (ce_var 0) (ca_cons (ce_var 1) ca_nil)) (len_cons (len_cons len_nil))))))
theorem ok_sign_of {P : Program} {wd : World} {K : PySem.W.Frag} {mg : Str → Option Value} {base : Heap} (A : FunAt K mg "sign_of" "sign_of" s_sign_of ["rule", "memory", "sign"]) (g_SAY : ∃ t, mg "SAY" = some (.str "say" t)) (C_say_of : CallT P wd K mg base 4 "say_of" 3 (runB c_say_of 7)) (C_tick_of : CallT P wd K mg base 2 "tick_of" 2 (runB c_tick_of 7)) : CallT P wd K mg base 5 "sign_of" 3 (runB c_sign_of 3) :=
  fn_at (k := 4) (c := c_sign_of) A sc_sign_of (bd_sign_of g_SAY C_say_of C_tick_of)
theorem okS_sign_of {P : Program} {wd : World} {K : PySem.W.Frag} {mg : Str → Option Value} {base : Heap} {n : Nat} {ks : List Str} {perm : List Nat} {dts : List T} (A : FunAtS K mg "sign_of" "sign_of" s_sign_of ["rule", "memory", "sign"] n ks perm dts) (hp : perm.length = 3) (hl : ∀ i ∈ perm, i < n + ks.length + dts.length) (g_SAY : ∃ t, mg "SAY" = some (.str "say" t)) (C_say_of : CallT P wd K mg base 4 "say_of" 3 (runB c_say_of 7)) (C_tick_of : CallT P wd K mg base 2 "tick_of" 2 (runB c_tick_of 7)) : CallS P wd K mg base 5 "sign_of" n ks perm dts 3 (runB c_sign_of 3) :=
  fnS_at (k := 4) (c := c_sign_of) A sc_sign_of hp hl (bd_sign_of g_SAY C_say_of C_tick_of)
abbrev s_walked : Stmt := topS 35
theorem sc_walked : FnScope ["rule", "course", "found", "memory", "sign", "happenings"] ["rule", "course"] (defScope s_walked) := ⟨rfl, rfl, rfl, by decide +kernel, rfl, by decide +kernel, by decide +kernel⟩
@[irreducible] def c_walked_b1 : SC := (cSeq (cAsg (gcTup 2 (gcsCons (gcName 3) (gcsCons (gcName 5) gcsNil))) (cCall (runB c_sign_of 3) (caCons (cVar 0) (caCons (cVar 3) (caCons (cVar 4) caNil)))))
  (cMut "list" 2 mAppend (caCons (cTup (caCons (cVar 3) (caCons (cVar 5) caNil))) caNil)))
@[irreducible] def c_walked : SC := (cSeq (cPar [2, 3] ((true, (cLst caNil)) :: ((false, (cTup caNil)) :: [])))
  (cSeq (cFor (fun r => (cVar 1) r >>= anyOf) (gcName 4)
  c_walked_b1)
  (cRetO 2)))
theorem bd_walked {P : Program} {wd : World} {K : PySem.W.Frag} {mg : Str → Option Value} {base : Heap} (C_sign_of : CallT P wd K mg base 5 "sign_of" 3 (runB c_sign_of 3)) : ∀ (f : Addr) (cdv : Value) (A : Around) (outer : List Env) (s : Shared) (H : Hp) (w : Wd) (E : XK), Bd (bx P wd K mg base ["rule", "course", "found", "memory", "sign", "happenings"] "walked" s_walked f cdv A outer s H E) 5 E → CSs (bx P wd K mg base ["rule", "course", "found", "memory", "sign", "happenings"] "walked" s_walked f cdv A outer s H E) w E true (defBody s_walked) c_walked := by
  intro f cdv A outer s H w E B
  unfold c_walked
  unfold c_walked_b1
  exact (css_cons (cs_par sc_walked.nd (cm_ow (cf_lst ca_nil len_nil) (cm_fz (ce_tup ca_nil len_nil) cm_nil)))
  (css_cons (cs_for B.po (ci_any (ce_var 1)) (cg_name 4 sc_walked.nd)
  (css_cons (cs_asg (ce_fn B C_sign_of (ca_cons (ce_var 0) (ca_cons (ce_var 3) (ca_cons (ce_var 4) ca_nil))) (len_cons (len_cons (len_cons len_nil)))) (cg_tup (cgs_cons (cg_name 3 sc_walked.nd) (cgs_cons (cg_name 5 sc_walked.nd) cgs_nil))))
  (css_one (cs_mut 2 F.plainAttrs_list F.slot_list_append F.type_list_append mt_append mut_append (ca_cons (ce_tup (ca_cons (ce_var 3) (ca_cons (ce_var 5) ca_nil)) (len_cons (len_cons len_nil))) ca_nil)))))
  (css_one (cs_retO 2))))
theorem ok_walked {P : Program} {wd : World} {K : PySem.W.Frag} {mg : Str → Option Value} {base : Heap} (A : FunAt K mg "walked" "walked" s_walked ["rule", "course"]) (C_sign_of : CallT P wd K mg base 5 "sign_of" 3 (runB c_sign_of 3)) : CallN P wd K mg base 6 "walked" 2 (runR c_walked 6) :=
  fnN_at (k := 5) (c := c_walked) A sc_walked (bd_walked C_sign_of)
abbrev s_lines_of : Stmt := topS 37
theorem sc_lines_of : FnScope ["sign", "happenings", "found", "one"] ["sign", "happenings"] (defScope s_lines_of) := ⟨rfl, rfl, rfl, by decide +kernel, rfl, by decide +kernel, by decide +kernel⟩
@[irreducible] def c_lines_of : SC := (cSeq (cSeqFrz 2 (cSetO 2 (cComp (fun r => (cVar 1) r >>= anyOf) (gcName 3) (cB (cOp2 (fInB false) (cOp2 fIx (cVar 3) (cC (.int 0))) (cTup (caCons (cC (.str "line")) (caCons (cC (.str "again")) caNil))))) (cVar 3) [3])))
  (cRet (cIf (cB (cOp2 fEq (cOp2 fIx (cVar 0) (cC (.int 0))) (cC (.str "tick")))) (cLstS (caStar (cVar 2) (caCons (cTup (caCons (cC (.str "tick")) caNil)) caNil))) (cVar 2))))
theorem bd_lines_of {P : Program} {wd : World} {K : PySem.W.Frag} {mg : Str → Option Value} {base : Heap} (g_AGAIN : ∃ t, mg "AGAIN" = some (.str "again" t)) (g_LINE : ∃ t, mg "LINE" = some (.str "line" t)) (g_TICK : ∃ t, mg "TICK" = some (.str "tick" t)) : ∀ (f : Addr) (cdv : Value) (A : Around) (outer : List Env) (s : Shared) (H : Hp) (w : Wd) (E : XK), Bd (bx P wd K mg base ["sign", "happenings", "found", "one"] "lines_of" s_lines_of f cdv A outer s H E) 0 E → CSs (bx P wd K mg base ["sign", "happenings", "found", "one"] "lines_of" s_lines_of f cdv A outer s H E) w E false (defBody s_lines_of) c_lines_of := by
  intro f cdv A outer s H w E B
  unfold c_lines_of
  exact (css_cons (cs_thenFrz 2 (cs_setComp (own := [("one", 3)]) sc_lines_of.nd (by rfl) (ci_any (ce_var 1)) (blkOk_by (by rfl)) (fun s H C cl fp => (cg_name 3 sc_lines_of.nd)) (fun s H C cl fp => (cts_one (ct_cmp (o_in (B.blk s H _ _ fp).hr (un65 (B.blk s H _ _ fp).hr)) (t2_in false) (ce_ix (o_ix (B.blk s H _ _ fp).hr) t2_ix (ce_var 3) ce_int) (ce_tup (ca_cons (ce_gstr g_LINE) (ca_cons (ce_gstr g_AGAIN) ca_nil)) (len_cons (len_cons len_nil)))))) (fun s H C cl fp => (ce_var 3))))
  (css_one (cs_ret (ce_if (ct_cmp (o_eq B.hr) t2_eq (ce_ix (o_ix B.hr) t2_ix (ce_var 0) ce_int) (ce_gstr g_TICK)) ((cf_lstS (ca_star (ce_var 2) (ca_cons (ce_tup (ca_cons (ce_gstr g_TICK) ca_nil) (len_cons len_nil)) ca_nil)))).ce (ce_var 2)))))
theorem ok_lines_of {P : Program} {wd : World} {K : PySem.W.Frag} {mg : Str → Option Value} {base : Heap} (A : FunAt K mg "lines_of" "lines_of" s_lines_of ["sign", "happenings"]) (g_AGAIN : ∃ t, mg "AGAIN" = some (.str "again" t)) (g_LINE : ∃ t, mg "LINE" = some (.str "line" t)) (g_TICK : ∃ t, mg "TICK" = some (.str "tick" t)) : CallT P wd K mg base 1 "lines_of" 2 (runB c_lines_of 4) :=
  fn_at (k := 0) (c := c_lines_of) A sc_lines_of (bd_lines_of g_AGAIN g_LINE g_TICK)
theorem okS_lines_of {P : Program} {wd : World} {K : PySem.W.Frag} {mg : Str → Option Value} {base : Heap} {n : Nat} {ks : List Str} {perm : List Nat} {dts : List T} (A : FunAtS K mg "lines_of" "lines_of" s_lines_of ["sign", "happenings"] n ks perm dts) (hp : perm.length = 2) (hl : ∀ i ∈ perm, i < n + ks.length + dts.length) (g_AGAIN : ∃ t, mg "AGAIN" = some (.str "again" t)) (g_LINE : ∃ t, mg "LINE" = some (.str "line" t)) (g_TICK : ∃ t, mg "TICK" = some (.str "tick" t)) : CallS P wd K mg base 1 "lines_of" n ks perm dts 2 (runB c_lines_of 4) :=
  fnS_at (k := 0) (c := c_lines_of) A sc_lines_of hp hl (bd_lines_of g_AGAIN g_LINE g_TICK)
abbrev s_log_by : Stmt := topS 38
theorem sc_log_by : FnScope ["rule", "course", "found", "sign", "step"] ["rule", "course"] (defScope s_log_by) := ⟨rfl, rfl, rfl, by decide +kernel, rfl, by decide +kernel, by decide +kernel⟩
@[irreducible] def c_log_by_b1 : SC := (cMut "list" 2 mExtend (caCons (cCall (runB c_lines_of 4) (caCons (cVar 3) (caCons (cOp2 fIx (cVar 4) (cC (.int 1))) caNil))) caNil))
@[irreducible] def c_log_by : SC := (cSeq (cSetO 2 (cLst caNil))
  (cSeq (cFor (fun r => (caCons (cVar 1) (caCons (cCall (runR c_walked 6) (caCons (cVar 0) (caCons (cVar 1) caNil))) caNil)) r >>= zipOf "PARTS" tab) (gcTup 2 (gcsCons (gcName 3) (gcsCons (gcName 4) gcsNil)))
  c_log_by_b1)
  (cRetO 2)))
theorem bd_log_by {P : Program} {wd : World} {K : PySem.W.Frag} {mg : Str → Option Value} {base : Heap} (C_walked : CallN P wd K mg base 6 "walked" 2 (runR c_walked 6)) (KT : KTb K mg wd "PARTS" tab) (m_zip : mg "zip" = none) (C_lines_of : CallT P wd K mg base 1 "lines_of" 2 (runB c_lines_of 4)) : ∀ (f : Addr) (cdv : Value) (A : Around) (outer : List Env) (s : Shared) (H : Hp) (w : Wd) (E : XK), Bd (bx P wd K mg base ["rule", "course", "found", "sign", "step"] "log_by" s_log_by f cdv A outer s H E) 6 E → CSs (bx P wd K mg base ["rule", "course", "found", "sign", "step"] "log_by" s_log_by f cdv A outer s H E) w E true (defBody s_log_by) c_log_by := by
  intro f cdv A outer s H w E B
  unfold c_log_by
  unfold c_log_by_b1
  exact (css_cons (cs_setO 2 sc_log_by.nd (cf_lst ca_nil len_nil))
  (css_cons (cs_for B.po (ci_zip KT (by rfl) m_zip (ca_cons (ce_var 1) (ca_cons ((cf_fn B C_walked (ca_cons (ce_var 0) (ca_cons (ce_var 1) ca_nil)) (len_cons (len_cons len_nil)))).ce ca_nil))) (cg_tup (cgs_cons (cg_name 3 sc_log_by.nd) (cgs_cons (cg_name 4 sc_log_by.nd) cgs_nil)))
  (css_one (cs_mut 2 F.plainAttrs_list F.slot_list_extend F.type_list_extend mt_extend mut_extend (ca_cons (ce_fn B C_lines_of (ca_cons (ce_var 3) (ca_cons (ce_ix (o_ix B.hr) t2_ix (ce_var 4) ce_int) ca_nil)) (len_cons (len_cons len_nil))) ca_nil))))
  (css_one (cs_retO 2))))
theorem ok_log_by {P : Program} {wd : World} {K : PySem.W.Frag} {mg : Str → Option Value} {base : Heap} (A : FunAt K mg "log_by" "log_by" s_log_by ["rule", "course"]) (C_walked : CallN P wd K mg base 6 "walked" 2 (runR c_walked 6)) (KT : KTb K mg wd "PARTS" tab) (m_zip : mg "zip" = none) (C_lines_of : CallT P wd K mg base 1 "lines_of" 2 (runB c_lines_of 4)) : CallN P wd K mg base 7 "log_by" 2 (runR c_log_by 5) :=
  fnN_at (k := 6) (c := c_log_by) A sc_log_by (bd_log_by C_walked KT m_zip C_lines_of)
abbrev s_log_of : Stmt := topS 39
theorem sc_log_of : FnScope ["rule", "course"] ["rule", "course"] (defScope s_log_of) := ⟨rfl, rfl, rfl, by decide +kernel, rfl, by decide +kernel, by decide +kernel⟩
@[irreducible] def c_log_of : SC := (cSeq (cDrop (cCall (fun ts => (runB c_need_rule 2) (pickL [0, 1] (ts ++ [.str "rule"]))) (caCons (cVar 0) caNil)))
  (cSeq (cDrop (cCall (runB c_need_course 3) (caCons (cVar 1) caNil)))
  (cRet (cCall (runR c_log_by 5) (caCons (cVar 0) (caCons (cVar 1) caNil))))))
theorem bd_log_of {P : Program} {wd : World} {K : PySem.W.Frag} {mg : Str → Option Value} {base : Heap} (S_need_rule_1_ : CallS P wd K mg base 1 "need_rule" 1 [] [0, 1] [.str "rule"] 2 (runB c_need_rule 2)) (C_need_course : CallT P wd K mg base 3 "need_course" 1 (runB c_need_course 3)) (C_log_by : CallN P wd K mg base 7 "log_by" 2 (runR c_log_by 5)) : ∀ (f : Addr) (cdv : Value) (A : Around) (outer : List Env) (s : Shared) (H : Hp) (w : Wd) (E : XK), Bd (bx P wd K mg base ["rule", "course"] "log_of" s_log_of f cdv A outer s H E) 7 E → CSs (bx P wd K mg base ["rule", "course"] "log_of" s_log_of f cdv A outer s H E) w E true (defBody s_log_of) c_log_of := by
  intro f cdv A outer s H w E B
  unfold c_log_of
  exact (css_cons (cs_expr (ce_fnD B S_need_rule_1_ (ca_cons (ce_var 0) ca_nil) (len_cons len_nil)))
  (css_cons (cs_expr (ce_fn B C_need_course (ca_cons (ce_var 1) ca_nil) (len_cons len_nil)))
  (css_one (cs_retF (cf_fn B C_log_by (ca_cons (ce_var 0) (ca_cons (ce_var 1) ca_nil)) (len_cons (len_cons len_nil)))))))
theorem ok_log_of {P : Program} {wd : World} {K : PySem.W.Frag} {mg : Str → Option Value} {base : Heap} (A : FunAt K mg "log_of" "log_of" s_log_of ["rule", "course"]) (S_need_rule_1_ : CallS P wd K mg base 1 "need_rule" 1 [] [0, 1] [.str "rule"] 2 (runB c_need_rule 2)) (C_need_course : CallT P wd K mg base 3 "need_course" 1 (runB c_need_course 3)) (C_log_by : CallN P wd K mg base 7 "log_by" 2 (runR c_log_by 5)) : CallN P wd K mg base 8 "log_of" 2 (runR c_log_of 2) :=
  fnN_at (k := 7) (c := c_log_of) A sc_log_of (bd_log_of S_need_rule_1_ C_need_course C_log_by)
abbrev s_tally : Stmt := topS 40
theorem sc_tally : FnScope ["rule", "course", "found", "steps", "memory", "happenings", "one", "place", "key", "age", "count", "left", "sign"] ["rule", "course"] (defScope s_tally) := ⟨rfl, rfl, rfl, by decide +kernel, rfl, by decide +kernel, by decide +kernel⟩
@[irreducible] def c_tally_b1 : SC := (cIfS (cB (cOp2 fEq (cOp2 fIx (cVar 12) (cC (.int 0))) (cC (.str "say")))) (cDpAug 2 (cOp2 fIx (cVar 12) (cC (.int 1))) (cC (.int 0)) (fun i j => i + j) (cC (.int 1)))
  (fun r => .ret (.nx r)))
@[irreducible] def c_tally_b2 : SC := (cIfS (cB (cOp2 fNe (cOp2 fIx (cVar 6) (cC (.int 0))) (cC (.str "left")))) (cSeq (cSet 7 (cOp2 fIx (cDisp (((cC (.str "line")), (cC (.int 1))) :: (((cC (.str "again")), (cC (.int 2))) :: (((cC (.str "lost")), (cC (.int 3))) :: [])))) (cOp2 fIx (cVar 6) (cC (.int 0)))))
  (cDpAug 2 (cOp2 fIx (cVar 6) (cC (.int 1))) (cVar 7) (fun i j => i + j) (cIf (cB (cOp2 fEq (cOp2 fIx (cVar 6) (cC (.int 0))) (cC (.str "line")))) (cC (.int 1)) (cOp2 fIx (cVar 6) (cC (.int 2))))))
  (fun r => .ret (.nx r)))
@[irreducible] def c_tally_b3 : SC := (cFor (fun r => (cVar 5) r >>= anyOf) (gcName 6)
  c_tally_b2)
@[irreducible] def c_tally_b4 : SC := (cDpPut 2 (cVar 8) (cC (.int 4)) (cVar 11))
@[irreducible] def c_tally : SC := (cSeq (cDrop (cCall (fun ts => (runB c_need_rule 2) (pickL [0, 1] (ts ++ [.str "rule"]))) (caCons (cVar 0) caNil)))
  (cSeq (cDrop (cCall (runB c_need_course 3) (caCons (cVar 1) caNil)))
  (cSeq (cSetD 2 (cDCompD (fun r => (cVar 1) r >>= anyOf) (gcName 12) (cB (cOp2 fEq (cOp2 fIx (cVar 12) (cC (.int 0))) (cC (.str "say")))) (cOp2 fIx (cVar 12) (cC (.int 1))) (cLst (caCons (cC (.int 0)) (caCons (cC (.int 0)) (caCons (cC (.int 0)) (caCons (cC (.int 0)) (caCons (cC (.int 0)) caNil)))))) [12]))
  (cSeq (cSet 3 (cCall (runR c_walked 6) (caCons (cVar 0) (caCons (cVar 1) caNil))))
  (cSeq (cFor (fun r => (cVar 1) r >>= anyOf) (gcName 12)
  c_tally_b1)
  (cSeq (cFor (fun r => (cVar 3) r >>= anyOf) (gcTup 2 (gcsCons (gcName 4) (gcsCons (gcName 5) gcsNil)))
  c_tally_b3)
  (cSeq (cFor (fun r => (cIf (cB (cOp2 fNe (cVar 3) (cLst caNil))) (cOp2 fIx (cOp2 fIx (cVar 3) (cOp1 (fI1 fun i => .int (-i)) (cC (.int 1)))) (cC (.int 0))) (cTup caNil)) r >>= anyOf) (gcTup 4 (gcsCons (gcName 8) (gcsCons (gcName 9) (gcsCons (gcName 10) (gcsCons (gcName 11) gcsNil)))))
  c_tally_b4)
  (cFrz 2 (cRet (cDComp (fun r => (cCall fSorted (caCons (cVar 2) caNil)) r >>= anyOf) (gcName 8) (fun _ => .ret true) (cVar 8) (cCall fTuple (caCons (cOp2 fIx (cVar 2) (cVar 8)) caNil)) [8]))))))))))
theorem bd_tally {P : Program} {wd : World} {K : PySem.W.Frag} {mg : Str → Option Value} {base : Heap} (S_need_rule_1_ : CallS P wd K mg base 1 "need_rule" 1 [] [0, 1] [.str "rule"] 2 (runB c_need_rule 2)) (C_need_course : CallT P wd K mg base 3 "need_course" 1 (runB c_need_course 3)) (g_SAY : ∃ t, mg "SAY" = some (.str "say" t)) (C_walked : CallN P wd K mg base 6 "walked" 2 (runR c_walked 6)) (g_LEFT : ∃ t, mg "LEFT" = some (.str "left" t)) (g_LOST : ∃ t, mg "LOST" = some (.str "lost" t)) (g_AGAIN : ∃ t, mg "AGAIN" = some (.str "again" t)) (g_LINE : ∃ t, mg "LINE" = some (.str "line" t)) (m_sorted : mg "sorted" = none) (m_tuple : mg "tuple" = none) : ∀ (f : Addr) (cdv : Value) (A : Around) (outer : List Env) (s : Shared) (H : Hp) (w : Wd) (E : XK), Bd (bx P wd K mg base ["rule", "course", "found", "steps", "memory", "happenings", "one", "place", "key", "age", "count", "left", "sign"] "tally" s_tally f cdv A outer s H E) 6 E → CSs (bx P wd K mg base ["rule", "course", "found", "steps", "memory", "happenings", "one", "place", "key", "age", "count", "left", "sign"] "tally" s_tally f cdv A outer s H E) w E false (defBody s_tally) c_tally := by
  intro f cdv A outer s H w E B
  unfold c_tally
  unfold c_tally_b4
  unfold c_tally_b3
  unfold c_tally_b2
  unfold c_tally_b1
  exact (css_cons (cs_expr (ce_fnD B S_need_rule_1_ (ca_cons (ce_var 0) ca_nil) (len_cons len_nil)))
  (css_cons (cs_expr (ce_fn B C_need_course (ca_cons (ce_var 1) ca_nil) (len_cons len_nil)))
  (css_cons (cs_setD 2 sc_tally.nd (cd_dcomp (own := [("sign", 12)]) sc_tally.nd (ci_any (ce_var 1)) (blkOk_by (by rfl)) (fun s H C cl fp => (cg_name 12 sc_tally.nd)) (fun s H C cl fp => (cts_one (ct_cmp (o_eq (B.blk s H _ _ fp).hr) t2_eq (ce_ix (o_ix (B.blk s H _ _ fp).hr) t2_ix (ce_var 12) ce_int) (ce_gstr g_SAY)))) (fun s H C cl fp => (ce_ix (o_ix (B.blk s H _ _ fp).hr) t2_ix (ce_var 12) ce_int)) (fun s H C cl fp => (cf_lst (ca_cons ce_int (ca_cons ce_int (ca_cons ce_int (ca_cons ce_int (ca_cons ce_int ca_nil))))) (len_cons (len_cons (len_cons (len_cons (len_cons len_nil)))))))))
  (css_cons (cs_set 3 sc_tally.nd ((cf_fn B C_walked (ca_cons (ce_var 0) (ca_cons (ce_var 1) ca_nil)) (len_cons (len_cons len_nil)))).ce)
  (css_cons (cs_for B.po (ci_any (ce_var 1)) (cg_name 12 sc_tally.nd)
  (css_one (cs_if (ct_cmp (o_eq B.hr) t2_eq (ce_ix (o_ix B.hr) t2_ix (ce_var 12) ce_int) (ce_gstr g_SAY)) (css_one (cs_dpAug 2 (hu_of B.hr) (ce_ix (o_ix B.hr) t2_ix (ce_var 12) ce_int) ce_int ip_add ce_int))
  css_nil)))
  (css_cons (cs_for B.po (ci_any (ce_var 3)) (cg_tup (cgs_cons (cg_name 4 sc_tally.nd) (cgs_cons (cg_name 5 sc_tally.nd) cgs_nil)))
  (css_one (cs_for B.po (ci_any (ce_var 5)) (cg_name 6 sc_tally.nd)
  (css_one (cs_if (ct_cmp (o_ne B.hr) t2_ne (ce_ix (o_ix B.hr) t2_ix (ce_var 6) ce_int) (ce_gstr g_LEFT)) (css_cons (cs_set 7 sc_tally.nd (ce_ix (o_ix B.hr) t2_ix ((cf_disp (cps_cons (ce_gstr g_LINE) ce_int (cps_cons (ce_gstr g_AGAIN) ce_int (cps_cons (ce_gstr g_LOST) ce_int cps_nil))))).ce (ce_ix (o_ix B.hr) t2_ix (ce_var 6) ce_int)))
  (css_one (cs_dpAug 2 (hu_of B.hr) (ce_ix (o_ix B.hr) t2_ix (ce_var 6) ce_int) (ce_var 7) ip_add (ce_if (ct_cmp (o_eq B.hr) t2_eq (ce_ix (o_ix B.hr) t2_ix (ce_var 6) ce_int) (ce_gstr g_LINE)) ce_int (ce_ix (o_ix B.hr) t2_ix (ce_var 6) ce_int)))))
  css_nil)))))
  (css_cons (cs_for B.po (ci_any (ce_if (ct_cmp (o_ne B.hr) t2_ne (ce_var 3) ((cf_lst ca_nil len_nil)).ce) (ce_ix (o_ix B.hr) t2_ix (ce_ix (o_ix B.hr) t2_ix (ce_var 3) (ce_un un_neg (t1_int fun _ _ => .int _) ce_int)) ce_int) (ce_tup ca_nil len_nil))) (cg_tup (cgs_cons (cg_name 8 sc_tally.nd) (cgs_cons (cg_name 9 sc_tally.nd) (cgs_cons (cg_name 10 sc_tally.nd) (cgs_cons (cg_name 11 sc_tally.nd) cgs_nil)))))
  (css_one (cs_dpPut 2 (hu_of B.hr) (ce_var 8) ce_int (ce_var 11))))
  (css_one (CS.frz 2 (cs_ret ((cf_dcomp (own := [("key", 8)]) sc_tally.nd (ci_any ((cf_callB (cr_sortA rfl) tn_sorted (by rfl) m_sorted (by rfl) (ca_cons (ce_var 2) ca_nil))).ce) (blkOk_by (by rfl)) (fun s H C cl fp => (cg_name 8 sc_tally.nd)) (fun s H C cl fp => cts_nil) (fun s H C cl fp => (ce_var 8)) (fun s H C cl fp => (ce_callTy o_tuple tn_tuple (by rfl) m_tuple (by rfl) (ca_cons (ce_ix (o_ix (B.blk s H _ _ fp).hr) t2_ix (ce_var 2) (ce_var 8)) ca_nil))))).ce))))))))))
theorem ok_tally {P : Program} {wd : World} {K : PySem.W.Frag} {mg : Str → Option Value} {base : Heap} (A : FunAt K mg "tally" "tally" s_tally ["rule", "course"]) (S_need_rule_1_ : CallS P wd K mg base 1 "need_rule" 1 [] [0, 1] [.str "rule"] 2 (runB c_need_rule 2)) (C_need_course : CallT P wd K mg base 3 "need_course" 1 (runB c_need_course 3)) (g_SAY : ∃ t, mg "SAY" = some (.str "say" t)) (C_walked : CallN P wd K mg base 6 "walked" 2 (runR c_walked 6)) (g_LEFT : ∃ t, mg "LEFT" = some (.str "left" t)) (g_LOST : ∃ t, mg "LOST" = some (.str "lost" t)) (g_AGAIN : ∃ t, mg "AGAIN" = some (.str "again" t)) (g_LINE : ∃ t, mg "LINE" = some (.str "line" t)) (m_sorted : mg "sorted" = none) (m_tuple : mg "tuple" = none) : CallT P wd K mg base 7 "tally" 2 (runB c_tally 13) :=
  fn_at (k := 6) (c := c_tally) A sc_tally (bd_tally S_need_rule_1_ C_need_course g_SAY C_walked g_LEFT g_LOST g_AGAIN g_LINE m_sorted m_tuple)
theorem okS_tally {P : Program} {wd : World} {K : PySem.W.Frag} {mg : Str → Option Value} {base : Heap} {n : Nat} {ks : List Str} {perm : List Nat} {dts : List T} (A : FunAtS K mg "tally" "tally" s_tally ["rule", "course"] n ks perm dts) (hp : perm.length = 2) (hl : ∀ i ∈ perm, i < n + ks.length + dts.length) (S_need_rule_1_ : CallS P wd K mg base 1 "need_rule" 1 [] [0, 1] [.str "rule"] 2 (runB c_need_rule 2)) (C_need_course : CallT P wd K mg base 3 "need_course" 1 (runB c_need_course 3)) (g_SAY : ∃ t, mg "SAY" = some (.str "say" t)) (C_walked : CallN P wd K mg base 6 "walked" 2 (runR c_walked 6)) (g_LEFT : ∃ t, mg "LEFT" = some (.str "left" t)) (g_LOST : ∃ t, mg "LOST" = some (.str "lost" t)) (g_AGAIN : ∃ t, mg "AGAIN" = some (.str "again" t)) (g_LINE : ∃ t, mg "LINE" = some (.str "line" t)) (m_sorted : mg "sorted" = none) (m_tuple : mg "tuple" = none) : CallS P wd K mg base 7 "tally" n ks perm dts 2 (runB c_tally 13) :=
  fnS_at (k := 6) (c := c_tally) A sc_tally hp hl (bd_tally S_need_rule_1_ C_need_course g_SAY C_walked g_LEFT g_LOST g_AGAIN g_LINE m_sorted m_tuple)
abbrev s__law_end_right : Stmt := topS 49
theorem sc__law_end_right : FnScope ["_law_name", "_law_window", "_law_renew", "_law_ahead", "_law_atend", "_law_more", "_law_made", "_law_signs", "_law_due", "_law_lost_here"] ["_law_name", "_law_window", "_law_renew", "_law_ahead", "_law_atend", "_law_more"] (defScope s__law_end_right) := ⟨rfl, rfl, rfl, by decide +kernel, rfl, by decide +kernel, by decide +kernel⟩
@[irreducible] def c__law_end_right : SC := (cSeq (cSet 6 (cCall (runR c__law_rule 3) (caCons (cCall (runR c__law_ten 2) (caCons (cDisp (((cC (.str "window")), (cVar 1)) :: (((cC (.str "renew")), (cVar 2)) :: (((cC (.str "ahead")), (cVar 3)) :: (((cC (.str "atend")), (cVar 4)) :: []))))) caNil)) caNil)))
  (cSeq (cSet 7 (cOp2 fAdd (cOp2 fAdd (cOp2 fRep (cLst (caCons (cTup (caCons (cC (.str "say")) (caCons (cVar 0) caNil))) caNil)) (cOp2 fAdd (cC (.int 1)) (cVar 5))) (cOp2 fRep (cLst (caCons (cTup (caCons (cC (.str "tick")) caNil)) caNil)) (cVar 1))) (cLst (caCons (cTup (caCons (cC (.str "say")) (caCons (cVar 0) caNil))) caNil))))
  (cSeq (cSet 8 (cOp2 fAdd (cOp2 fAdd (cLst (caCons (cTup (caCons (cC (.str "line")) (caCons (cVar 0) caNil))) caNil)) (cOp2 fRep (cLst (caCons (cTup (caCons (cC (.str "tick")) caNil)) caNil)) (cOp2 fSubI (cVar 1) (cC (.int 1))))) (cOp2 fRep (cLst (caCons (cTup (caCons (cC (.str "again")) (caCons (cVar 0) (caCons (cVar 5) caNil)))) caNil)) (cCall fInt (caCons (cAndV (cVar 4) (cOp2 (fII fun i j => .bl (decide (j < i))) (cVar 5) (cC (.int 0)))) caNil)))))
  (cSeq (cSet 8 (cOp2 fAdd (cOp2 fAdd (cOp2 fAdd (cVar 8) (cLst (caCons (cTup (caCons (cC (.str "tick")) caNil)) caNil))) (cOp2 fRep (cLst (caCons (cTup (caCons (cC (.str "again")) (caCons (cVar 0) (caCons (cVar 5) caNil)))) caNil)) (cCall fInt (caCons (cAndV (cVar 3) (cAndV (cNotV (cVar 4)) (cOp2 (fII fun i j => .bl (decide (j < i))) (cVar 5) (cC (.int 0))))) caNil)))) (cLst (caCons (cTup (caCons (cC (.str "line")) (caCons (cVar 0) caNil))) caNil))))
  (cSeq (cSet 9 (cIf (cAndT (cNotT (cB (cVar 3))) (cNotT (cB (cVar 4)))) (cVar 5) (cC (.int 0))))
  (cSeq (cIfS (cB (cOp2 fNe (cCall (runR c_log_of 2) (caCons (cVar 6) (caCons (cVar 7) caNil))) (cVar 8))) (cRet (cC (.bl false)))
  (fun r => .ret (.nx r)))
  (cRet (cOp2 fEqA (cCall (runB c_tally 13) (caCons (cVar 6) (caCons (cVar 7) caNil))) (cDisp (((cVar 0), (cTup (caCons (cOp2 fAdd (cC (.int 2)) (cVar 5)) (caCons (cC (.int 2)) (caCons (cOp2 fSubI (cVar 5) (cVar 9)) (caCons (cVar 9) (caCons (cC (.int 0)) caNil))))))) :: []))))))))))
theorem bd__law_end_right {P : Program} {wd : World} {K : PySem.W.Frag} {mg : Str → Option Value} {base : Heap} (C__law_rule : CallN P wd K mg base 4 "_law_rule" 1 (runR c__law_rule 3)) (C__law_ten : CallN P wd K mg base 1 "_law_ten" 1 (runR c__law_ten 2)) (m_int : mg "int" = none) (C_log_of : CallN P wd K mg base 8 "log_of" 2 (runR c_log_of 2)) (C_tally : CallT P wd K mg base 7 "tally" 2 (runB c_tally 13)) : ∀ (f : Addr) (cdv : Value) (A : Around) (outer : List Env) (s : Shared) (H : Hp) (w : Wd) (E : XK), Bd (bx P wd K mg base ["_law_name", "_law_window", "_law_renew", "_law_ahead", "_law_atend", "_law_more", "_law_made", "_law_signs", "_law_due", "_law_lost_here"] "_law_end_right" s__law_end_right f cdv A outer s H E) 8 E → CSs (bx P wd K mg base ["_law_name", "_law_window", "_law_renew", "_law_ahead", "_law_atend", "_law_more", "_law_made", "_law_signs", "_law_due", "_law_lost_here"] "_law_end_right" s__law_end_right f cdv A outer s H E) w E false (defBody s__law_end_right) c__law_end_right := by
  intro f cdv A outer s H w E B
  unfold c__law_end_right
  exact (css_cons (cs_set 6 sc__law_end_right.nd ((cf_fn B C__law_rule (ca_cons ((cf_fn B C__law_ten (ca_cons ((cf_disp (cps_cons ce_str (ce_var 1) (cps_cons ce_str (ce_var 2) (cps_cons ce_str (ce_var 3) (cps_cons ce_str (ce_var 4) cps_nil)))))).ce ca_nil) (len_cons len_nil))).ce ca_nil) (len_cons len_nil))).ce)
  (css_cons (cs_set 7 sc__law_end_right.nd (ce_op o_add t2_add (ce_op o_add t2_add ((cf_op op_rep t2_rep ((cf_lst (ca_cons (ce_tup (ca_cons ce_str (ca_cons (ce_var 0) ca_nil)) (len_cons (len_cons len_nil))) ca_nil) (len_cons len_nil))).ce (ce_op o_add t2_add ce_int (ce_var 5)))).ce ((cf_op op_rep t2_rep ((cf_lst (ca_cons (ce_tup (ca_cons ce_str ca_nil) (len_cons len_nil)) ca_nil) (len_cons len_nil))).ce (ce_var 1))).ce) ((cf_lst (ca_cons (ce_tup (ca_cons ce_str (ca_cons (ce_var 0) ca_nil)) (len_cons (len_cons len_nil))) ca_nil) (len_cons len_nil))).ce))
  (css_cons (cs_set 8 sc__law_end_right.nd (ce_op o_add t2_add (ce_op o_add t2_add ((cf_lst (ca_cons (ce_tup (ca_cons ce_str (ca_cons (ce_var 0) ca_nil)) (len_cons (len_cons len_nil))) ca_nil) (len_cons len_nil))).ce ((cf_op op_rep t2_rep ((cf_lst (ca_cons (ce_tup (ca_cons ce_str ca_nil) (len_cons len_nil)) ca_nil) (len_cons len_nil))).ce (ce_op op_sub (t2_int fun _ _ _ => .int _) (ce_var 1) ce_int))).ce) ((cf_op op_rep t2_rep ((cf_lst (ca_cons (ce_tup (ca_cons ce_str (ca_cons (ce_var 0) (ca_cons (ce_var 5) ca_nil))) (len_cons (len_cons (len_cons len_nil)))) ca_nil) (len_cons len_nil))).ce (ce_callTy call_int1 tn_int (by rfl) m_int (by rfl) (ca_cons (ce_and (ce_var 4) (ce_one (ce_cmp op_gt (t2_int fun _ _ _ => .bl _) (ce_var 5) ce_int))) ca_nil)))).ce))
  (css_cons (cs_set 8 sc__law_end_right.nd (ce_op o_add t2_add (ce_op o_add t2_add (ce_op o_add t2_add (ce_var 8) ((cf_lst (ca_cons (ce_tup (ca_cons ce_str ca_nil) (len_cons len_nil)) ca_nil) (len_cons len_nil))).ce) ((cf_op op_rep t2_rep ((cf_lst (ca_cons (ce_tup (ca_cons ce_str (ca_cons (ce_var 0) (ca_cons (ce_var 5) ca_nil))) (len_cons (len_cons (len_cons len_nil)))) ca_nil) (len_cons len_nil))).ce (ce_callTy call_int1 tn_int (by rfl) m_int (by rfl) (ca_cons (ce_and (ce_var 3) (ce_and (ce_not (ce_var 4)) (ce_one (ce_cmp op_gt (t2_int fun _ _ _ => .bl _) (ce_var 5) ce_int)))) ca_nil)))).ce) ((cf_lst (ca_cons (ce_tup (ca_cons ce_str (ca_cons (ce_var 0) ca_nil)) (len_cons (len_cons len_nil))) ca_nil) (len_cons len_nil))).ce))
  (css_cons (cs_set 9 sc__law_end_right.nd (ce_if ((cw_and (ct_not (ct_val (ce_var 3))) (cw_and1 (ct_not (ct_val (ce_var 4)))))).ct (ce_var 5) ce_int))
  (css_cons (cs_if (ct_cmp (o_ne B.hr) t2_ne ((cf_fn B C_log_of (ca_cons (ce_var 6) (ca_cons (ce_var 7) ca_nil)) (len_cons (len_cons len_nil)))).ce (ce_var 8)) (css_one (cs_ret ce_bl))
  css_nil)
  (css_one (cs_ret (ce_cmp (o_eqA B.hr) t2_eqA (ce_fn B C_tally (ca_cons (ce_var 6) (ca_cons (ce_var 7) ca_nil)) (len_cons (len_cons len_nil))) ((cf_disp (cps_cons (ce_var 0) (ce_tup (ca_cons (ce_op o_add t2_add ce_int (ce_var 5)) (ca_cons ce_int (ca_cons (ce_op op_sub (t2_int fun _ _ _ => .int _) (ce_var 5) (ce_var 9)) (ca_cons (ce_var 9) (ca_cons ce_int ca_nil))))) (len_cons (len_cons (len_cons (len_cons (len_cons len_nil)))))) cps_nil))).ce)))))))))
theorem ok__law_end_right {P : Program} {wd : World} {K : PySem.W.Frag} {mg : Str → Option Value} {base : Heap} (A : FunAt K mg "_law_end_right" "_law_end_right" s__law_end_right ["_law_name", "_law_window", "_law_renew", "_law_ahead", "_law_atend", "_law_more"]) (C__law_rule : CallN P wd K mg base 4 "_law_rule" 1 (runR c__law_rule 3)) (C__law_ten : CallN P wd K mg base 1 "_law_ten" 1 (runR c__law_ten 2)) (m_int : mg "int" = none) (C_log_of : CallN P wd K mg base 8 "log_of" 2 (runR c_log_of 2)) (C_tally : CallT P wd K mg base 7 "tally" 2 (runB c_tally 13)) : CallT P wd K mg base 9 "_law_end_right" 6 (runB c__law_end_right 10) :=
  fn_at (k := 8) (c := c__law_end_right) A sc__law_end_right (bd__law_end_right C__law_rule C__law_ten m_int C_log_of C_tally)
theorem okS__law_end_right {P : Program} {wd : World} {K : PySem.W.Frag} {mg : Str → Option Value} {base : Heap} {n : Nat} {ks : List Str} {perm : List Nat} {dts : List T} (A : FunAtS K mg "_law_end_right" "_law_end_right" s__law_end_right ["_law_name", "_law_window", "_law_renew", "_law_ahead", "_law_atend", "_law_more"] n ks perm dts) (hp : perm.length = 6) (hl : ∀ i ∈ perm, i < n + ks.length + dts.length) (C__law_rule : CallN P wd K mg base 4 "_law_rule" 1 (runR c__law_rule 3)) (C__law_ten : CallN P wd K mg base 1 "_law_ten" 1 (runR c__law_ten 2)) (m_int : mg "int" = none) (C_log_of : CallN P wd K mg base 8 "log_of" 2 (runR c_log_of 2)) (C_tally : CallT P wd K mg base 7 "tally" 2 (runB c_tally 13)) : CallS P wd K mg base 9 "_law_end_right" n ks perm dts 6 (runB c__law_end_right 10) :=
  fnS_at (k := 8) (c := c__law_end_right) A sc__law_end_right hp hl (bd__law_end_right C__law_rule C__law_ten m_int C_log_of C_tally)
abbrev s__law_renew_right : Stmt := topS 50
theorem sc__law_renew_right : FnScope ["_law_name", "_law_window", "_law_renew", "_law_made", "_law_signs", "_law_due"] ["_law_name", "_law_window", "_law_renew"] (defScope s__law_renew_right) := ⟨rfl, rfl, rfl, by decide +kernel, rfl, by decide +kernel, by decide +kernel⟩
@[irreducible] def c__law_renew_right : SC := (cSeq (cSet 3 (cCall (runR c__law_rule 3) (caCons (cCall (runR c__law_ten 2) (caCons (cDisp (((cC (.str "window")), (cVar 1)) :: (((cC (.str "renew")), (cVar 2)) :: (((cC (.str "atend")), (cC (.bl true))) :: [])))) caNil)) caNil)))
  (cSeq (cSet 4 (cOp2 fAdd (cOp2 fAdd (cLst (caCons (cTup (caCons (cC (.str "say")) (caCons (cVar 0) caNil))) caNil)) (cOp2 fRep (cLst (caCons (cTup (caCons (cC (.str "tick")) caNil)) caNil)) (cOp2 fSubI (cVar 1) (cC (.int 1))))) (cLst (caCons (cTup (caCons (cC (.str "say")) (caCons (cVar 0) caNil))) (caCons (cTup (caCons (cC (.str "tick")) caNil)) (caCons (cTup (caCons (cC (.str "say")) (caCons (cVar 0) caNil))) caNil))))))
  (cSeq (cSet 5 (cOp2 fAdd (cLst (caCons (cTup (caCons (cC (.str "line")) (caCons (cVar 0) caNil))) caNil)) (cOp2 fRep (cLst (caCons (cTup (caCons (cC (.str "tick")) caNil)) caNil)) (cVar 1))))
  (cSeq (cIfS (cNotT (cB (cVar 2))) (cSet 5 (cOp2 fAdd (cSl (cVar 5) coNone (coSome (cOp1 (fI1 fun i => .int (-i)) (cC (.int 1))))) (cLst (caCons (cTup (caCons (cC (.str "again")) (caCons (cVar 0) (caCons (cC (.int 1)) caNil)))) (caCons (cTup (caCons (cC (.str "tick")) caNil)) (caCons (cTup (caCons (cC (.str "line")) (caCons (cVar 0) caNil))) caNil))))))
  (fun r => .ret (.nx r)))
  (cRet (cOp2 fEq (cCall (runR c_log_of 2) (caCons (cVar 3) (caCons (cVar 4) caNil))) (cVar 5)))))))
theorem bd__law_renew_right {P : Program} {wd : World} {K : PySem.W.Frag} {mg : Str → Option Value} {base : Heap} (C__law_rule : CallN P wd K mg base 4 "_law_rule" 1 (runR c__law_rule 3)) (C__law_ten : CallN P wd K mg base 1 "_law_ten" 1 (runR c__law_ten 2)) (C_log_of : CallN P wd K mg base 8 "log_of" 2 (runR c_log_of 2)) : ∀ (f : Addr) (cdv : Value) (A : Around) (outer : List Env) (s : Shared) (H : Hp) (w : Wd) (E : XK), Bd (bx P wd K mg base ["_law_name", "_law_window", "_law_renew", "_law_made", "_law_signs", "_law_due"] "_law_renew_right" s__law_renew_right f cdv A outer s H E) 8 E → CSs (bx P wd K mg base ["_law_name", "_law_window", "_law_renew", "_law_made", "_law_signs", "_law_due"] "_law_renew_right" s__law_renew_right f cdv A outer s H E) w E false (defBody s__law_renew_right) c__law_renew_right := by
  intro f cdv A outer s H w E B
  unfold c__law_renew_right
  exact (css_cons (cs_set 3 sc__law_renew_right.nd ((cf_fn B C__law_rule (ca_cons ((cf_fn B C__law_ten (ca_cons ((cf_disp (cps_cons ce_str (ce_var 1) (cps_cons ce_str (ce_var 2) (cps_cons ce_str ce_bl cps_nil))))).ce ca_nil) (len_cons len_nil))).ce ca_nil) (len_cons len_nil))).ce)
  (css_cons (cs_set 4 sc__law_renew_right.nd (ce_op o_add t2_add (ce_op o_add t2_add ((cf_lst (ca_cons (ce_tup (ca_cons ce_str (ca_cons (ce_var 0) ca_nil)) (len_cons (len_cons len_nil))) ca_nil) (len_cons len_nil))).ce ((cf_op op_rep t2_rep ((cf_lst (ca_cons (ce_tup (ca_cons ce_str ca_nil) (len_cons len_nil)) ca_nil) (len_cons len_nil))).ce (ce_op op_sub (t2_int fun _ _ _ => .int _) (ce_var 1) ce_int))).ce) ((cf_lst (ca_cons (ce_tup (ca_cons ce_str (ca_cons (ce_var 0) ca_nil)) (len_cons (len_cons len_nil))) (ca_cons (ce_tup (ca_cons ce_str ca_nil) (len_cons len_nil)) (ca_cons (ce_tup (ca_cons ce_str (ca_cons (ce_var 0) ca_nil)) (len_cons (len_cons len_nil))) ca_nil))) (len_cons (len_cons (len_cons len_nil))))).ce))
  (css_cons (cs_set 5 sc__law_renew_right.nd (ce_op o_add t2_add ((cf_lst (ca_cons (ce_tup (ca_cons ce_str (ca_cons (ce_var 0) ca_nil)) (len_cons (len_cons len_nil))) ca_nil) (len_cons len_nil))).ce ((cf_op op_rep t2_rep ((cf_lst (ca_cons (ce_tup (ca_cons ce_str ca_nil) (len_cons len_nil)) ca_nil) (len_cons len_nil))).ce (ce_var 1))).ce))
  (css_cons (cs_if (ct_not (ct_val (ce_var 2))) (css_one (cs_set 5 sc__law_renew_right.nd (ce_op o_add t2_add (ce_sl (ce_var 5) co_none (co_some (ce_un un_neg (t1_int fun _ _ => .int _) ce_int))) ((cf_lst (ca_cons (ce_tup (ca_cons ce_str (ca_cons (ce_var 0) (ca_cons ce_int ca_nil))) (len_cons (len_cons (len_cons len_nil)))) (ca_cons (ce_tup (ca_cons ce_str ca_nil) (len_cons len_nil)) (ca_cons (ce_tup (ca_cons ce_str (ca_cons (ce_var 0) ca_nil)) (len_cons (len_cons len_nil))) ca_nil))) (len_cons (len_cons (len_cons len_nil))))).ce)))
  css_nil)
  (css_one (cs_ret (ce_cmp (o_eq B.hr) t2_eq ((cf_fn B C_log_of (ca_cons (ce_var 3) (ca_cons (ce_var 4) ca_nil)) (len_cons (len_cons len_nil)))).ce (ce_var 5))))))))
theorem ok__law_renew_right {P : Program} {wd : World} {K : PySem.W.Frag} {mg : Str → Option Value} {base : Heap} (A : FunAt K mg "_law_renew_right" "_law_renew_right" s__law_renew_right ["_law_name", "_law_window", "_law_renew"]) (C__law_rule : CallN P wd K mg base 4 "_law_rule" 1 (runR c__law_rule 3)) (C__law_ten : CallN P wd K mg base 1 "_law_ten" 1 (runR c__law_ten 2)) (C_log_of : CallN P wd K mg base 8 "log_of" 2 (runR c_log_of 2)) : CallT P wd K mg base 9 "_law_renew_right" 3 (runB c__law_renew_right 6) :=
  fn_at (k := 8) (c := c__law_renew_right) A sc__law_renew_right (bd__law_renew_right C__law_rule C__law_ten C_log_of)
theorem okS__law_renew_right {P : Program} {wd : World} {K : PySem.W.Frag} {mg : Str → Option Value} {base : Heap} {n : Nat} {ks : List Str} {perm : List Nat} {dts : List T} (A : FunAtS K mg "_law_renew_right" "_law_renew_right" s__law_renew_right ["_law_name", "_law_window", "_law_renew"] n ks perm dts) (hp : perm.length = 3) (hl : ∀ i ∈ perm, i < n + ks.length + dts.length) (C__law_rule : CallN P wd K mg base 4 "_law_rule" 1 (runR c__law_rule 3)) (C__law_ten : CallN P wd K mg base 1 "_law_ten" 1 (runR c__law_ten 2)) (C_log_of : CallN P wd K mg base 8 "log_of" 2 (runR c_log_of 2)) : CallS P wd K mg base 9 "_law_renew_right" n ks perm dts 3 (runB c__law_renew_right 6) :=
  fnS_at (k := 8) (c := c__law_renew_right) A sc__law_renew_right hp hl (bd__law_renew_right C__law_rule C__law_ten C_log_of)
abbrev s_memory_behind : Stmt := topS 36
theorem sc_memory_behind : FnScope ["rule", "course", "steps"] ["rule", "course"] (defScope s_memory_behind) := ⟨rfl, rfl, rfl, by decide +kernel, rfl, by decide +kernel, by decide +kernel⟩
@[irreducible] def c_memory_behind : SC := (cSeq (cDrop (cCall (fun ts => (runB c_need_rule 2) (pickL [0, 1] (ts ++ [.str "rule"]))) (caCons (cVar 0) caNil)))
  (cSeq (cDrop (cCall (runB c_need_course 3) (caCons (cVar 1) caNil)))
  (cSeq (cSet 2 (cCall (runR c_walked 6) (caCons (cVar 0) (caCons (cVar 1) caNil))))
  (cRet (cIf (cB (cOp2 fNe (cVar 2) (cLst caNil))) (cOp2 fIx (cOp2 fIx (cVar 2) (cOp1 (fI1 fun i => .int (-i)) (cC (.int 1)))) (cC (.int 0))) (cTup caNil))))))
theorem bd_memory_behind {P : Program} {wd : World} {K : PySem.W.Frag} {mg : Str → Option Value} {base : Heap} (S_need_rule_1_ : CallS P wd K mg base 1 "need_rule" 1 [] [0, 1] [.str "rule"] 2 (runB c_need_rule 2)) (C_need_course : CallT P wd K mg base 3 "need_course" 1 (runB c_need_course 3)) (C_walked : CallN P wd K mg base 6 "walked" 2 (runR c_walked 6)) : ∀ (f : Addr) (cdv : Value) (A : Around) (outer : List Env) (s : Shared) (H : Hp) (w : Wd) (E : XK), Bd (bx P wd K mg base ["rule", "course", "steps"] "memory_behind" s_memory_behind f cdv A outer s H E) 6 E → CSs (bx P wd K mg base ["rule", "course", "steps"] "memory_behind" s_memory_behind f cdv A outer s H E) w E false (defBody s_memory_behind) c_memory_behind := by
  intro f cdv A outer s H w E B
  unfold c_memory_behind
  exact (css_cons (cs_expr (ce_fnD B S_need_rule_1_ (ca_cons (ce_var 0) ca_nil) (len_cons len_nil)))
  (css_cons (cs_expr (ce_fn B C_need_course (ca_cons (ce_var 1) ca_nil) (len_cons len_nil)))
  (css_cons (cs_set 2 sc_memory_behind.nd ((cf_fn B C_walked (ca_cons (ce_var 0) (ca_cons (ce_var 1) ca_nil)) (len_cons (len_cons len_nil)))).ce)
  (css_one (cs_ret (ce_if (ct_cmp (o_ne B.hr) t2_ne (ce_var 2) ((cf_lst ca_nil len_nil)).ce) (ce_ix (o_ix B.hr) t2_ix (ce_ix (o_ix B.hr) t2_ix (ce_var 2) (ce_un un_neg (t1_int fun _ _ => .int _) ce_int)) ce_int) (ce_tup ca_nil len_nil)))))))
theorem ok_memory_behind {P : Program} {wd : World} {K : PySem.W.Frag} {mg : Str → Option Value} {base : Heap} (A : FunAt K mg "memory_behind" "memory_behind" s_memory_behind ["rule", "course"]) (S_need_rule_1_ : CallS P wd K mg base 1 "need_rule" 1 [] [0, 1] [.str "rule"] 2 (runB c_need_rule 2)) (C_need_course : CallT P wd K mg base 3 "need_course" 1 (runB c_need_course 3)) (C_walked : CallN P wd K mg base 6 "walked" 2 (runR c_walked 6)) : CallT P wd K mg base 7 "memory_behind" 2 (runB c_memory_behind 3) :=
  fn_at (k := 6) (c := c_memory_behind) A sc_memory_behind (bd_memory_behind S_need_rule_1_ C_need_course C_walked)
theorem okS_memory_behind {P : Program} {wd : World} {K : PySem.W.Frag} {mg : Str → Option Value} {base : Heap} {n : Nat} {ks : List Str} {perm : List Nat} {dts : List T} (A : FunAtS K mg "memory_behind" "memory_behind" s_memory_behind ["rule", "course"] n ks perm dts) (hp : perm.length = 2) (hl : ∀ i ∈ perm, i < n + ks.length + dts.length) (S_need_rule_1_ : CallS P wd K mg base 1 "need_rule" 1 [] [0, 1] [.str "rule"] 2 (runB c_need_rule 2)) (C_need_course : CallT P wd K mg base 3 "need_course" 1 (runB c_need_course 3)) (C_walked : CallN P wd K mg base 6 "walked" 2 (runR c_walked 6)) : CallS P wd K mg base 7 "memory_behind" n ks perm dts 2 (runB c_memory_behind 3) :=
  fnS_at (k := 6) (c := c_memory_behind) A sc_memory_behind hp hl (bd_memory_behind S_need_rule_1_ C_need_course C_walked)
abbrev s__law_nth_right : Stmt := topS 51
theorem sc__law_nth_right : FnScope ["_law_name", "_law_first", "_law_ahead", "_law_window", "_law_made", "_law_signs", "_law_due", "_law_every"] ["_law_name", "_law_first", "_law_ahead", "_law_window"] (defScope s__law_nth_right) := ⟨rfl, rfl, rfl, by decide +kernel, rfl, by decide +kernel, by decide +kernel⟩
@[irreducible] def c__law_nth_right : SC := (cSeq (cSet 4 (cCall (runR c__law_rule 3) (caCons (cCall (runR c__law_ten 2) (caCons (cDisp (((cC (.str "first")), (cVar 1)) :: (((cC (.str "nth")), (cC (.int 2))) :: (((cC (.str "ahead")), (cVar 2)) :: (((cC (.str "window")), (cVar 3)) :: []))))) caNil)) caNil)))
  (cSeq (cSet 5 (cOp2 fRep (cLst (caCons (cTup (caCons (cC (.str "say")) (caCons (cVar 0) caNil))) caNil)) (cOp2 fAdd (cVar 1) (cC (.int 4)))))
  (cSeq (cSet 6 (cOp2 fAdd (cOp2 fRep (cLst (caCons (cTup (caCons (cC (.str "line")) (caCons (cVar 0) caNil))) caNil)) (cVar 1)) (cOp2 fRep (cOp2 fAdd (cOp2 fRep (cLst (caCons (cTup (caCons (cC (.str "again")) (caCons (cVar 0) (caCons (cC (.int 1)) caNil)))) caNil)) (cCall fInt (caCons (cVar 2) caNil))) (cLst (caCons (cTup (caCons (cC (.str "line")) (caCons (cVar 0) caNil))) caNil))) (cC (.int 2)))))
  (cSeq (cIfS (cOrT (cB (cOp2 fNe (cCall (runR c_log_of 2) (caCons (cVar 4) (caCons (cVar 5) caNil))) (cVar 6))) (cB (cOp2 fNe (cCall (runB c_memory_behind 3) (caCons (cVar 4) (caCons (cVar 5) caNil))) (cTup (caCons (cTup (caCons (cVar 0) (caCons (cC (.int 0)) (caCons (cVar 1) (caCons (cIf (cB (cVar 2)) (cC (.int 0)) (cC (.int 2))) caNil))))) caNil))))) (cRet (cC (.bl false)))
  (fun r => .ret (.nx r)))
  (cSeq (cSet 7 (cCall (runR c__law_rule 3) (caCons (cCall (runR c__law_ten 2) (caCons (cDisp (((cC (.str "first")), (cVar 1)) :: (((cC (.str "nth")), (cC (.int 1))) :: (((cC (.str "ahead")), (cVar 2)) :: (((cC (.str "window")), (cVar 3)) :: []))))) caNil)) caNil)))
  (cRet (cOp2 fEq (cCall (runR c_log_of 2) (caCons (cVar 7) (caCons (cVar 5) caNil))) (cOp2 fRep (cLst (caCons (cTup (caCons (cC (.str "line")) (caCons (cVar 0) caNil))) caNil)) (cOp2 fAdd (cVar 1) (cC (.int 4)))))))))))
theorem bd__law_nth_right {P : Program} {wd : World} {K : PySem.W.Frag} {mg : Str → Option Value} {base : Heap} (C__law_rule : CallN P wd K mg base 4 "_law_rule" 1 (runR c__law_rule 3)) (C__law_ten : CallN P wd K mg base 1 "_law_ten" 1 (runR c__law_ten 2)) (m_int : mg "int" = none) (C_log_of : CallN P wd K mg base 8 "log_of" 2 (runR c_log_of 2)) (C_memory_behind : CallT P wd K mg base 7 "memory_behind" 2 (runB c_memory_behind 3)) : ∀ (f : Addr) (cdv : Value) (A : Around) (outer : List Env) (s : Shared) (H : Hp) (w : Wd) (E : XK), Bd (bx P wd K mg base ["_law_name", "_law_first", "_law_ahead", "_law_window", "_law_made", "_law_signs", "_law_due", "_law_every"] "_law_nth_right" s__law_nth_right f cdv A outer s H E) 8 E → CSs (bx P wd K mg base ["_law_name", "_law_first", "_law_ahead", "_law_window", "_law_made", "_law_signs", "_law_due", "_law_every"] "_law_nth_right" s__law_nth_right f cdv A outer s H E) w E false (defBody s__law_nth_right) c__law_nth_right := by
  intro f cdv A outer s H w E B
  unfold c__law_nth_right
  exact (css_cons (cs_set 4 sc__law_nth_right.nd ((cf_fn B C__law_rule (ca_cons ((cf_fn B C__law_ten (ca_cons ((cf_disp (cps_cons ce_str (ce_var 1) (cps_cons ce_str ce_int (cps_cons ce_str (ce_var 2) (cps_cons ce_str (ce_var 3) cps_nil)))))).ce ca_nil) (len_cons len_nil))).ce ca_nil) (len_cons len_nil))).ce)
  (css_cons (cs_set 5 sc__law_nth_right.nd ((cf_op op_rep t2_rep ((cf_lst (ca_cons (ce_tup (ca_cons ce_str (ca_cons (ce_var 0) ca_nil)) (len_cons (len_cons len_nil))) ca_nil) (len_cons len_nil))).ce (ce_op o_add t2_add (ce_var 1) ce_int))).ce)
  (css_cons (cs_set 6 sc__law_nth_right.nd (ce_op o_add t2_add ((cf_op op_rep t2_rep ((cf_lst (ca_cons (ce_tup (ca_cons ce_str (ca_cons (ce_var 0) ca_nil)) (len_cons (len_cons len_nil))) ca_nil) (len_cons len_nil))).ce (ce_var 1))).ce ((cf_op op_rep t2_rep (ce_op o_add t2_add ((cf_op op_rep t2_rep ((cf_lst (ca_cons (ce_tup (ca_cons ce_str (ca_cons (ce_var 0) (ca_cons ce_int ca_nil))) (len_cons (len_cons (len_cons len_nil)))) ca_nil) (len_cons len_nil))).ce (ce_callTy call_int1 tn_int (by rfl) m_int (by rfl) (ca_cons (ce_var 2) ca_nil)))).ce ((cf_lst (ca_cons (ce_tup (ca_cons ce_str (ca_cons (ce_var 0) ca_nil)) (len_cons (len_cons len_nil))) ca_nil) (len_cons len_nil))).ce) ce_int)).ce))
  (css_cons (cs_if ((cw_or (ct_cmp (o_ne B.hr) t2_ne ((cf_fn B C_log_of (ca_cons (ce_var 4) (ca_cons (ce_var 5) ca_nil)) (len_cons (len_cons len_nil)))).ce (ce_var 6)) (cw_or1 (ct_cmp (o_ne B.hr) t2_ne (ce_fn B C_memory_behind (ca_cons (ce_var 4) (ca_cons (ce_var 5) ca_nil)) (len_cons (len_cons len_nil))) (ce_tup (ca_cons (ce_tup (ca_cons (ce_var 0) (ca_cons ce_int (ca_cons (ce_var 1) (ca_cons (ce_if (ct_val (ce_var 2)) ce_int ce_int) ca_nil)))) (len_cons (len_cons (len_cons (len_cons len_nil))))) ca_nil) (len_cons len_nil)))))).ct (css_one (cs_ret ce_bl))
  css_nil)
  (css_cons (cs_set 7 sc__law_nth_right.nd ((cf_fn B C__law_rule (ca_cons ((cf_fn B C__law_ten (ca_cons ((cf_disp (cps_cons ce_str (ce_var 1) (cps_cons ce_str ce_int (cps_cons ce_str (ce_var 2) (cps_cons ce_str (ce_var 3) cps_nil)))))).ce ca_nil) (len_cons len_nil))).ce ca_nil) (len_cons len_nil))).ce)
  (css_one (cs_ret (ce_cmp (o_eq B.hr) t2_eq ((cf_fn B C_log_of (ca_cons (ce_var 7) (ca_cons (ce_var 5) ca_nil)) (len_cons (len_cons len_nil)))).ce ((cf_op op_rep t2_rep ((cf_lst (ca_cons (ce_tup (ca_cons ce_str (ca_cons (ce_var 0) ca_nil)) (len_cons (len_cons len_nil))) ca_nil) (len_cons len_nil))).ce (ce_op o_add t2_add (ce_var 1) ce_int))).ce))))))))
theorem ok__law_nth_right {P : Program} {wd : World} {K : PySem.W.Frag} {mg : Str → Option Value} {base : Heap} (A : FunAt K mg "_law_nth_right" "_law_nth_right" s__law_nth_right ["_law_name", "_law_first", "_law_ahead", "_law_window"]) (C__law_rule : CallN P wd K mg base 4 "_law_rule" 1 (runR c__law_rule 3)) (C__law_ten : CallN P wd K mg base 1 "_law_ten" 1 (runR c__law_ten 2)) (m_int : mg "int" = none) (C_log_of : CallN P wd K mg base 8 "log_of" 2 (runR c_log_of 2)) (C_memory_behind : CallT P wd K mg base 7 "memory_behind" 2 (runB c_memory_behind 3)) : CallT P wd K mg base 9 "_law_nth_right" 4 (runB c__law_nth_right 8) :=
  fn_at (k := 8) (c := c__law_nth_right) A sc__law_nth_right (bd__law_nth_right C__law_rule C__law_ten m_int C_log_of C_memory_behind)
theorem okS__law_nth_right {P : Program} {wd : World} {K : PySem.W.Frag} {mg : Str → Option Value} {base : Heap} {n : Nat} {ks : List Str} {perm : List Nat} {dts : List T} (A : FunAtS K mg "_law_nth_right" "_law_nth_right" s__law_nth_right ["_law_name", "_law_first", "_law_ahead", "_law_window"] n ks perm dts) (hp : perm.length = 4) (hl : ∀ i ∈ perm, i < n + ks.length + dts.length) (C__law_rule : CallN P wd K mg base 4 "_law_rule" 1 (runR c__law_rule 3)) (C__law_ten : CallN P wd K mg base 1 "_law_ten" 1 (runR c__law_ten 2)) (m_int : mg "int" = none) (C_log_of : CallN P wd K mg base 8 "log_of" 2 (runR c_log_of 2)) (C_memory_behind : CallT P wd K mg base 7 "memory_behind" 2 (runB c_memory_behind 3)) : CallS P wd K mg base 9 "_law_nth_right" n ks perm dts 4 (runB c__law_nth_right 8) :=
  fnS_at (k := 8) (c := c__law_nth_right) A sc__law_nth_right hp hl (bd__law_nth_right C__law_rule C__law_ten m_int C_log_of C_memory_behind)
abbrev s__law_blend : Stmt := topS 43
theorem sc__law_blend : FnScope ["_law_draw", "_law_turn", "_law_found", "_law_prime", "_law_blend_here", "_law_cell"] ["_law_draw"] (defScope s__law_blend) := ⟨rfl, rfl, rfl, by decide +kernel, rfl, by decide +kernel, by decide +kernel⟩
abbrev s__law_take : Stmt := topS 45
theorem sc__law_take : FnScope ["_law_draw", "_law_size", "_law_found"] ["_law_draw", "_law_size"] (defScope s__law_take) := ⟨rfl, rfl, rfl, by decide +kernel, rfl, by decide +kernel, by decide +kernel⟩
abbrev s__law_pick : Stmt := topS 44
theorem sc__law_pick : FnScope ["_law_draw", "_law_some"] ["_law_draw", "_law_some"] (defScope s__law_pick) := ⟨rfl, rfl, rfl, by decide +kernel, rfl, by decide +kernel, by decide +kernel⟩
section
variable {P : Program} {wd : World} {K : PySem.W.Frag} {mg : Str → Option Value} {base : Heap}
theorem ok_law_blend (A : FunAt K mg "_law_blend" "_law_blend" s__law_blend ["_law_draw"]) (m_int : mg "int" = none) : CallT P wd K mg base 1 "_law_blend" 1 fBlend := by
  refine CallG.imp (fn_at (k := 0) (c := c_law_blend) A sc__law_blend fun f cdv A outer s H w E B => ?_) (SpT.le blend_le)
  unfold c_law_blend
  exact css_cons (cs_set 1 sc__law_blend.nd (ce_op o_add t2_add (ce_dr 0 (.inr rfl) B.hr) ce_int))
    (css_cons (cs_drPut 0 (.inr rfl) (hu_of B.hr) (ce_var 1))
    (css_cons (cs_set 2 sc__law_blend.nd ce_int)
    (css_cons (cs_for B.po (ci_any (cf_lst (ca_cons ce_int (ca_cons ce_int (ca_cons ce_int (ca_cons ce_int ca_nil)))) (len_cons (len_cons (len_cons (len_cons len_nil))))).ce) (cg_name 3 sc__law_blend.nd)
      (css_cons (cs_set 4 sc__law_blend.nd (ce_op op_mod t2_mod (ce_callTy call_int1 tn_int (by rfl) m_int (by rfl) (ca_cons (ce_op o_add t2_add (ce_op op_mul t2_mul (ce_var 1) ce_int) (ce_op op_fdiv t2_div (ce_var 3) ce_int)) ca_nil)) (ce_var 3)))
      (css_cons (cs_for B.po (ci_drCells 0 B.hr) (cg_name 5 sc__law_blend.nd) (css_one (cs_set 4 sc__law_blend.nd (ce_op op_mod t2_mod (ce_callTy call_int1 tn_int (by rfl) m_int (by rfl) (ca_cons (ce_op o_add t2_add (ce_op op_mul t2_mul (ce_var 4) ce_int) (ce_var 5)) ca_nil)) (ce_var 3)))))
      (css_one (cs_set 2 sc__law_blend.nd (ce_op o_add t2_add (ce_op op_mul t2_mul (ce_var 2) ce_int) (ce_op op_mod t2_mod (ce_callTy call_int1 tn_int (by rfl) m_int (by rfl) (ca_cons (ce_op op_pow t2_pow (ce_var 4) ce_int) ca_nil)) (ce_var 3))))))))
    (css_one (cs_ret (ce_var 2))))))
theorem ok_law_take (A : FunAt K mg "_law_take" "_law_take" s__law_take ["_law_draw", "_law_size"]) (m_int : mg "int" = none) (C : CallT P wd K mg base 1 "_law_blend" 1 fBlend) : CallT P wd K mg base 2 "_law_take" 2 fTake := by
  refine CallG.imp (fn_at (k := 1) (c := c_law_take) A sc__law_take fun f cdv A outer s H w E B => ?_) (SpT.le take_le)
  unfold c_law_take
  exact css_cons (cs_drIf 0 B.hr)
    (css_cons (cs_if (ct_cmp (o_eq B.hr) t2_eq (ce_dr 0 (.inl rfl) B.hr) ce_int) (css_one (cs_drPut 0 (.inl rfl) (hu_of B.hr) (ce_fn B C (ca_cons (ce_var 0) ca_nil) (len_cons len_nil)))) css_nil)
    (css_cons (cs_set 2 sc__law_take.nd (ce_op op_mod t2_mod (ce_callTy call_int1 tn_int (by rfl) m_int (by rfl) (ca_cons (ce_dr 0 (.inl rfl) B.hr) ca_nil)) (ce_var 1)))
    (css_cons (cs_drPut 0 (.inl rfl) (hu_of B.hr) (ce_op op_fdiv t2_div (ce_dr 0 (.inl rfl) B.hr) (ce_var 1)))
    (css_one (cs_ret (ce_var 2))))))
theorem ok_law_pick (A : FunAt K mg "_law_pick" "_law_pick" s__law_pick ["_law_draw", "_law_some"]) (m_len : mg "len" = none) (C : CallT P wd K mg base 2 "_law_take" 2 fTake) : CallT P wd K mg base 3 "_law_pick" 2 (runB c_law_pick 2) := by
  refine fn_at (k := 2) (c := c_law_pick) A sc__law_pick fun f cdv A outer s H w E B => ?_
  unfold c_law_pick
  exact css_one (cs_ret (ce_ix (o_ix B.hr) t2_ix (ce_var 1) (ce_fn B C (ca_cons (ce_var 0) (ca_cons (ce_callB o_len tn_len (by rfl) m_len (by rfl) (ca_cons (ce_var 1) ca_nil)) ca_nil)) (len_cons (len_cons len_nil)))))
theorem ok_law_begin (A : FunAt K mg "_law_begin" "_law_begin" s__law_begin ["_law_script"]) (m_abs : mg "abs" = none) : CallG P wd K mg base 1 "_law_begin" (SpBegin K) := by
  obtain ⟨f, fd, hm, hk, F, hb⟩ := A.ex
  refine ⟨f, fd, ["_law_script"], hm, hk, hb, fn_begin (k := 0) (c1 := c_begin1) (cc := c_begin2) F sc__law_begin rfl rfl (fun w cdv A outer s H E gd hr => ⟨?_, ?_⟩) fun ns hl => begin_wp ns hl⟩
  · unfold c_begin1
    exact cs_setComp (own := [("_law_cell", 2)]) sc__law_begin.nd (by rfl) (ci_any (ce_var 0)) (blkOk_by (by rfl)) (fun s H C cl fp => cg_name 2 sc__law_begin.nd)
      (fun s H C cl fp => cts_one (ct_cmp op_ge (t2_int fun _ _ _ => .bl _) (ce_callB call_abs tn_abs (by rfl) m_abs (by rfl) (ca_cons (ce_var 2) ca_nil)) (ce_op op_pow t2_pow ce_int ce_int)))
      (fun s H C cl fp => ce_op op_sub (t2_int fun _ _ _ => .int _) (ce_callB call_abs tn_abs (by rfl) m_abs (by rfl) (ca_cons (ce_var 2) ca_nil)) (ce_op op_pow t2_pow ce_int ce_int))
  · unfold c_begin2
    exact ps_beg 1 (cf_comp (own := [("_law_cell", 2)]) sc__law_begin.nd (ci_any (ce_var 0)) (blkOk_by (by rfl)) (fun s H C cl fp => cg_name 2 sc__law_begin.nd)
      (fun s H C cl fp => cts_nil) (fun s H C cl fp => ce_callB call_abs tn_abs (by rfl) m_abs (by rfl) (ca_cons (ce_var 2) ca_nil)))
end

abbrev s__law_names : Stmt := topS 47
theorem sc__law_names : FnScope ["_law_draw", "_law_size", "_law_letters", "_law_found", "_law_k", "_law_word", "_law_near", "_law_j", "_law_letter", "_law_one"] ["_law_draw", "_law_size"] (defScope s__law_names) := ⟨rfl, rfl, rfl, by decide +kernel, rfl, by decide +kernel, by decide +kernel⟩
@[irreducible] def c__law_names_b1 : SC := (cSeq (cSet 5 (cCall (runB c_law_pick 2) (caCons (cVar 0) (caCons (cLst (caCons (cC (.str "a")) (caCons (cC (.str "b")) (caCons (cC (.str "c")) (caCons (cC (.str "line")) (caCons (cC (.str "again")) (caCons (cC (.str "tick")) (caCons (cC (.str "say")) (caCons (cC (.str "zzzzzz")) caNil))))))))) caNil))))
  (cSeq (cIfS (cB (cOp2 fEq (cCall fTake (caCons (cVar 0) (caCons (cC (.int 2)) caNil))) (cC (.int 0)))) (cSet 5 (cJoin (cC (.str "")) (cComp (fun r => (caCons (cOp2 fAdd (cC (.int 1)) (cCall fTake (caCons (cVar 0) (caCons (cC (.int 6)) caNil)))) caNil) r >>= rgOf) (gcName 7) (fun _ => .ret true) (cCall (runB c_law_pick 2) (caCons (cVar 0) (caCons (cVar 2) caNil))) [7])))
  (fun r => .ret (.nx r)))
  (cSeq (cSet 6 (cOp2 fAdd (cLst (caCons (cVar 5) caNil)) (cComp (fun r => (cVar 2) r >>= anyOf) (gcName 8) (fun _ => .ret true) (cOp2 fAdd (cSl (cVar 5) coNone (coSome (cC (.int 5)))) (cVar 8)) [8])))
  (cMut "list" 3 mAppend (caCons (cOp2 fIx (cComp (fun r => (cVar 6) r >>= anyOf) (gcName 9) (cPkT 3 (cB (cOp2 (fInB true) (cVar 9) (cVar 3)))) (cVar 9) [9]) (cC (.int 0))) caNil)))))
@[irreducible] def c__law_names : SC := (cSeq (cPar [2, 3] ((false, (cC (.str "abcdefghijklmnopqrstuvwxyz"))) :: ((true, (cLst caNil)) :: [])))
  (cSeq (cFor (fun r => (caCons (cVar 1) caNil) r >>= rgOf) (gcName 4)
  c__law_names_b1)
  (cRetO 3)))
theorem bd__law_names {P : Program} {wd : World} {K : PySem.W.Frag} {mg : Str → Option Value} {base : Heap} (m_range : mg "range" = none) (C__law_pick : CallT P wd K mg base 3 "_law_pick" 2 (runB c_law_pick 2)) (C__law_take : CallT P wd K mg base 2 "_law_take" 2 fTake) : ∀ (f : Addr) (cdv : Value) (A : Around) (outer : List Env) (s : Shared) (H : Hp) (w : Wd) (E : XK), Bd (bx P wd K mg base ["_law_draw", "_law_size", "_law_letters", "_law_found", "_law_k", "_law_word", "_law_near", "_law_j", "_law_letter", "_law_one"] "_law_names" s__law_names f cdv A outer s H E) 3 E → CSs (bx P wd K mg base ["_law_draw", "_law_size", "_law_letters", "_law_found", "_law_k", "_law_word", "_law_near", "_law_j", "_law_letter", "_law_one"] "_law_names" s__law_names f cdv A outer s H E) w E true (defBody s__law_names) c__law_names := by
  intro f cdv A outer s H w E B
  unfold c__law_names
  unfold c__law_names_b1
  exact (css_cons (cs_parC sc__law_names.nd (cm_fz ce_str (cm_ow (cf_lst ca_nil len_nil) cm_nil)))
  (css_cons (cs_for B.po (ci_range1 (by rfl) m_range (ca_cons (ce_var 1) ca_nil)) (cg_name 4 sc__law_names.nd)
  (css_cons (cs_set 5 sc__law_names.nd (ce_fn B C__law_pick (ca_cons (ce_var 0) (ca_cons ((cf_lst (ca_cons ce_str (ca_cons ce_str (ca_cons ce_str (ca_cons ce_str (ca_cons ce_str (ca_cons ce_str (ca_cons ce_str (ca_cons ce_str ca_nil)))))))) (len_cons (len_cons (len_cons (len_cons (len_cons (len_cons (len_cons (len_cons len_nil)))))))))).ce ca_nil)) (len_cons (len_cons len_nil))))
  (css_cons (cs_if (ct_cmp (o_eq B.hr) t2_eq (ce_fn B C__law_take (ca_cons (ce_var 0) (ca_cons ce_int ca_nil)) (len_cons (len_cons len_nil))) ce_int) (css_one (cs_set 5 sc__law_names.nd (ce_join ce_str ((cf_comp (own := [("_law_j", 7)]) sc__law_names.nd (ci_range1 (by rfl) m_range (ca_cons (ce_op o_add t2_add ce_int (ce_fn B C__law_take (ca_cons (ce_var 0) (ca_cons ce_int ca_nil)) (len_cons (len_cons len_nil)))) ca_nil)) (blkOk_by (by rfl)) (fun s H C cl fp => (cg_name 7 sc__law_names.nd)) (fun s H C cl fp => cts_nil) (fun s H C cl fp => (ce_fn (B.blk s H _ _ fp) C__law_pick (ca_cons (ce_var 0) (ca_cons (ce_var 2) ca_nil)) (len_cons (len_cons len_nil)))))).ce)))
  css_nil)
  (css_cons (cs_set 6 sc__law_names.nd (ce_op o_add t2_add ((cf_lst (ca_cons (ce_var 5) ca_nil) (len_cons len_nil))).ce ((cf_comp (own := [("_law_letter", 8)]) sc__law_names.nd (ci_any (ce_var 2)) (blkOk_by (by rfl)) (fun s H C cl fp => (cg_name 8 sc__law_names.nd)) (fun s H C cl fp => cts_nil) (fun s H C cl fp => (ce_op o_add t2_add (ce_sl (ce_var 5) co_none (co_some ce_int)) (ce_var 8))))).ce))
  (css_one (cs_mut 3 F.plainAttrs_list F.slot_list_append F.type_list_append mt_append mut_append (ca_cons (ce_ix (o_ix B.hr) t2_ix ((cf_comp (own := [("_law_one", 9)]) sc__law_names.nd (ci_any (ce_var 6)) (blkOk_by (by rfl)) (fun s H C cl fp => (cg_name 9 sc__law_names.nd)) (fun s H C cl fp => (cts_one (CT.pk 3 (ct_cmp (o_notIn (B.blk s H _ _ fp).hr (un65 (B.blk s H _ _ fp).hr)) (t2_in true) (ce_var 9) (ce_var 3))))) (fun s H C cl fp => (ce_var 9)))).ce ce_int) ca_nil)))))))
  (css_one (cs_retO 3))))
theorem ok__law_names {P : Program} {wd : World} {K : PySem.W.Frag} {mg : Str → Option Value} {base : Heap} (A : FunAt K mg "_law_names" "_law_names" s__law_names ["_law_draw", "_law_size"]) (m_range : mg "range" = none) (C__law_pick : CallT P wd K mg base 3 "_law_pick" 2 (runB c_law_pick 2)) (C__law_take : CallT P wd K mg base 2 "_law_take" 2 fTake) : CallN P wd K mg base 4 "_law_names" 2 (runR c__law_names 10) :=
  fnN_at (k := 3) (c := c__law_names) A sc__law_names (bd__law_names m_range C__law_pick C__law_take)
abbrev s_law : Stmt := topS 52
theorem sc_law : FnScope ["_law_script", "_law_draw", "_law_turn", "_law_name", "_law_window", "_law_marks", "_law_k"] ["_law_script"] (defScope s_law) := ⟨rfl, rfl, rfl, by decide +kernel, rfl, by decide +kernel, by decide +kernel⟩
@[irreducible] def c_law_b1 : SC := (cSeq (cPar [3, 4] ((false, (cOp2 fIx (cCall (runR c__law_names 10) (caCons (cVar 1) (caCons (cC (.int 1)) caNil))) (cC (.int 0)))) :: ((false, (cOp2 fAdd (cC (.int 1)) (cCall fTake (caCons (cVar 1) (caCons (cC (.int 3)) caNil))))) :: [])))
  (cSeq (cSeqFrz 5 (cSetO 5 (cComp (fun r => (caCons (cC (.int 3)) caNil) r >>= rgOf) (gcName 6) (fun _ => .ret true) (cOp2 fEq (cCall fTake (caCons (cVar 1) (caCons (cC (.int 2)) caNil))) (cC (.int 0))) [6])))
  (cSeq (cIfS (cNotT (cB (cCall (runB c__law_end_right 10) (caCons (cVar 3) (caCons (cVar 4) (caCons (cOp2 fIx (cVar 5) (cC (.int 0))) (caCons (cOp2 fIx (cVar 5) (cC (.int 1))) (caCons (cOp2 fIx (cVar 5) (cC (.int 2))) (caCons (cCall fTake (caCons (cVar 1) (caCons (cC (.int 4)) caNil))) caNil))))))))) (cRet (cC (.bl false)))
  (fun r => .ret (.nx r)))
  (cSeq (cIfS (cNotT (cB (cCall (runB c__law_renew_right 6) (caCons (cVar 3) (caCons (cOp2 fAdd (cC (.int 2)) (cCall fTake (caCons (cVar 1) (caCons (cC (.int 2)) caNil)))) (caCons (cOp2 fIx (cVar 5) (cC (.int 0))) caNil)))))) (cRet (cC (.bl false)))
  (fun r => .ret (.nx r)))
  (cIfS (cNotT (cB (cCall (runB c__law_nth_right 8) (caCons (cVar 3) (caCons (cOp2 fAdd (cC (.int 1)) (cCall fTake (caCons (cVar 1) (caCons (cC (.int 2)) caNil)))) (caCons (cOp2 fIx (cVar 5) (cC (.int 1))) (caCons (cCall (runB c_law_pick 2) (caCons (cVar 1) (caCons (cLst (caCons (cC .non) (caCons (cVar 4) caNil))) caNil))) caNil))))))) (cRet (cC (.bl false)))
  (fun r => .ret (.nx r)))))))
@[irreducible] def c_law : SC := (cBegin 1 0 (cSeq (cFor (fun r => (caCons (cOp2 fAdd (cC (.int 1)) (cCall fMin2 (caCons (cCall fLen (caCons (cVar 0) caNil)) (caCons (cC (.int 1)) caNil)))) caNil) r >>= rgOf) (gcName 2)
  c_law_b1)
  (cRet (cC (.bl true)))))
theorem ok_law {P : Program} {wd : World} {K : PySem.W.Frag} {mg : Str → Option Value} {base : Heap} (A : FunAt K mg "law" "law" s_law ["_law_script"]) (C__law_begin : CallG P wd K mg base 1 "_law_begin" (SpBegin K)) (m_len : mg "len" = none) (m_min : mg "min" = none) (m_range : mg "range" = none) (C__law_take : CallT P wd K mg base 2 "_law_take" 2 fTake) (C__law_names : CallN P wd K mg base 4 "_law_names" 2 (runR c__law_names 10)) (C__law_end_right : CallT P wd K mg base 9 "_law_end_right" 6 (runB c__law_end_right 10)) (C__law_renew_right : CallT P wd K mg base 9 "_law_renew_right" 3 (runB c__law_renew_right 6)) (C__law_nth_right : CallT P wd K mg base 9 "_law_nth_right" 4 (runB c__law_nth_right 8)) (C__law_pick : CallT P wd K mg base 3 "_law_pick" 2 (runB c_law_pick 2)) : CallL P wd K mg base 10 "law" (runB c_law 7) := by
  refine law_at (k := 9) (c := c_law) A sc_law fun f cdv A outer s H w E w0 B => ?_
  unfold c_law
  unfold c_law_b1
  exact (css_begin0 w0 B C__law_begin sc_law.nd (fun w =>
  (css_cons (cs_for B.po (ci_range1 (by rfl) m_range (ca_cons (ce_op o_add t2_add ce_int (ce_callB (call_min2 rfl) tn_min2 (by rfl) m_min (by rfl) (ca_cons (ce_callB o_len tn_len (by rfl) m_len (by rfl) (ca_cons (ce_var 0) ca_nil)) (ca_cons ce_int ca_nil)))) ca_nil)) (cg_name 2 sc_law.nd)
  (css_cons (cs_par sc_law.nd (cm_fz (ce_ix (o_ix B.hr) t2_ix ((cf_fn B C__law_names (ca_cons (ce_var 1) (ca_cons ce_int ca_nil)) (len_cons (len_cons len_nil)))).ce ce_int) (cm_fz (ce_op o_add t2_add ce_int (ce_fn B C__law_take (ca_cons (ce_var 1) (ca_cons ce_int ca_nil)) (len_cons (len_cons len_nil)))) cm_nil)))
  (css_cons (cs_thenFrz 5 (cs_setComp (own := [("_law_k", 6)]) sc_law.nd (by rfl) (ci_range1 (by rfl) m_range (ca_cons ce_int ca_nil)) (blkOk_by (by rfl)) (fun s H C cl fp => (cg_name 6 sc_law.nd)) (fun s H C cl fp => cts_nil) (fun s H C cl fp => (ce_cmp (o_eq (B.blk s H _ _ fp).hr) t2_eq (ce_fn (B.blk s H _ _ fp) C__law_take (ca_cons (ce_var 1) (ca_cons ce_int ca_nil)) (len_cons (len_cons len_nil))) ce_int))))
  (css_cons (cs_if (ct_not (ct_val (ce_fn B C__law_end_right (ca_cons (ce_var 3) (ca_cons (ce_var 4) (ca_cons (ce_ix (o_ix B.hr) t2_ix (ce_var 5) ce_int) (ca_cons (ce_ix (o_ix B.hr) t2_ix (ce_var 5) ce_int) (ca_cons (ce_ix (o_ix B.hr) t2_ix (ce_var 5) ce_int) (ca_cons (ce_fn B C__law_take (ca_cons (ce_var 1) (ca_cons ce_int ca_nil)) (len_cons (len_cons len_nil))) ca_nil)))))) (len_cons (len_cons (len_cons (len_cons (len_cons (len_cons len_nil))))))))) (css_one (cs_ret ce_bl))
  css_nil)
  (css_cons (cs_if (ct_not (ct_val (ce_fn B C__law_renew_right (ca_cons (ce_var 3) (ca_cons (ce_op o_add t2_add ce_int (ce_fn B C__law_take (ca_cons (ce_var 1) (ca_cons ce_int ca_nil)) (len_cons (len_cons len_nil)))) (ca_cons (ce_ix (o_ix B.hr) t2_ix (ce_var 5) ce_int) ca_nil))) (len_cons (len_cons (len_cons len_nil)))))) (css_one (cs_ret ce_bl))
  css_nil)
  (css_one (cs_if (ct_not (ct_val (ce_fn B C__law_nth_right (ca_cons (ce_var 3) (ca_cons (ce_op o_add t2_add ce_int (ce_fn B C__law_take (ca_cons (ce_var 1) (ca_cons ce_int ca_nil)) (len_cons (len_cons len_nil)))) (ca_cons (ce_ix (o_ix B.hr) t2_ix (ce_var 5) ce_int) (ca_cons (ce_fn B C__law_pick (ca_cons (ce_var 1) (ca_cons ((cf_lst (ca_cons ce_non (ca_cons (ce_var 4) ca_nil)) (len_cons (len_cons len_nil)))).ce ca_nil)) (len_cons (len_cons len_nil))) ca_nil)))) (len_cons (len_cons (len_cons (len_cons len_nil))))))) (css_one (cs_ret ce_bl))
  css_nil)))))))
  (css_one (cs_ret ce_bl)))))
theorem ok_all {P : Program} {wd : World} {K : PySem.W.Frag} {mg : Str → Option Value} {base : Heap} (A_S_need_rule_1_ : FunAtS K mg "need_rule" "need_rule" s_need_rule ["rule", "part"] 1 [] [0, 1] [.str "rule"])
  (m_isinstance : mg "isinstance" = none)
  (isR : InsT K mg "Rule")
  (A_is_value : FunAt K mg "is_value" "is_value" s_is_value ["part", "thing"])
  (m_int : mg "int" = none)
  (m_str : mg "str" = none)
  (KT : KTb K mg wd "PARTS" tab)
  (m_bool : mg "bool" = none)
  (m_any : mg "any" = none)
  (A_Rule___init__ : InitAt K mg "Rule" "__init__" "Rule.__init__" s_Rule___init__ ["self", "first", "window", "renew", "nth", "ahead", "atend", "most", "full", "slots", "farewell"])
  (m_zip : mg "zip" = none)
  (fd_own_parts : FldT K mg "Rule" "own_parts")
  (fd_own_first : FldT K mg "Rule" "own_first")
  (fd_own_window : FldT K mg "Rule" "own_window")
  (fd_own_renew : FldT K mg "Rule" "own_renew")
  (fd_own_nth : FldT K mg "Rule" "own_nth")
  (fd_own_ahead : FldT K mg "Rule" "own_ahead")
  (fd_own_atend : FldT K mg "Rule" "own_atend")
  (fd_own_most : FldT K mg "Rule" "own_most")
  (fd_own_full : FldT K mg "Rule" "own_full")
  (fd_own_slots : FldT K mg "Rule" "own_slots")
  (fd_own_farewell : FldT K mg "Rule" "own_farewell")
  (A_Rule___eq__ : EqAt K mg "Rule" "__eq__" "Rule.__eq__" s_Rule___eq__ ["self", "other"])
  (A__law_rule : FunAt K mg "_law_rule" "_law_rule" s__law_rule ["_law_mode"])
  (A__law_ten : FunAt K mg "_law_ten" "_law_ten" s__law_ten ["_law_mode"])
  (A_is_list : FunAt K mg "is_list" "is_list" s_is_list ["thing"])
  (m_list : mg "list" = none)
  (m_tuple : mg "tuple" = none)
  (A_is_key : FunAt K mg "is_key" "is_key" s_is_key ["thing"])
  (m_len : mg "len" = none)
  (g_LONGEST : ∃ t, mg "LONGEST" = some (.int 6 t))
  (g_LETTERS : ∃ t, mg "LETTERS" = some (.str "abcdefghijklmnopqrstuvwxyz" t))
  (m_all : mg "all" = none)
  (A_is_sign : FunAt K mg "is_sign" "is_sign" s_is_sign ["thing"])
  (g_TICK : ∃ t, mg "TICK" = some (.str "tick" t))
  (g_SAY : ∃ t, mg "SAY" = some (.str "say" t))
  (A_need_course : FunAt K mg "need_course" "need_course" s_need_course ["course"])
  (m_enumerate : mg "enumerate" = none)
  (A_entry_of : FunAt K mg "entry_of" "entry_of" s_entry_of ["memory", "key"])
  (A_last_count : FunAt K mg "last_count" "last_count" s_last_count ["rule"])
  (m_max : mg "max" = none)
  (A_is_left_out : FunAt K mg "is_left_out" "is_left_out" s_is_left_out ["rule", "entry"])
  (A_left_out : FunAt K mg "left_out" "left_out" s_left_out ["rule", "entry"])
  (g_LEFT : ∃ t, mg "LEFT" = some (.str "left" t))
  (g_LOST : ∃ t, mg "LOST" = some (.str "lost" t))
  (g_AGAIN : ∃ t, mg "AGAIN" = some (.str "again" t))
  (A_written : FunAt K mg "written" "written" s_written ["rule", "entry"])
  (g_LINE : ∃ t, mg "LINE" = some (.str "line" t))
  (A_said_again : FunAt K mg "said_again" "said_again" s_said_again ["rule", "entry"])
  (A_forgotten : FunAt K mg "forgotten" "forgotten" s_forgotten ["rule", "memory"])
  (A_say_of : FunAt K mg "say_of" "say_of" s_say_of ["rule", "memory", "key"])
  (A_aged : FunAt K mg "aged" "aged" s_aged ["rule", "entry"])
  (A_tick_of : FunAt K mg "tick_of" "tick_of" s_tick_of ["rule", "memory"])
  (A_sign_of : FunAt K mg "sign_of" "sign_of" s_sign_of ["rule", "memory", "sign"])
  (A_walked : FunAt K mg "walked" "walked" s_walked ["rule", "course"])
  (A_lines_of : FunAt K mg "lines_of" "lines_of" s_lines_of ["sign", "happenings"])
  (A_log_by : FunAt K mg "log_by" "log_by" s_log_by ["rule", "course"])
  (A_log_of : FunAt K mg "log_of" "log_of" s_log_of ["rule", "course"])
  (A_tally : FunAt K mg "tally" "tally" s_tally ["rule", "course"])
  (m_sorted : mg "sorted" = none)
  (A__law_end_right : FunAt K mg "_law_end_right" "_law_end_right" s__law_end_right ["_law_name", "_law_window", "_law_renew", "_law_ahead", "_law_atend", "_law_more"])
  (A__law_renew_right : FunAt K mg "_law_renew_right" "_law_renew_right" s__law_renew_right ["_law_name", "_law_window", "_law_renew"])
  (A_memory_behind : FunAt K mg "memory_behind" "memory_behind" s_memory_behind ["rule", "course"])
  (A__law_nth_right : FunAt K mg "_law_nth_right" "_law_nth_right" s__law_nth_right ["_law_name", "_law_first", "_law_ahead", "_law_window"])
  (A__law_blend : FunAt K mg "_law_blend" "_law_blend" s__law_blend ["_law_draw"])
  (A__law_take : FunAt K mg "_law_take" "_law_take" s__law_take ["_law_draw", "_law_size"])
  (A__law_pick : FunAt K mg "_law_pick" "_law_pick" s__law_pick ["_law_draw", "_law_some"])
  (A__law_begin : FunAt K mg "_law_begin" "_law_begin" s__law_begin ["_law_script"])
  (m_abs : mg "abs" = none)
  (A__law_names : FunAt K mg "_law_names" "_law_names" s__law_names ["_law_draw", "_law_size"])
  (m_range : mg "range" = none)
  (A_law : FunAt K mg "law" "law" s_law ["_law_script"])
  (m_min : mg "min" = none) : CallL P wd K mg base 10 "law" (runB c_law 7) := by
  have S_need_rule_1_ := okS_need_rule (P := P) (wd := wd) (base := base) A_S_need_rule_1_ (by rfl) (by decide) m_isinstance isR
  have C_is_value := ok_is_value (P := P) (wd := wd) (base := base) A_is_value m_isinstance isR m_int m_str KT m_bool m_any
  have Mk_Rule := ok_Rule___init__ (P := P) (wd := wd) (base := base) A_Rule___init__ KT m_zip C_is_value fd_own_parts fd_own_first fd_own_window fd_own_renew fd_own_nth fd_own_ahead fd_own_atend fd_own_most fd_own_full fd_own_slots fd_own_farewell
  have eqR := ok_Rule___eq__ (P := P) (wd := wd) (base := base) A_Rule___eq__ m_isinstance isR fd_own_parts
  have C__law_rule := ok__law_rule (P := P) (wd := wd) (base := base) A__law_rule Mk_Rule
  have C__law_ten := ok__law_ten (P := P) (wd := wd) (base := base) A__law_ten 
  have C_is_list := ok_is_list (P := P) (wd := wd) (base := base) A_is_list m_isinstance isR m_list m_tuple
  have C_is_key := ok_is_key (P := P) (wd := wd) (base := base) A_is_key m_isinstance isR m_str m_len g_LONGEST g_LETTERS m_all
  have C_is_sign := ok_is_sign (P := P) (wd := wd) (base := base) A_is_sign m_isinstance isR m_tuple m_len m_str g_TICK g_SAY C_is_key
  have C_need_course := ok_need_course (P := P) (wd := wd) (base := base) A_need_course C_is_list m_enumerate C_is_sign
  have C_entry_of := ok_entry_of (P := P) (wd := wd) (base := base) A_entry_of 
  have C_last_count := ok_last_count (P := P) (wd := wd) (base := base) A_last_count fd_own_first fd_own_nth m_max
  have C_is_left_out := ok_is_left_out (P := P) (wd := wd) (base := base) A_is_left_out fd_own_first fd_own_nth C_last_count
  have C_left_out := ok_left_out (P := P) (wd := wd) (base := base) A_left_out g_LEFT fd_own_most g_LOST fd_own_full g_AGAIN fd_own_nth
  have C_written := ok_written (P := P) (wd := wd) (base := base) A_written fd_own_ahead g_AGAIN g_LINE fd_own_first
  have C_said_again := ok_said_again (P := P) (wd := wd) (base := base) A_said_again g_LINE g_AGAIN C_is_left_out C_left_out C_written fd_own_renew
  have C_forgotten := ok_forgotten (P := P) (wd := wd) (base := base) A_forgotten fd_own_farewell g_AGAIN g_LOST
  have C_say_of := ok_say_of (P := P) (wd := wd) (base := base) A_say_of C_entry_of C_said_again fd_own_slots m_len C_forgotten g_LINE
  have C_aged := ok_aged (P := P) (wd := wd) (base := base) A_aged fd_own_window fd_own_atend g_AGAIN fd_own_ahead g_LOST
  have C_tick_of := ok_tick_of (P := P) (wd := wd) (base := base) A_tick_of fd_own_window C_aged m_tuple
  have C_sign_of := ok_sign_of (P := P) (wd := wd) (base := base) A_sign_of g_SAY C_say_of C_tick_of
  have C_walked := ok_walked (P := P) (wd := wd) (base := base) A_walked C_sign_of
  have C_lines_of := ok_lines_of (P := P) (wd := wd) (base := base) A_lines_of g_AGAIN g_LINE g_TICK
  have C_log_by := ok_log_by (P := P) (wd := wd) (base := base) A_log_by C_walked KT m_zip C_lines_of
  have C_log_of := ok_log_of (P := P) (wd := wd) (base := base) A_log_of S_need_rule_1_ C_need_course C_log_by
  have C_tally := ok_tally (P := P) (wd := wd) (base := base) A_tally S_need_rule_1_ C_need_course g_SAY C_walked g_LEFT g_LOST g_AGAIN g_LINE m_sorted m_tuple
  have C__law_end_right := ok__law_end_right (P := P) (wd := wd) (base := base) A__law_end_right C__law_rule C__law_ten m_int C_log_of C_tally
  have C__law_renew_right := ok__law_renew_right (P := P) (wd := wd) (base := base) A__law_renew_right C__law_rule C__law_ten C_log_of
  have C_memory_behind := ok_memory_behind (P := P) (wd := wd) (base := base) A_memory_behind S_need_rule_1_ C_need_course C_walked
  have C__law_nth_right := ok__law_nth_right (P := P) (wd := wd) (base := base) A__law_nth_right C__law_rule C__law_ten m_int C_log_of C_memory_behind
  have C__law_blend := ok_law_blend (P := P) (wd := wd) (base := base) A__law_blend m_int
  have C__law_take := ok_law_take (P := P) (wd := wd) (base := base) A__law_take m_int C__law_blend
  have C__law_pick := ok_law_pick (P := P) (wd := wd) (base := base) A__law_pick m_len C__law_take
  have C__law_begin := ok_law_begin (P := P) (wd := wd) (base := base) A__law_begin m_abs
  have C__law_names := ok__law_names (P := P) (wd := wd) (base := base) A__law_names m_range C__law_pick C__law_take
  exact ok_law A_law C__law_begin m_len m_min m_range C__law_take C__law_names C__law_end_right C__law_renew_right C__law_nth_right C__law_pick
end LW
end s_G11
section s_HD11
set_option Elab.async false
set_option linter.all false
set_option maxRecDepth 100000
set_option maxHeartbeats 0
open PySem PySem.W PyProof.Rows
open_top hd11 for PySem.Challenge.rw_saidagain_k11_windows_by_hand
end s_HD11
section s_HW11
set_option Elab.async false
set_option linter.all false
set_option maxRecDepth 100000
open PySem PySem.W PyProof.Rows
set_option maxHeartbeats 0 in
theorem LW.holds_of (sem : ∀ (ns : List Int), (TL.runB LW.c_law 7 [TL.T.scr ns]).wp (fun t => t = TL.T.bl true) fun _ => False) : PySem.Challenge.rw_saidagain_k11_windows_by_hand.Holds := by
  refine hd11 ?_
  k_fill
  refine TL.walk_ofM (l := PySem.Challenge.rw_saidagain_k11_windows_by_hand) (n := 63) (k := 10) (F := TL.runB LW.c_law 7) rfl (by decide) rfl ⟨rfl, by decide, by decide⟩ (fun w h Y => PySem.W.kIn_of Y) ?F ?S
  case F =>
    intro w mg fa h KX G hmg base _ _
    clear hmg
    refine' LW.ok_all ?A_S_need_rule_1_ ?m_isinstance ?isR ?A_is_value ?m_int ?m_str ?KT ?m_bool ?m_any ?A_Rule___init__ ?m_zip ?fd_own_parts ?fd_own_first ?fd_own_window ?fd_own_renew ?fd_own_nth ?fd_own_ahead ?fd_own_atend ?fd_own_most ?fd_own_full ?fd_own_slots ?fd_own_farewell ?A_Rule___eq__ ?A__law_rule ?A__law_ten ?A_is_list ?m_list ?m_tuple ?A_is_key ?m_len ?g_LONGEST ?g_LETTERS ?m_all ?A_is_sign ?g_TICK ?g_SAY ?A_need_course ?m_enumerate ?A_entry_of ?A_last_count ?m_max ?A_is_left_out ?A_left_out ?g_LEFT ?g_LOST ?g_AGAIN ?A_written ?g_LINE ?A_said_again ?A_forgotten ?A_say_of ?A_aged ?A_tick_of ?A_sign_of ?A_walked ?A_lines_of ?A_log_by ?A_log_of ?A_tally ?m_sorted ?A__law_end_right ?A__law_renew_right ?A_memory_behind ?A__law_nth_right ?A__law_blend ?A__law_take ?A__law_pick ?A__law_begin ?m_abs ?A__law_names ?m_range ?A_law ?m_min
    case A_S_need_rule_1_ =>
      refine' TL.funAtD_mk KX G ?hb ?a ?l ?c ?k ?lT ?tr
      (case a => k_is)
      (case l => k_is)
      (case c => k_is)
      (case k => k_is)
      (case lT => k_is)
      (case hb => (intro T kV doc pm an cdv ct us ws its h1 h2 h3; match us, h1, ws, h2, its, h3 with | [u0], _, [], _, [d0], _ => exact ⟨_, by with_unfolding_all rfl, by kernel_rfl⟩))
      (case tr => (repeat (first | exact TL.TrKs.nil | exact TL.TrK.non | exact TL.TrK.bl _ | exact TL.TrK.int _ _ | exact TL.TrK.str _ _ | refine TL.TrKs.cons ?_ ?_)))
    case m_isinstance =>
      refine' PySem.W.mg_none_of KX G ?z
      (case z => k_is)
    case isR =>
      refine' ⟨_, (TL.insF_mk KX G ?a (TL.cls_mk ?p1 ?p2 ?p3 ?p4) ?i1 ?i2 ?i3 ?i4 ?kt ?tk ?sf)⟩
      (case a => k_is)
      (case p1 => k_is)
      (case p2 => k_is)
      (case p3 => k_is)
      (case p4 => k_is)
      (case i1 => k_is)
      (case i2 => k_is)
      (case i3 => k_is)
      (case i4 => k_is)
      (case sf => kit_is)
      (case kt => (intro b hb; simp only [TL.bTys, List.mem_cons, List.not_mem_nil, or_false] at hb; rcases hb with rfl | rfl | rfl | rfl | rfl | rfl <;> kit_is))
      (case tk => (intro b hb; simp only [TL.aTys, List.mem_cons, List.not_mem_nil, or_false] at hb; rcases hb with rfl | rfl | rfl | rfl | rfl | rfl | rfl <;> kit_is))
    case A_is_value =>
      refine' TL.funAt_mk KX G ?hb ?a ?l ?c ?k
      (case a => k_is)
      (case l => k_is)
      (case c => k_is)
      (case k => k_is)
      (case hb => (intro _ _ _ _ _ _ us hl; match us, hl with | [_, _], _ => rfl))
    case m_int =>
      refine' PySem.W.mg_none_of KX G ?z
      (case z => k_is)
    case m_str =>
      refine' PySem.W.mg_none_of KX G ?z
      (case z => k_is)
    case KT =>
      refine' TL.ktb_mk KX G ?a ?l ?low ?kl ?T ?sm
      (case a => k_is)
      (case l => k_is)
      (case low => rfl)
      (case kl => (repeat (first | exact True.intro | refine ⟨⟨_, _, rfl, rfl⟩, ?_⟩)))
      (case T => (repeat (first | (apply TL.TrK.tup; k_is; rfl) | exact TL.TabK.nil | exact TL.TrKs.nil | exact TL.TrK.non | exact TL.TrK.bl _ | exact TL.TrK.int _ _ | exact TL.TrK.str _ _ | refine TL.TabK.cons ?_ ?_ | refine TL.TrKs.cons ?_ ?_)))
      (case sm => decide +kernel)
    case m_bool =>
      refine' PySem.W.mg_none_of KX G ?z
      (case z => k_is)
    case m_any =>
      refine' PySem.W.mg_none_of KX G ?z
      (case z => k_is)
    case A_Rule___init__ =>
      refine' TL.initAt_mk KX G ?hb ?a ?mk ?kc ?ai ?fi ?l ?c ?k
      (case a => k_is)
      (case mk => k_is)
      (case kc => k_is)
      (case ai => k_is)
      (case fi => k_is)
      (case l => k_is)
      (case c => k_is)
      (case k => k_is)
      (case hb => (intro _ _ _ _ _ _ us hl; match us, hl with | [_, _, _, _, _, _, _, _, _, _, _], _ => rfl))
    case m_zip =>
      refine' PySem.W.mg_none_of KX G ?z
      (case z => k_is)
    case fd_own_parts =>
      refine' TL.fldT_mk KX G ?a (TL.cls_mk ?p1 ?p2 ?p3 ?p4) ?no
      (case a => k_is)
      (case p1 => k_is)
      (case p2 => k_is)
      (case p3 => k_is)
      (case p4 => k_is)
      (case no => k_is)
    case fd_own_first =>
      refine' TL.fldT_mk KX G ?a (TL.cls_mk ?p1 ?p2 ?p3 ?p4) ?no
      (case a => k_is)
      (case p1 => k_is)
      (case p2 => k_is)
      (case p3 => k_is)
      (case p4 => k_is)
      (case no => k_is)
    case fd_own_window =>
      refine' TL.fldT_mk KX G ?a (TL.cls_mk ?p1 ?p2 ?p3 ?p4) ?no
      (case a => k_is)
      (case p1 => k_is)
      (case p2 => k_is)
      (case p3 => k_is)
      (case p4 => k_is)
      (case no => k_is)
    case fd_own_renew =>
      refine' TL.fldT_mk KX G ?a (TL.cls_mk ?p1 ?p2 ?p3 ?p4) ?no
      (case a => k_is)
      (case p1 => k_is)
      (case p2 => k_is)
      (case p3 => k_is)
      (case p4 => k_is)
      (case no => k_is)
    case fd_own_nth =>
      refine' TL.fldT_mk KX G ?a (TL.cls_mk ?p1 ?p2 ?p3 ?p4) ?no
      (case a => k_is)
      (case p1 => k_is)
      (case p2 => k_is)
      (case p3 => k_is)
      (case p4 => k_is)
      (case no => k_is)
    case fd_own_ahead =>
      refine' TL.fldT_mk KX G ?a (TL.cls_mk ?p1 ?p2 ?p3 ?p4) ?no
      (case a => k_is)
      (case p1 => k_is)
      (case p2 => k_is)
      (case p3 => k_is)
      (case p4 => k_is)
      (case no => k_is)
    case fd_own_atend =>
      refine' TL.fldT_mk KX G ?a (TL.cls_mk ?p1 ?p2 ?p3 ?p4) ?no
      (case a => k_is)
      (case p1 => k_is)
      (case p2 => k_is)
      (case p3 => k_is)
      (case p4 => k_is)
      (case no => k_is)
    case fd_own_most =>
      refine' TL.fldT_mk KX G ?a (TL.cls_mk ?p1 ?p2 ?p3 ?p4) ?no
      (case a => k_is)
      (case p1 => k_is)
      (case p2 => k_is)
      (case p3 => k_is)
      (case p4 => k_is)
      (case no => k_is)
    case fd_own_full =>
      refine' TL.fldT_mk KX G ?a (TL.cls_mk ?p1 ?p2 ?p3 ?p4) ?no
      (case a => k_is)
      (case p1 => k_is)
      (case p2 => k_is)
      (case p3 => k_is)
      (case p4 => k_is)
      (case no => k_is)
    case fd_own_slots =>
      refine' TL.fldT_mk KX G ?a (TL.cls_mk ?p1 ?p2 ?p3 ?p4) ?no
      (case a => k_is)
      (case p1 => k_is)
      (case p2 => k_is)
      (case p3 => k_is)
      (case p4 => k_is)
      (case no => k_is)
    case fd_own_farewell =>
      refine' TL.fldT_mk KX G ?a (TL.cls_mk ?p1 ?p2 ?p3 ?p4) ?no
      (case a => k_is)
      (case p1 => k_is)
      (case p2 => k_is)
      (case p3 => k_is)
      (case p4 => k_is)
      (case no => k_is)
    case A_Rule___eq__ =>
      refine' TL.eqAt_mk (TL.insF_mk KX G ?a (TL.cls_mk ?p1 ?p2 ?p3 ?p4) ?i1 ?i2 ?i3 ?i4 ?kt ?tk ?sf) ?hb ?ai ?fi ?ne ?fs ?l ?c ?k
      (case a => k_is)
      (case p1 => k_is)
      (case p2 => k_is)
      (case p3 => k_is)
      (case p4 => k_is)
      (case i1 => k_is)
      (case i2 => k_is)
      (case i3 => k_is)
      (case i4 => k_is)
      (case ai => k_is)
      (case fi => k_is)
      (case ne => k_is)
      (case l => k_is)
      (case c => k_is)
      (case k => k_is)
      (case hb => (intro _ _ _ _ _ _ us hl; match us, hl with | [_, _], _ => rfl))
      (case sf => kit_is)
      (case kt => (intro b hb; simp only [TL.bTys, List.mem_cons, List.not_mem_nil, or_false] at hb; rcases hb with rfl | rfl | rfl | rfl | rfl | rfl <;> kit_is))
      (case tk => (intro b hb; simp only [TL.aTys, List.mem_cons, List.not_mem_nil, or_false] at hb; rcases hb with rfl | rfl | rfl | rfl | rfl | rfl | rfl <;> kit_is))
      (case fs => (intro b hb; simp only [TL.aTys, List.mem_cons, List.not_mem_nil, or_false] at hb; rcases hb with rfl | rfl | rfl | rfl | rfl | rfl | rfl <;> k_is))
    case A__law_rule =>
      refine' TL.funAt_mk KX G ?hb ?a ?l ?c ?k
      (case a => k_is)
      (case l => k_is)
      (case c => k_is)
      (case k => k_is)
      (case hb => (intro _ _ _ _ _ _ us hl; match us, hl with | [_], _ => rfl))
    case A__law_ten =>
      refine' TL.funAt_mk KX G ?hb ?a ?l ?c ?k
      (case a => k_is)
      (case l => k_is)
      (case c => k_is)
      (case k => k_is)
      (case hb => (intro _ _ _ _ _ _ us hl; match us, hl with | [_], _ => rfl))
    case A_is_list =>
      refine' TL.funAt_mk KX G ?hb ?a ?l ?c ?k
      (case a => k_is)
      (case l => k_is)
      (case c => k_is)
      (case k => k_is)
      (case hb => (intro _ _ _ _ _ _ us hl; match us, hl with | [_], _ => rfl))
    case m_list =>
      refine' PySem.W.mg_none_of KX G ?z
      (case z => k_is)
    case m_tuple =>
      refine' PySem.W.mg_none_of KX G ?z
      (case z => k_is)
    case A_is_key =>
      refine' TL.funAt_mk KX G ?hb ?a ?l ?c ?k
      (case a => k_is)
      (case l => k_is)
      (case c => k_is)
      (case k => k_is)
      (case hb => (intro _ _ _ _ _ _ us hl; match us, hl with | [_], _ => rfl))
    case m_len =>
      refine' PySem.W.mg_none_of KX G ?z
      (case z => k_is)
    case g_LONGEST =>
      refine' TL.gInt_mk KX G ?z ?e
      (case z => k_is)
      (case e => rfl)
    case g_LETTERS =>
      refine' TL.gStr_mk KX G ?z ?e
      (case z => k_is)
      (case e => rfl)
    case m_all =>
      refine' PySem.W.mg_none_of KX G ?z
      (case z => k_is)
    case A_is_sign =>
      refine' TL.funAt_mk KX G ?hb ?a ?l ?c ?k
      (case a => k_is)
      (case l => k_is)
      (case c => k_is)
      (case k => k_is)
      (case hb => (intro _ _ _ _ _ _ us hl; match us, hl with | [_], _ => rfl))
    case g_TICK =>
      refine' TL.gStr_mk KX G ?z ?e
      (case z => k_is)
      (case e => rfl)
    case g_SAY =>
      refine' TL.gStr_mk KX G ?z ?e
      (case z => k_is)
      (case e => rfl)
    case A_need_course =>
      refine' TL.funAt_mk KX G ?hb ?a ?l ?c ?k
      (case a => k_is)
      (case l => k_is)
      (case c => k_is)
      (case k => k_is)
      (case hb => (intro _ _ _ _ _ _ us hl; match us, hl with | [_], _ => rfl))
    case m_enumerate =>
      refine' PySem.W.mg_none_of KX G ?z
      (case z => k_is)
    case A_entry_of =>
      refine' TL.funAt_mk KX G ?hb ?a ?l ?c ?k
      (case a => k_is)
      (case l => k_is)
      (case c => k_is)
      (case k => k_is)
      (case hb => (intro _ _ _ _ _ _ us hl; match us, hl with | [_, _], _ => rfl))
    case A_last_count =>
      refine' TL.funAt_mk KX G ?hb ?a ?l ?c ?k
      (case a => k_is)
      (case l => k_is)
      (case c => k_is)
      (case k => k_is)
      (case hb => (intro _ _ _ _ _ _ us hl; match us, hl with | [_], _ => rfl))
    case m_max =>
      refine' PySem.W.mg_none_of KX G ?z
      (case z => k_is)
    case A_is_left_out =>
      refine' TL.funAt_mk KX G ?hb ?a ?l ?c ?k
      (case a => k_is)
      (case l => k_is)
      (case c => k_is)
      (case k => k_is)
      (case hb => (intro _ _ _ _ _ _ us hl; match us, hl with | [_, _], _ => rfl))
    case A_left_out =>
      refine' TL.funAt_mk KX G ?hb ?a ?l ?c ?k
      (case a => k_is)
      (case l => k_is)
      (case c => k_is)
      (case k => k_is)
      (case hb => (intro _ _ _ _ _ _ us hl; match us, hl with | [_, _], _ => rfl))
    case g_LEFT =>
      refine' TL.gStr_mk KX G ?z ?e
      (case z => k_is)
      (case e => rfl)
    case g_LOST =>
      refine' TL.gStr_mk KX G ?z ?e
      (case z => k_is)
      (case e => rfl)
    case g_AGAIN =>
      refine' TL.gStr_mk KX G ?z ?e
      (case z => k_is)
      (case e => rfl)
    case A_written =>
      refine' TL.funAt_mk KX G ?hb ?a ?l ?c ?k
      (case a => k_is)
      (case l => k_is)
      (case c => k_is)
      (case k => k_is)
      (case hb => (intro _ _ _ _ _ _ us hl; match us, hl with | [_, _], _ => rfl))
    case g_LINE =>
      refine' TL.gStr_mk KX G ?z ?e
      (case z => k_is)
      (case e => rfl)
    case A_said_again =>
      refine' TL.funAt_mk KX G ?hb ?a ?l ?c ?k
      (case a => k_is)
      (case l => k_is)
      (case c => k_is)
      (case k => k_is)
      (case hb => (intro _ _ _ _ _ _ us hl; match us, hl with | [_, _], _ => rfl))
    case A_forgotten =>
      refine' TL.funAt_mk KX G ?hb ?a ?l ?c ?k
      (case a => k_is)
      (case l => k_is)
      (case c => k_is)
      (case k => k_is)
      (case hb => (intro _ _ _ _ _ _ us hl; match us, hl with | [_, _], _ => rfl))
    case A_say_of =>
      refine' TL.funAt_mk KX G ?hb ?a ?l ?c ?k
      (case a => k_is)
      (case l => k_is)
      (case c => k_is)
      (case k => k_is)
      (case hb => (intro _ _ _ _ _ _ us hl; match us, hl with | [_, _, _], _ => rfl))
    case A_aged =>
      refine' TL.funAt_mk KX G ?hb ?a ?l ?c ?k
      (case a => k_is)
      (case l => k_is)
      (case c => k_is)
      (case k => k_is)
      (case hb => (intro _ _ _ _ _ _ us hl; match us, hl with | [_, _], _ => rfl))
    case A_tick_of =>
      refine' TL.funAt_mk KX G ?hb ?a ?l ?c ?k
      (case a => k_is)
      (case l => k_is)
      (case c => k_is)
      (case k => k_is)
      (case hb => (intro _ _ _ _ _ _ us hl; match us, hl with | [_, _], _ => rfl))
    case A_sign_of =>
      refine' TL.funAt_mk KX G ?hb ?a ?l ?c ?k
      (case a => k_is)
      (case l => k_is)
      (case c => k_is)
      (case k => k_is)
      (case hb => (intro _ _ _ _ _ _ us hl; match us, hl with | [_, _, _], _ => rfl))
    case A_walked =>
      refine' TL.funAt_mk KX G ?hb ?a ?l ?c ?k
      (case a => k_is)
      (case l => k_is)
      (case c => k_is)
      (case k => k_is)
      (case hb => (intro _ _ _ _ _ _ us hl; match us, hl with | [_, _], _ => rfl))
    case A_lines_of =>
      refine' TL.funAt_mk KX G ?hb ?a ?l ?c ?k
      (case a => k_is)
      (case l => k_is)
      (case c => k_is)
      (case k => k_is)
      (case hb => (intro _ _ _ _ _ _ us hl; match us, hl with | [_, _], _ => rfl))
    case A_log_by =>
      refine' TL.funAt_mk KX G ?hb ?a ?l ?c ?k
      (case a => k_is)
      (case l => k_is)
      (case c => k_is)
      (case k => k_is)
      (case hb => (intro _ _ _ _ _ _ us hl; match us, hl with | [_, _], _ => rfl))
    case A_log_of =>
      refine' TL.funAt_mk KX G ?hb ?a ?l ?c ?k
      (case a => k_is)
      (case l => k_is)
      (case c => k_is)
      (case k => k_is)
      (case hb => (intro _ _ _ _ _ _ us hl; match us, hl with | [_, _], _ => rfl))
    case A_tally =>
      refine' TL.funAt_mk KX G ?hb ?a ?l ?c ?k
      (case a => k_is)
      (case l => k_is)
      (case c => k_is)
      (case k => k_is)
      (case hb => (intro _ _ _ _ _ _ us hl; match us, hl with | [_, _], _ => rfl))
    case m_sorted =>
      refine' PySem.W.mg_none_of KX G ?z
      (case z => k_is)
    case A__law_end_right =>
      refine' TL.funAt_mk KX G ?hb ?a ?l ?c ?k
      (case a => k_is)
      (case l => k_is)
      (case c => k_is)
      (case k => k_is)
      (case hb => (intro _ _ _ _ _ _ us hl; match us, hl with | [_, _, _, _, _, _], _ => rfl))
    case A__law_renew_right =>
      refine' TL.funAt_mk KX G ?hb ?a ?l ?c ?k
      (case a => k_is)
      (case l => k_is)
      (case c => k_is)
      (case k => k_is)
      (case hb => (intro _ _ _ _ _ _ us hl; match us, hl with | [_, _, _], _ => rfl))
    case A_memory_behind =>
      refine' TL.funAt_mk KX G ?hb ?a ?l ?c ?k
      (case a => k_is)
      (case l => k_is)
      (case c => k_is)
      (case k => k_is)
      (case hb => (intro _ _ _ _ _ _ us hl; match us, hl with | [_, _], _ => rfl))
    case A__law_nth_right =>
      refine' TL.funAt_mk KX G ?hb ?a ?l ?c ?k
      (case a => k_is)
      (case l => k_is)
      (case c => k_is)
      (case k => k_is)
      (case hb => (intro _ _ _ _ _ _ us hl; match us, hl with | [_, _, _, _], _ => rfl))
    case A__law_blend =>
      refine' TL.funAt_mk KX G ?hb ?a ?l ?c ?k
      (case a => k_is)
      (case l => k_is)
      (case c => k_is)
      (case k => k_is)
      (case hb => (intro _ _ _ _ _ _ us hl; match us, hl with | [_], _ => rfl))
    case A__law_take =>
      refine' TL.funAt_mk KX G ?hb ?a ?l ?c ?k
      (case a => k_is)
      (case l => k_is)
      (case c => k_is)
      (case k => k_is)
      (case hb => (intro _ _ _ _ _ _ us hl; match us, hl with | [_, _], _ => rfl))
    case A__law_pick =>
      refine' TL.funAt_mk KX G ?hb ?a ?l ?c ?k
      (case a => k_is)
      (case l => k_is)
      (case c => k_is)
      (case k => k_is)
      (case hb => (intro _ _ _ _ _ _ us hl; match us, hl with | [_, _], _ => rfl))
    case A__law_begin =>
      refine' TL.funAt_mk KX G ?hb ?a ?l ?c ?k
      (case a => k_is)
      (case l => k_is)
      (case c => k_is)
      (case k => k_is)
      (case hb => (intro _ _ _ _ _ _ us hl; match us, hl with | [_], _ => rfl))
    case m_abs =>
      refine' PySem.W.mg_none_of KX G ?z
      (case z => k_is)
    case A__law_names =>
      refine' TL.funAt_mk KX G ?hb ?a ?l ?c ?k
      (case a => k_is)
      (case l => k_is)
      (case c => k_is)
      (case k => k_is)
      (case hb => (intro _ _ _ _ _ _ us hl; match us, hl with | [_, _], _ => rfl))
    case m_range =>
      refine' PySem.W.mg_none_of KX G ?z
      (case z => k_is)
    case A_law =>
      refine' TL.funAt_mk KX G ?hb ?a ?l ?c ?k
      (case a => k_is)
      (case l => k_is)
      (case c => k_is)
      (case k => k_is)
      (case hb => (intro _ _ _ _ _ _ us hl; match us, hl with | [_], _ => rfl))
    case m_min =>
      refine' PySem.W.mg_none_of KX G ?z
      (case z => k_is)
  case S => exact sem
end s_HW11
section s_M11a
set_option Elab.async false
set_option linter.all false
set_option maxRecDepth 100000
set_option maxHeartbeats 4000000
namespace LW
open PySem PySem.Spec PyProof.Rows L2 TL
local macro_rules | `(tactic| walk_at "tl") => `(tactic| simp only [cSeq, cSet, cSetO, cVar, cC, cOp1, cOp2, cTup, cLst, caNil, caCons, cCall, cB, asB, cNotT, cAndT, cOrT, cAndV, cOrV, cNotV, cIf, cIfS, cRet, cRetO, cFld, fFld, cFor, forG, gcName, gcTup, gcsCons, gcsNil, cAsg, cFldMe, putFT, cFrz, frzS, cPut, cPar, cMany, setR, cMut, cDisp, cPairs,
  G.ret_bind, G.pure_bind', G.exc_bind, G.stuck_bind, G.pick_bind, List.getElem?_cons_zero, List.getElem?_cons_succ, List.set_cons_zero, List.set_cons_succ, List.length_cons, List.length_nil, List.map_cons, List.map_nil, List.cons_append, List.nil_append, List.replicate_succ, List.replicate_zero,
  if_true, if_false, Bool.false_eq_true, Bool.true_eq_false, Bool.not_true, Bool.not_false, reduceIte])
def Ws : List (Str × List T) := [("first", [.int 1, .int 2]), ("window", [.non, .int 1, .int 2, .int 3]), ("renew", [.bl false, .bl true]), ("nth", [.int 0, .int 1, .int 2]), ("ahead", [.bl false, .bl true]), ("atend", [.bl false, .bl true]), ("most", [.int 1, .int 2, .int 3]), ("full", [.str "stop", .str "tell"]), ("slots", [.non, .int 1, .int 2]), ("farewell", [.bl false, .bl true])]
/-- every value of the table is one -/
theorem isv : ∀ p ∈ Ws, ∀ v ∈ p.2, runB c_is_value 3 [.str p.1, v] = .ret (.bl true) := by
  intro p hp v hv
  simp only [Ws, List.mem_cons, List.not_mem_nil, or_false] at hp
  rcases hp with rfl | rfl | rfl | rfl | rfl | rfl | rfl | rfl | rfl | rfl <;> simp only [List.mem_cons, List.not_mem_nil, or_false] at hv
  case inl => rcases hv with rfl | rfl <;> kernel_rfl
  case inr.inl => rcases hv with rfl | rfl | rfl | rfl <;> kernel_rfl
  all_goals first | (rcases hv with rfl | rfl | rfl <;> kernel_rfl) | (rcases hv with rfl | rfl <;> kernel_rfl)
structure Ok10 (a0 a1 a2 a3 a4 a5 a6 a7 a8 a9 : T) : Prop where
  h0 : a0 ∈ [T.int 1, .int 2]
  h1 : a1 ∈ [T.non, .int 1, .int 2, .int 3]
  h2 : a2 ∈ [T.bl false, .bl true]
  h3 : a3 ∈ [T.int 0, .int 1, .int 2]
  h4 : a4 ∈ [T.bl false, .bl true]
  h5 : a5 ∈ [T.bl false, .bl true]
  h6 : a6 ∈ [T.int 1, .int 2, .int 3]
  h7 : a7 ∈ [T.str "stop", .str "tell"]
  h8 : a8 ∈ [T.non, .int 1, .int 2]
  h9 : a9 ∈ [T.bl false, .bl true]
def ruleT (a0 a1 a2 a3 a4 a5 a6 a7 a8 a9 : T) : T := .ins "Rule" [("own_parts", .tup [a0, a1, a2, a3, a4, a5, a6, a7, a8, a9]), ("own_first", a0), ("own_window", a1), ("own_renew", a2), ("own_nth", a3), ("own_ahead", a4), ("own_atend", a5), ("own_most", a6), ("own_full", a7), ("own_slots", a8), ("own_farewell", a9)]
variable {a0 a1 a2 a3 a4 a5 a6 a7 a8 a9 : T}
theorem init_eq (h : Ok10 a0 a1 a2 a3 a4 a5 a6 a7 a8 a9) : runI "Rule" c_Rule___init__ 14 [a0, a1, a2, a3, a4, a5, a6, a7, a8, a9] = .ret (ruleT a0 a1 a2 a3 a4 a5 a6 a7 a8 a9) := by
  have e0 := isv _ (List.mem_of_getElem? (i := 0) rfl) _ h.h0
  have e1 := isv _ (List.mem_of_getElem? (i := 1) rfl) _ h.h1
  have e2 := isv _ (List.mem_of_getElem? (i := 2) rfl) _ h.h2
  have e3 := isv _ (List.mem_of_getElem? (i := 3) rfl) _ h.h3
  have e4 := isv _ (List.mem_of_getElem? (i := 4) rfl) _ h.h4
  have e5 := isv _ (List.mem_of_getElem? (i := 5) rfl) _ h.h5
  have e6 := isv _ (List.mem_of_getElem? (i := 6) rfl) _ h.h6
  have e7 := isv _ (List.mem_of_getElem? (i := 7) rfl) _ h.h7
  have e8 := isv _ (List.mem_of_getElem? (i := 8) rfl) _ h.h8
  have e9 := isv _ (List.mem_of_getElem? (i := 9) rfl) _ h.h9
  have hz : zipOf "PARTS" tab [.fn "PARTS", .tup [a0, a1, a2, a3, a4, a5, a6, a7, a8, a9]] = .ret [.tup [.str "first", a0], .tup [.str "window", a1], .tup [.str "renew", a2], .tup [.str "nth", a3], .tup [.str "ahead", a4], .tup [.str "atend", a5], .tup [.str "most", a6], .tup [.str "full", a7], .tup [.str "slots", a8], .tup [.str "farewell", a9]] := by kernel_rfl
  unfold runI c_Rule___init__ c_Rule___init___b1
  walk_at "tl"
  simp only [hz, G.ret_bind]
  repeat (first | (walk_at "tl"; simp only [e0, e1, e2, e3, e4, e5, e6, e7, e8, e9]))
  walk_at "tl"
  kernel_rfl
def modeT (a0 a1 a2 a3 a4 a5 a6 a7 a8 a9 : T) : T := .dic [(.str "first", a0), (.str "window", a1), (.str "renew", a2), (.str "nth", a3), (.str "ahead", a4), (.str "atend", a5), (.str "most", a6), (.str "full", a7), (.str "slots", a8), (.str "farewell", a9)]
theorem rule_eq (h : Ok10 a0 a1 a2 a3 a4 a5 a6 a7 a8 a9) : runR c__law_rule 3 [modeT a0 a1 a2 a3 a4 a5 a6 a7 a8 a9] = .ret (ruleT a0 a1 a2 a3 a4 a5 a6 a7 a8 a9) := by
  have e := init_eq h
  have z : runR c__law_rule 3 [modeT a0 a1 a2 a3 a4 a5 a6 a7 a8 a9] = ((runI "Rule" c_Rule___init__ 14 [a0, a1, a2, a3, a4, a5, a6, a7, a8, a9] >>= fun t => G.ret (Ctl.rt t)) >>= fun k => match k with | .rt t => .ret t | _ => .stuck) := by
    unfold c__law_rule runR
    kernel_rfl
  rw [z, e]; rfl
end LW
end s_M11a
section s_M11b
set_option Elab.async false
set_option linter.all false
set_option maxRecDepth 100000
set_option maxHeartbeats 4000000
/-! typed mirror of the memories' walk -/
namespace LW
open PySem PySem.Spec PyProof.Rows L2 TL
structure Ru where
  first : Int
  window : Option Int
  renew : Bool
  nth : Int
  ahead : Bool
  atend : Bool
  most : Int
  tell : Bool
  slots : Option Int
  farewell : Bool
structure En where
  key : Str
  age : Int
  count : Int
  left : Int
def oiT : Option Int → T
  | none => .non
  | some i => .int i
def fullT (b : Bool) : T := .str (bif b then "tell" else "stop")
def Ru.t (r : Ru) : T := ruleT (.int r.first) (oiT r.window) (.bl r.renew) (.int r.nth) (.bl r.ahead) (.bl r.atend) (.int r.most) (fullT r.tell) (oiT r.slots) (.bl r.farewell)
def Ru.m (r : Ru) : T := modeT (.int r.first) (oiT r.window) (.bl r.renew) (.int r.nth) (.bl r.ahead) (.bl r.atend) (.int r.most) (fullT r.tell) (oiT r.slots) (.bl r.farewell)
def En.t (e : En) : T := .tup [.str e.key, .int e.age, .int e.count, .int e.left]
section
variable {r : Ru} {e : En} {a b : Int} {neg : Bool}
theorem eqInt : fEqB neg (.int a) (.int b) = .ret (.bl (neg != decide (a = b))) := by
  have h : TL.eqT (.int a) (.int b) = decide (a = b) := by
    show (a == b) = decide (a = b)
    rw [Bool.eq_iff_iff]; simp
  show (if TL.okT (.int a) && TL.okT (.int b) then G.ret (T.bl (neg != TL.eqT (.int a) (.int b))) else .stuck) = _
  have h1 : (TL.okT (.int a) && TL.okT (.int b)) = true := rfl
  rw [h1, h]; rfl
theorem eqFull (b : Bool) : fEqB false (fullT b) (.str "tell") = .ret (.bl b) := by cases b <;> kernel_rfl
theorem fl_first : fFld "Rule" "own_first" r.t = .ret (.int r.first) := by kernel_rfl
theorem fl_window : fFld "Rule" "own_window" r.t = .ret (oiT r.window) := by kernel_rfl
theorem fl_renew : fFld "Rule" "own_renew" r.t = .ret (.bl r.renew) := by kernel_rfl
theorem fl_nth : fFld "Rule" "own_nth" r.t = .ret (.int r.nth) := by kernel_rfl
theorem fl_ahead : fFld "Rule" "own_ahead" r.t = .ret (.bl r.ahead) := by kernel_rfl
theorem fl_atend : fFld "Rule" "own_atend" r.t = .ret (.bl r.atend) := by kernel_rfl
theorem fl_most : fFld "Rule" "own_most" r.t = .ret (.int r.most) := by kernel_rfl
theorem fl_full : fFld "Rule" "own_full" r.t = .ret (fullT r.tell) := by kernel_rfl
theorem fl_slots : fFld "Rule" "own_slots" r.t = .ret (oiT r.slots) := by kernel_rfl
theorem fl_farewell : fFld "Rule" "own_farewell" r.t = .ret (.bl r.farewell) := by kernel_rfl
theorem md_first : fIx r.m (.str "first") = .ret (.int r.first) := by kernel_rfl
theorem md_window : fIx r.m (.str "window") = .ret (oiT r.window) := by kernel_rfl
theorem md_renew : fIx r.m (.str "renew") = .ret (.bl r.renew) := by kernel_rfl
theorem md_nth : fIx r.m (.str "nth") = .ret (.int r.nth) := by kernel_rfl
theorem md_ahead : fIx r.m (.str "ahead") = .ret (.bl r.ahead) := by kernel_rfl
theorem md_atend : fIx r.m (.str "atend") = .ret (.bl r.atend) := by kernel_rfl
theorem md_most : fIx r.m (.str "most") = .ret (.int r.most) := by kernel_rfl
theorem md_full : fIx r.m (.str "full") = .ret (fullT r.tell) := by kernel_rfl
theorem md_slots : fIx r.m (.str "slots") = .ret (oiT r.slots) := by kernel_rfl
theorem md_farewell : fIx r.m (.str "farewell") = .ret (.bl r.farewell) := by kernel_rfl
theorem ix_key : fIx e.t (.int 0) = .ret (.str e.key) := by kernel_rfl
theorem ix_age : fIx e.t (.int 1) = .ret (.int e.age) := by kernel_rfl
theorem ix_count : fIx e.t (.int 2) = .ret (.int e.count) := by kernel_rfl
theorem ix_left : fIx e.t (.int 3) = .ret (.int e.left) := by kernel_rfl
theorem gc4 {i j k l : Nat} {r : List Sl} : gcTup 4 (gcsCons (gcName i) (gcsCons (gcName j) (gcsCons (gcName k) (gcsCons (gcName l) gcsNil)))) e.t r = .ret ((((r.set i (.fz (.str e.key))).set j (.fz (.int e.age))).set k (.fz (.int e.count))).set l (.fz (.int e.left))) := by kernel_rfl
theorem gc2 {i j : Nat} {r : List Sl} {x y : T} : gcTup 2 (gcsCons (gcName i) (gcsCons (gcName j) gcsNil)) (.tup [x, y]) r = .ret ((r.set i (.fz x)).set j (.fz y)) := by kernel_rfl
theorem tyTup_or : fMax2 [.int a, .int b] = .ret (.int (if b > a then b else a)) := rfl
theorem fMin2_eq : fMin2 [.int a, .int b] = .ret (.int (if b < a then b else a)) := rfl
end
local macro_rules | `(tactic| walk_at "tl") => `(tactic| simp only [cSeq, cSet, cSetO, cVar, cC, cOp1, cOp2, cTup, cLst, caNil, caCons, cCall, cB, asB, cNotT, cAndT, cOrT, cAndV, cOrV, cNotV, cIf, cIfS, cRet, cRetO, cFld, cAsg, cFrz, frzS, cPar, cMany, setR, cMut, cAugI, fII,
  eqInt, eqFull, fl_first, fl_window, fl_renew, fl_nth, fl_ahead, fl_atend, fl_most, fl_full, fl_slots, fl_farewell, md_first, md_window, md_renew, md_nth, md_ahead, md_atend, md_most, md_full, md_slots, md_farewell, ix_key, ix_age, ix_count, ix_left, gc4, gc2, fMax2, fMin2, fAdd, mAppend, tyT, fits,
  G.ret_bind, G.pure_bind', G.exc_bind, G.stuck_bind, G.pick_bind, List.getElem?_cons_zero, List.getElem?_cons_succ, List.set_cons_zero, List.set_cons_succ, List.length_cons, List.length_nil, List.map_cons, List.map_nil, List.cons_append, List.nil_append, List.replicate_succ, List.replicate_zero,
  if_true, if_false, Bool.false_eq_true, Bool.true_eq_false, Bool.not_true, Bool.not_false, reduceIte, cond_true, cond_false, Bool.false_bne, Bool.true_bne, Bool.and_true, Bool.true_and, Bool.and_false, Bool.false_and, Nat.reduceAdd, Nat.reduceSub, Nat.reduceLeDiff, decide_true, *])
def hLeft (k : Str) : T := .tup [.str "left", .str k]
def hLost (k : Str) (n : Int) : T := .tup [.str "lost", .str k, .int n]
def hAgain (k : Str) (n : Int) : T := .tup [.str "again", .str k, .int n]
def hLine (k : Str) : T := .tup [.str "line", .str k]
def Ru.last (r : Ru) : Int := r.first + (if 1 > r.nth then 1 else r.nth) - 1
def Ru.close (r : Ru) : Bool := r.window.isSome && (r.ahead && !r.atend)
def isOut (r : Ru) (e : En) : Bool := bif decide (e.count < r.first) then false else bif decide (r.nth = 0) then true else decide (e.count < r.last)
def leftOut (r : Ru) (e : En) : En × List T :=
  let l := bif decide (e.left = r.most) then e.left else e.left + 1
  let hs := bif decide (e.left = r.most) then [hLeft e.key, hLost e.key 1] else [hLeft e.key]
  let tl := bif decide (l = r.most) then r.tell else false
  (⟨e.key, e.age, bif decide (r.nth = 0) then e.count else e.count + 1, bif tl then 0 else l⟩, bif tl then hs ++ [hAgain e.key l] else hs)
section
variable {r : Ru} {e : En}
theorem last_eq : runB c_last_count 1 [r.t] = .ret (.int r.last) := by
  unfold runB c_last_count
  walk_at "tl"
  rfl
theorem leftOut_eq : runB c_left_out 7 [r.t, e.t] = .ret (.tup [(leftOut r e).1.t, .lst (leftOut r e).2]) := by
  unfold runB c_left_out leftOut
  cases h1 : decide (e.left = r.most) <;> cases h2 : decide (r.nth = 0)
  all_goals cases h3 : r.tell
  all_goals try cases h4 : decide (e.left + 1 = r.most)
  all_goals walk_at "tl"
  all_goals rfl
end
end LW
end s_M11b
section s_M11c
set_option Elab.async false
set_option linter.all false
set_option maxRecDepth 100000
set_option maxHeartbeats 4000000
/-! one entry: said again, aged -/
namespace LW
open PySem PySem.Spec PyProof.Rows L2 TL
theorem fEqStr {neg : Bool} {x y : Str} : fEqB neg (.str x) (.str y) = .ret (.bl (neg != decide (x = y))) := rfl
local macro_rules | `(tactic| walk_at "tl") => `(tactic| simp only [cSeq, cSet, cSetO, cVar, cC, cOp1, cOp2, cTup, cLst, caNil, caCons, cCall, cB, asB, cNotT, cAndT, cOrT, cAndV, cOrV, cNotV, cIf, cIfS, cRet, cRetO, cFld, cAsg, cFrz, frzS, cPar, cMany, setR, cMut, cAugI, fII,
  eqInt, eqFull, fl_first, fl_window, fl_renew, fl_nth, fl_ahead, fl_atend, fl_most, fl_full, fl_slots, fl_farewell, md_first, md_window, md_renew, md_nth, md_ahead, md_atend, md_most, md_full, md_slots, md_farewell, ix_key, ix_age, ix_count, ix_left, gc4, gc2, fMax2, fMin2, fAdd, mAppend, tyT, fits, fCat, fSubI, fGeI, fEqStr,
  G.ret_bind, G.pure_bind', G.exc_bind, G.stuck_bind, G.pick_bind, List.getElem?_cons_zero, List.getElem?_cons_succ, List.set_cons_zero, List.set_cons_succ, List.length_cons, List.length_nil, List.map_cons, List.map_nil, List.cons_append, List.nil_append, List.replicate_succ, List.replicate_zero,
  if_true, if_false, Bool.false_eq_true, Bool.true_eq_false, Bool.not_true, Bool.not_false, reduceIte, cond_true, cond_false, Bool.false_bne, Bool.true_bne, Bool.and_true, Bool.true_and, Bool.and_false, Bool.false_and, Nat.reduceAdd, Nat.reduceSub, Nat.reduceLeDiff, decide_true, *])
def written (r : Ru) (e : En) : En × List T :=
  let ag := bif decide (0 < e.left) then r.ahead else false
  (⟨e.key, e.age, bif decide (e.count < r.first) then e.count + 1 else r.first, bif ag then 0 else e.left⟩, bif ag then [hAgain e.key e.left, hLine e.key] else [hLine e.key])
def outOr (r : Ru) (e : En) : En × List T := bif isOut r e then leftOut r e else written r e
def saidAgain (r : Ru) (e : En) : En × List T :=
  bif decide (e.count = 0) then (⟨e.key, 0, 1, 0⟩, [hAgain e.key e.left, hLine e.key]) else
  (⟨e.key, bif r.renew then 0 else (outOr r e).1.age, (outOr r e).1.count, (outOr r e).1.left⟩, (outOr r e).2)
def lawOut (r : Ru) (e : En) : Bool := bif decide (e.count = 0) then false else bif decide (e.count - r.first < 0) then false else bif decide (r.nth = 0) then true else decide (e.count - r.first + 1 < r.nth)
def lawAgain (r : Ru) (e : En) : En × List T :=
  bif decide (e.count = 0) then (⟨e.key, 0, 1, 0⟩, [hAgain e.key e.left, hLine e.key]) else
  bif lawOut r e then
    let hs := bif decide (e.left = r.most) then [hLeft e.key, hLost e.key 1] else [hLeft e.key]
    let l := if r.most < e.left + 1 then r.most else e.left + 1
    let tl := bif decide (l = r.most) then r.tell else false
    (⟨e.key, bif r.renew then 0 else e.age, e.count + (if r.nth < 1 then r.nth else 1), bif tl then 0 else l⟩, bif tl then hs ++ [hAgain e.key l] else hs)
  else
    let ag := bif decide (0 < e.left) then r.ahead else false
    (⟨e.key, bif r.renew then 0 else e.age, (if r.first - 1 < e.count then r.first - 1 else e.count) + 1, bif ag then 0 else e.left⟩, bif ag then [hAgain e.key e.left, hLine e.key] else [hLine e.key])
section
variable {r : Ru} {e : En}
theorem isOut_eq : runB c_is_left_out 3 [r.t, e.t] = .ret (.bl (isOut r e)) := by
  have q := last_eq (r := r)
  unfold runB c_is_left_out isOut
  cases h1 : decide (e.count < r.first) <;> cases h2 : decide (r.nth = 0)
  all_goals walk_at "tl"
theorem written_eq : runB c_written 7 [r.t, e.t] = .ret (.tup [(written r e).1.t, .lst (written r e).2]) := by
  unfold runB c_written written
  cases h1 : decide (0 < e.left) <;> cases h2 : r.ahead <;> cases h3 : decide (e.count < r.first)
  all_goals walk_at "tl"
  all_goals rfl
theorem saidAgain_eq : runB c_said_again 5 [r.t, e.t] = .ret (.tup [(saidAgain r e).1.t, .lst (saidAgain r e).2]) := by
  have q1 := isOut_eq (r := r) (e := e)
  have q2 := leftOut_eq (r := r) (e := e)
  have q3 := written_eq (r := r) (e := e)
  unfold runB c_said_again saidAgain outOr
  cases h1 : decide (e.count = 0) <;> cases h2 : r.renew <;> cases h3 : isOut r e
  all_goals walk_at "tl"
  all_goals rfl
end
/-- the plain law of one entry -/
structure Ru.ok (r : Ru) : Prop where
  f : r.first = 1 ∨ r.first = 2
  w : ∀ i, r.window = some i → 1 ≤ i ∧ i ≤ 3
  n : r.nth = 0 ∨ r.nth = 1 ∨ r.nth = 2
  m : 1 ≤ r.most ∧ r.most ≤ 3
  s : ∀ i, r.slots = some i → 1 ≤ i ∧ i ≤ 2
/-- an entry of the rule -/
structure En.ok (r : Ru) (e : En) : Prop where
  k : 1 ≤ e.key.length ∧ e.key.length ≤ 6
  ks : ∀ c ∈ e.key.cps.toList, c ∈ ("abcdefghijklmnopqrstuvwxyz" : Str).cps.toList
  a : 0 ≤ e.age ∧ (match r.window with | none => e.age = 0 | some w => e.age ≤ w - 1)
  c : 0 ≤ e.count ∧ e.count ≤ r.last
  l : 0 ≤ e.left ∧ e.left ≤ (if r.tell then r.most - 1 else r.most)
  n : r.nth = 1 → e.left ≤ 0
  z : e.count = 0 → r.close = true ∧ e.age = 0 ∧ 0 < e.left
  f : e.count ≠ 0 → r.first ≤ e.count ∨ e.left = 0
theorem again_law {r : Ru} {e : En} (hr : r.ok) (he : e.ok r) : lawAgain r e = saidAgain r e := by
  have h0 : lawOut r e = (bif decide (e.count = 0) then false else isOut r e) := by
    unfold lawOut isOut Ru.last
    have f := hr.f; have n := hr.n; have c := he.c
    cases h1 : decide (e.count = 0) <;> simp only [cond_true, cond_false]
    cases h2 : decide (e.count < r.first) <;> simp only [decide_eq_true_eq, decide_eq_false_iff_not] at h1 h2
    · rw [show decide (e.count - r.first < 0) = false by simp; omega]
      simp only [cond_false]
      cases h3 : decide (r.nth = 0) <;> simp only [cond_true, cond_false]
      rw [Bool.eq_iff_iff]; simp only [decide_eq_true_eq, decide_eq_false_iff_not] at h3 ⊢
      split <;> omega
    · rw [show decide (e.count - r.first < 0) = true by simp; omega]
      simp
  have l := he.l; have n := hr.n; have m := hr.m
  have hl : (if r.most < e.left + 1 then r.most else e.left + 1) = (bif decide (e.left = r.most) then e.left else e.left + 1) := by
    cases h : decide (e.left = r.most) <;> simp only [decide_eq_true_eq, decide_eq_false_iff_not, cond_true, cond_false] at h ⊢ <;> split <;> (try split at l) <;> omega
  have hn : e.count + (if r.nth < 1 then r.nth else 1) = (bif decide (r.nth = 0) then e.count else e.count + 1) := by
    cases h : decide (r.nth = 0) <;> simp only [decide_eq_true_eq, decide_eq_false_iff_not, cond_true, cond_false] at h ⊢ <;> split <;> omega
  have hf : (if r.first - 1 < e.count then r.first - 1 else e.count) + 1 = (bif decide (e.count < r.first) then e.count + 1 else r.first) := by
    cases h : decide (e.count < r.first) <;> simp only [decide_eq_true_eq, decide_eq_false_iff_not, cond_true, cond_false] at h ⊢ <;> split <;> omega
  unfold lawAgain saidAgain outOr
  rw [h0, hl, hn, hf]
  cases h1 : decide (e.count = 0) <;> simp only [cond_true, cond_false]
  cases h2 : isOut r e <;> simp only [cond_true, cond_false] <;> rfl
end LW
end s_M11c
section s_M11d
set_option Elab.async false
set_option linter.all false
set_option maxRecDepth 100000
set_option maxHeartbeats 4000000
/-! aged, tick -/
namespace LW
open PySem PySem.Spec PyProof.Rows L2 TL
local macro_rules | `(tactic| walk_at "tl") => `(tactic| simp only [cSeq, cSet, cSetO, cVar, cC, cOp1, cOp2, cTup, cLst, caNil, caCons, cCall, cB, asB, cNotT, cAndT, cOrT, cAndV, cOrV, cNotV, cIf, cIfS, cRet, cRetO, cFld, cAsg, cFrz, frzS, cPar, cMany, setR, cMut, cAugI, fII,
  eqInt, eqFull, fl_first, fl_window, fl_renew, fl_nth, fl_ahead, fl_atend, fl_most, fl_full, fl_slots, fl_farewell, md_first, md_window, md_renew, md_nth, md_ahead, md_atend, md_most, md_full, md_slots, md_farewell, ix_key, ix_age, ix_count, ix_left, gc4, gc2, fMax2, fMin2, fAdd, mAppend, mExtend, tyT, fCat, oiT, fIsN, fNotN, fTuple, fLen, fSubI, fGeI, fEqStr,
  G.ret_bind, G.pure_bind', G.exc_bind, G.stuck_bind, G.pick_bind, List.getElem?_cons_zero, List.getElem?_cons_succ, List.set_cons_zero, List.set_cons_succ, List.length_cons, List.length_nil, List.map_cons, List.map_nil, List.cons_append, List.nil_append, List.replicate_succ, List.replicate_zero,
  if_true, if_false, Bool.false_eq_true, Bool.true_eq_false, Bool.not_true, Bool.not_false, reduceIte, cond_true, cond_false, Bool.false_bne, Bool.true_bne, Bool.and_true, Bool.true_and, Bool.and_false, Bool.false_and, Nat.reduceAdd, Nat.reduceSub, Nat.reduceLeDiff, decide_true, *])
local macro_rules | `(tactic| walk_at "tf") => `(tactic| simp only [cSeq, cSet, cSetO, cVar, cC, cOp1, cOp2, cTup, cLst, caNil, caCons, cCall, cB, asB, cNotT, cAndT, cOrT, cAndV, cOrV, cNotV, cIf, cIfS, cRet, cRetO, cFld, cAsg, cFrz, frzS, cPar, cMany, setR, cMut, cAugI, fII,
  eqInt, eqFull, fl_first, fl_window, fl_renew, fl_nth, fl_ahead, fl_atend, fl_most, fl_full, fl_slots, fl_farewell, md_first, md_window, md_renew, md_nth, md_ahead, md_atend, md_most, md_full, md_slots, md_farewell, ix_key, ix_age, ix_count, ix_left, gc4, gc2, fMax2, fMin2, fAdd, mAppend, mExtend, fits, tyT, fCat, oiT, fIsN, fNotN, fTuple, fLen, fSubI, fGeI, fEqStr,
  G.ret_bind, G.pure_bind', G.exc_bind, G.stuck_bind, G.pick_bind, List.getElem?_cons_zero, List.getElem?_cons_succ, List.set_cons_zero, List.set_cons_succ, List.length_cons, List.length_nil, List.map_cons, List.map_nil, List.cons_append, List.nil_append, List.replicate_succ, List.replicate_zero,
  if_true, if_false, Bool.false_eq_true, Bool.true_eq_false, Bool.not_true, Bool.not_false, reduceIte, cond_true, cond_false, Bool.false_bne, Bool.true_bne, Bool.and_true, Bool.true_and, Bool.and_false, Bool.false_and, Nat.reduceAdd, Nat.reduceSub, Nat.reduceLeDiff, decide_true, *])
section
variable {α : Type} {f F : α → T} {p : α → Bool} {i : Nat} {te : EC} {tt : List Sl → G Bool} {r : List Sl}
theorem compG_map : ∀ {M : List α}, (∀ x ∈ M, te (r.set i (.fz (f x))) = .ret (F x)) → compG (gcName i) (fun _ => .ret true) te (M.map f) r = .ret (M.map F)
  | [], _ => rfl
  | x :: M, h => by
    have e1 : gcName i (f x) r = .ret (r.set i (.fz (f x))) := rfl
    have ih := compG_map (M := M) fun y hy => h y (List.mem_cons_of_mem _ hy)
    rw [List.map_cons, compG, e1]
    simp only [G.nox, G.ret_bind, if_true, h x (List.mem_cons_self ..), ih, List.map_cons]
theorem compG_filter (hi : i < r.length) : ∀ {M : List α}, (∀ x ∈ M, tt (r.set i (.fz (f x))) = .ret (p x)) → compG (gcName i) tt (cVar i) (M.map f) r = .ret ((M.filter p).map f)
  | [], _ => rfl
  | x :: M, h => by
    have e1 : gcName i (f x) r = .ret (r.set i (.fz (f x))) := rfl
    have e2 : cVar i (r.set i (.fz (f x))) = .ret (f x) := by simp [cVar, hi]
    have ih := compG_filter hi (M := M) fun y hy => h y (List.mem_cons_of_mem _ hy)
    rw [List.map_cons, compG, e1]
    simp only [G.nox, G.ret_bind, h x (List.mem_cons_self ..), e2, ih]
    cases hp : p x <;> simp [List.filter_cons, hp]
end
def memT (M : List En) : T := .tup (M.map En.t)
def aged (r : Ru) (w : Int) (e : En) : List En × List T :=
  bif decide (e.count = 0) then ([e], []) else bif decide (e.age + 1 < w) then ([⟨e.key, e.age + 1, e.count, e.left⟩], []) else bif decide (e.left = 0) then ([], []) else
  bif r.atend then ([], [hAgain e.key e.left]) else bif r.ahead then ([⟨e.key, 0, 0, e.left⟩], []) else ([], [hLost e.key e.left])
def lawAged (r : Ru) (e : En) : List En × List T :=
  match r.window with
  | none => ([e], [])
  | some w => bif decide (e.count = 0) then ([e], []) else bif decide (e.age + 1 < w) then ([⟨e.key, e.age + 1, e.count, e.left⟩], []) else
    bif (bif decide (0 < e.left) then (bif r.atend then false else r.ahead) else false) then ([⟨e.key, 0, 0, e.left⟩], []) else
    bif decide (0 < e.left) then ([], [bif r.atend then hAgain e.key e.left else hLost e.key e.left]) else ([], [])
def tickL (f : En → List En × List T) : List En → List En × List T → List En × List T
  | [], s => s
  | e :: es, s => tickL f es ((f e).1 ++ s.1, s.2 ++ (f e).2)
def tickOf (r : Ru) (M : List En) : List En × List T :=
  match r.window with
  | none => (M, [])
  | some w => tickL (aged r w) M.reverse ([], [])
section
variable {r : Ru} {e : En} {w : Int} {M : List En}
theorem aged_eq (hw : r.window = some w) : runB c_aged 6 [r.t, e.t] = .ret (.tup [.lst ((aged r w e).1.map En.t), .lst (aged r w e).2]) := by
  unfold runB c_aged aged
  cases h1 : decide (e.count = 0)
  case true =>
    walk_at "tf" <;> rfl
  cases h2 : decide (e.age + 1 < w)
  case true =>
    walk_at "tf" <;> rfl
  cases h3 : decide (e.left = 0) <;> cases h4 : r.atend <;> cases h5 : r.ahead
  all_goals walk_at "tf"
  all_goals rfl
theorem aged_len : (aged r w e).1.length ≤ 1 ∧ (aged r w e).2.length ≤ 1 := by
  unfold aged
  cases decide (e.count = 0) <;> cases decide (e.age + 1 < w) <;> cases decide (e.left = 0) <;> cases r.atend <;> cases r.ahead <;> simp
theorem lawAged_len : (lawAged r e).1.length ≤ 1 ∧ (lawAged r e).2.length ≤ 1 := by
  unfold lawAged
  cases r.window
  · simp
  rename_i w
  dsimp only
  cases decide (e.count = 0) <;> cases decide (e.age + 1 < w) <;> cases decide (0 < e.left) <;> cases r.atend <;> cases r.ahead <;> simp
theorem tick_b1 {mt x5 x6 : Sl} {fo hs : List T} (hw : r.window = some w) (h1 : fits (((aged r w e).1.map En.t).length + fo.length) = true) (h2 : fits (hs.length + (aged r w e).2.length) = true) :
    c_tick_of_b1 [.fz r.t, mt, .fz (.lst fo), .ow (.lst hs), .fz e.t, x5, x6] = .ret (.nx [.fz r.t, mt, .fz (.lst ((aged r w e).1.map En.t ++ fo)), .ow (.lst (hs ++ (aged r w e).2)), .fz e.t, .fz (.lst ((aged r w e).1.map En.t)), .fz (.lst (aged r w e).2)]) := by
  have q := aged_eq (e := e) hw
  unfold c_tick_of_b1
  walk_at "tl"
theorem tick_loop {mt : Sl} (hw : r.window = some w) : ∀ (es : List En) (s : List En × List T) (x4 x5 x6 : Sl), s.1.length + es.length ≤ 1000 → s.2.length + es.length ≤ 1000 → ∃ y4 y5 y6,
    forG (gcName 4) c_tick_of_b1 (es.map En.t) [.fz r.t, mt, .fz (.lst (s.1.map En.t)), .ow (.lst s.2), x4, x5, x6] = .ret (.nx [.fz r.t, mt, .fz (.lst ((tickL (aged r w) es s).1.map En.t)), .ow (.lst (tickL (aged r w) es s).2), y4, y5, y6])
  | [], s, x4, x5, x6, _, _ => ⟨x4, x5, x6, rfl⟩
  | e :: es, s, x4, x5, x6, h1, h2 => by
    have l := aged_len (r := r) (w := w) (e := e)
    simp only [List.length_cons] at h1 h2
    obtain ⟨y4, y5, y6, ih⟩ := tick_loop hw es ((aged r w e).1 ++ s.1, s.2 ++ (aged r w e).2) (.fz e.t) (.fz (.lst ((aged r w e).1.map En.t))) (.fz (.lst (aged r w e).2)) (by simp only [List.length_append]; omega) (by simp only [List.length_append]; omega)
    refine ⟨y4, y5, y6, ?_⟩
    have q := tick_b1 (r := r) (w := w) (e := e) (mt := mt) (x5 := x5) (x6 := x6) (fo := s.1.map En.t) (hs := s.2) hw (decide_eq_true (by simp only [List.length_map]; omega)) (decide_eq_true (by omega))
    rw [List.map_append] at ih
    rw [List.map_cons, forG, show gcName 4 e.t [.fz r.t, mt, .fz (.lst (s.1.map En.t)), .ow (.lst s.2), x4, x5, x6] = .ret [.fz r.t, mt, .fz (.lst (s.1.map En.t)), .ow (.lst s.2), .fz e.t, x5, x6] from rfl]
    simp only [G.ret_bind, q]
    exact ih
theorem tickOf_eq (hM : M.length ≤ 500) : runB c_tick_of 7 [r.t, memT M] = .ret (.tup [memT (tickOf r M).1, .lst (tickOf r M).2]) := by
  unfold runB c_tick_of tickOf
  cases hw : r.window with
  | none =>
    walk_at "tl"
  | some w =>
    obtain ⟨y4, y5, y6, q⟩ := tick_loop (r := r) (w := w) (mt := .fz (memT M)) hw M.reverse ([], []) .un .un .un (by simp; omega) (by simp; omega)
    have e1 : (cOp1 fRev (cVar 1)) [.fz r.t, .fz (memT M), .fz (.lst []), .ow (.lst []), .un, .un, .un] >>= anyOf = .ret (M.reverse.map En.t) := by
      rw [List.map_reverse]; rfl
    simp only [List.map_nil] at q
    have q2 : (cFor (fun r => (cOp1 fRev (cVar 1)) r >>= anyOf) (gcName 4) c_tick_of_b1) [.fz r.t, .fz (memT M), .fz (.lst []), .ow (.lst []), .un, .un, .un] = .ret (.nx [.fz r.t, .fz (memT M), .fz (.lst ((tickL (aged r w) M.reverse ([], [])).1.map En.t)), .ow (.lst (tickL (aged r w) M.reverse ([], [])).2), y4, y5, y6]) := by
      show ((cOp1 fRev (cVar 1)) _ >>= anyOf) >>= _ = _
      rw [e1]; exact q
    clear e1 q
    generalize cFor (fun r => (cOp1 fRev (cVar 1)) r >>= anyOf) (gcName 4) c_tick_of_b1 = L at q2 ⊢
    walk_at "tl" <;> rfl
end
theorem tickL_congr {f g : En → List En × List T} : ∀ {es : List En} {s}, (∀ e ∈ es, f e = g e) → tickL f es s = tickL g es s
  | [], _, _ => rfl
  | e :: es, s, h => by
    rw [tickL, tickL, h e (List.mem_cons_self ..)]
    exact tickL_congr fun x hx => h x (List.mem_cons_of_mem _ hx)
theorem tickL_keep {f : En → List En × List T} : ∀ {es : List En} {s}, (∀ e, f e = ([e], [])) → tickL f es s = (es.reverse ++ s.1, s.2)
  | [], _, _ => by simp [tickL]
  | e :: es, s, h => by
    rw [tickL, tickL_keep h, h e]
    simp
/-- the plain law of a tick -/
theorem tick_law {r : Ru} {M : List En} (h : ∀ e ∈ M, 0 ≤ e.left) : tickL (lawAged r) M.reverse ([], []) = tickOf r M := by
  unfold tickOf
  cases hw : r.window with
  | none =>
    rw [tickL_keep (fun e => by unfold lawAged; rw [hw])]
    simp
  | some w =>
    refine tickL_congr fun e he => ?_
    have h0 := h e (List.mem_reverse.mp he)
    unfold lawAged aged
    rw [hw]
    cases decide (e.count = 0) <;> simp only [cond_true, cond_false]
    cases decide (e.age + 1 < w) <;> simp only [cond_true, cond_false]
    have e1 : decide (0 < e.left) = !decide (e.left = 0) := by rw [Bool.eq_iff_iff]; simp; omega
    rw [e1]
    cases decide (e.left = 0) <;> cases r.atend <;> cases r.ahead <;> rfl
end LW
end s_M11d
section s_M11e
set_option Elab.async false
set_option linter.all false
set_option maxRecDepth 100000
set_option maxHeartbeats 4000000
/-! say -/
namespace LW
open PySem PySem.Spec PyProof.Rows L2 TL
theorem seqOf_lst {ts : List T} : seqOf (.lst ts) = .ret ts := rfl
theorem fLen_lst {ts : List T} : fLen [.lst ts] = .ret (.int ts.length) := rfl
theorem oiT_some {i : Int} : oiT (some i) = .int i := rfl
theorem oiT_none : oiT none = .non := rfl
theorem fits1 : fits 1 = true := rfl
theorem fits2 : fits 2 = true := rfl
theorem fits3 : fits 3 = true := rfl
local macro_rules | `(tactic| walk_at "tl") => `(tactic| simp only [cSeq, cSet, cSetO, cVar, cC, cOp1, cOp2, cTup, cLst, caNil, caCons, cCall, cB, asB, cNotT, cAndT, cOrT, cAndV, cOrV, cNotV, cIf, cIfS, cRet, cRetO, cFld, cAsg, cFrz, frzS, cPar, cMany, setR, cMut, cAugI, fII,
  eqInt, eqFull, fl_first, fl_window, fl_renew, fl_nth, fl_ahead, fl_atend, fl_most, fl_full, fl_slots, fl_farewell, md_first, md_window, md_renew, md_nth, md_ahead, md_atend, md_most, md_full, md_slots, md_farewell, ix_key, ix_age, ix_count, ix_left, gc4, gc2, fMax2, fMin2, fAdd, mAppend, mExtend, tyT, fCat, oiT_some, oiT_none, cSl, coNone, coSome, fI1, cTupS, cLstS, caStar, seqOf_lst, fits1, fits2, fits3, cDrop, List.append_nil, fIsN, fNotN, fTuple, fLen_lst, fSubI, fGeI, fEqStr,
  G.ret_bind, G.pure_bind', G.exc_bind, G.stuck_bind, G.pick_bind, List.getElem?_cons_zero, List.getElem?_cons_succ, List.set_cons_zero, List.set_cons_succ, List.length_cons, List.length_nil, List.map_cons, List.map_nil, List.cons_append, List.nil_append, List.replicate_succ, List.replicate_zero,
  if_true, if_false, Bool.false_eq_true, Bool.true_eq_false, Bool.not_true, Bool.not_false, reduceIte, cond_true, cond_false, Bool.false_bne, Bool.true_bne, Bool.and_true, Bool.true_and, Bool.and_false, Bool.false_and, Nat.reduceAdd, Nat.reduceSub, Nat.reduceLeDiff, decide_true, *])
local macro_rules | `(tactic| walk_at "tf") => `(tactic| simp only [cSeq, cSet, cSetO, cVar, cC, cOp1, cOp2, cTup, cLst, caNil, caCons, cCall, cB, asB, cNotT, cAndT, cOrT, cAndV, cOrV, cNotV, cIf, cIfS, cRet, cRetO, cFld, cAsg, cFrz, frzS, cPar, cMany, setR, cMut, cAugI, fII,
  eqInt, eqFull, fl_first, fl_window, fl_renew, fl_nth, fl_ahead, fl_atend, fl_most, fl_full, fl_slots, fl_farewell, md_first, md_window, md_renew, md_nth, md_ahead, md_atend, md_most, md_full, md_slots, md_farewell, ix_key, ix_age, ix_count, ix_left, gc4, gc2, fMax2, fMin2, fAdd, mAppend, mExtend, fits, tyT, fCat, oiT_some, oiT_none, cSl, coNone, coSome, fI1, cTupS, cLstS, caStar, seqOf_lst, fits1, fits2, fits3, cDrop, List.append_nil, fIsN, fNotN, fTuple, fLen_lst, fSubI, fGeI, fEqStr,
  G.ret_bind, G.pure_bind', G.exc_bind, G.stuck_bind, G.pick_bind, List.getElem?_cons_zero, List.getElem?_cons_succ, List.set_cons_zero, List.set_cons_succ, List.length_cons, List.length_nil, List.map_cons, List.map_nil, List.cons_append, List.nil_append, List.replicate_succ, List.replicate_zero,
  if_true, if_false, Bool.false_eq_true, Bool.true_eq_false, Bool.not_true, Bool.not_false, reduceIte, cond_true, cond_false, Bool.false_bne, Bool.true_bne, Bool.and_true, Bool.true_and, Bool.and_false, Bool.false_and, Nat.reduceAdd, Nat.reduceSub, Nat.reduceLeDiff, decide_true, *])
theorem ROs.ofAll {n m : Nat} : ∀ {ts : List T}, (∀ t ∈ ts, ∃ d, RO n m t d) → ∃ ds, ROs n ((m + 2) * ts.length) ts ds
  | [], _ => ⟨[], by simpa using ROs.nil⟩
  | t :: ts, h => by
    obtain ⟨d, g⟩ := h t (List.mem_cons_self ..)
    obtain ⟨ds, gs⟩ := ROs.ofAll fun x hx => h x (List.mem_cons_of_mem _ hx)
    exact ⟨_, (ROs.cons g gs).mono (Nat.le_refl _) (by rw [List.length_cons, Nat.mul_succ]; omega)⟩
theorem neNil {ts : List T} (h : ∀ t ∈ ts, ∃ d, RO 5 200 t d) : fEqB true (.lst ts) (.lst []) = .ret (.bl (!ts.isEmpty)) := by
  obtain ⟨ds, g⟩ := ROs.ofAll h
  rw [RO.eqB true (RO.lst g) (RO.lst (ROs.nil (n := 5))) (by omega) (by omega)]
  cases ts with
  | nil => have e := g.py; simp only [toPys, Option.some.injEq] at e; subst e; rfl
  | cons t ts =>
    obtain ⟨d, ds', k, k', rfl, _⟩ := g.uncons
    rfl
theorem eqOi {o : Option Int} {n : Int} : fEqB false (oiT o) (.int n) = .ret (.bl (decide (o = some n))) := by
  cases o with
  | none => kernel_rfl
  | some i => show fEqB false (.int i) (.int n) = _; rw [eqInt]; simp
theorem cut_last {Mi : List En} {e : En} : fSl (memT (Mi ++ [e])) none (some (-1)) = .ret (memT Mi) := by
  unfold memT
  show G.ret (T.tup (cutT ((Mi ++ [e]).map En.t) none (some (-1)))) = _
  have : cutT ((Mi ++ [e]).map En.t) none (some (-1)) = Mi.map En.t := by
    unfold cutT
    rw [List.map_append, List.length_append]
    show List.take (((-1 : Int) + ((Mi.map En.t).length + 1 : Nat)).toNat - 0) (List.drop 0 _) = _
    rw [show ((-1 : Int) + ((Mi.map En.t).length + 1 : Nat)).toNat - 0 = (Mi.map En.t).length by omega]
    simp
  rw [this]
theorem ix_last {Mi : List En} {e : En} : fIx (memT (Mi ++ [e])) (.int (-1)) = .ret e.t := by
  unfold memT
  rw [List.map_append]
  show (match atI (Mi.map En.t ++ [e.t]) (-1) with | some t => G.ret t | none => .stuck) = _
  rw [atI_last]
theorem ix_first {M : List En} {e : En} : fIx (.lst ((e :: M).map En.t)) (.int 0) = .ret e.t := by
  show (match atI (e.t :: M.map En.t) ((0 : Nat) : Int) with | some t => G.ret t | none => .stuck) = _
  rw [atI_nat (v := e.t) rfl]
def has (k : Str) (e : En) : Bool := decide (e.key = k)
theorem sel {M : List En} {i j k : Nat} {r : List Sl} {key : Str} (neg : Bool) (hj : (r.set i .un)[j]? = some (.fz (memT M)) := by rfl) (hj2 : r[j]? = some (.fz (memT M)) := by rfl) (hk : ∀ s, ((r.set i .un).set i s)[k]? = some (.fz (.str key)) := by intro _; rfl) (hi : i < (r.set i .un).length := by simp) :
    cComp (fun r => (cVar j) r >>= anyOf) (gcName i) (cB (cOp2 (fEqB neg) (cOp2 fIx (cVar i) (cC (.int 0))) (cVar k))) (cVar i) [i] r = .ret (.lst ((M.filter fun e => neg != has key e).map En.t)) := by
  have e1 : cVar j r = .ret (memT M) := by unfold cVar; rw [hj2]
  show (cVar j r >>= anyOf) >>= _ = _
  rw [e1]
  show compG _ _ _ (M.map En.t) (r.set i .un) >>= _ = _
  rw [compG_filter hi (p := fun e => neg != has key e) fun e he => ?_]
  · rfl
  · have e2 : cVar i ((r.set i .un).set i (.fz e.t)) = .ret e.t := by simp [cVar]; rw [List.length_set] at hi; simp [hi]
    have e3 : cVar k ((r.set i .un).set i (.fz e.t)) = .ret (.str key) := by unfold cVar; rw [hk]
    unfold cB cOp2 cC
    simp only [G.ret_bind, e2, e3, ix_key, fEqStr, asB]
    rfl
def full (r : Ru) (M : List En) : Bool := decide (r.slots = some (M.length : Int))
def sayG (ag : En → En × List T) (fg : En → List T) (r : Ru) (M : List En) (k : Str) : List En × List T :=
  match M.filter (has k) with
  | e :: _ => ((ag e).1 :: M.filter (fun e => !has k e), (ag e).2)
  | [] => match (bif full r M then M.getLast? else none) with
    | some g => (⟨k, 0, 1, 0⟩ :: M.dropLast, fg g ++ [hLine k])
    | none => (⟨k, 0, 1, 0⟩ :: M, [hLine k])
def tag (r : Ru) (e : En) : T := bif r.farewell then hAgain e.key e.left else hLost e.key e.left
def fg1 (r : Ru) (e : En) : List T := bif decide (e.left = 0) then [] else [tag r e]
def fg2 (r : Ru) (e : En) : List T := bif decide (0 < e.left) then [tag r e] else []
def sayOf (r : Ru) (M : List En) (k : Str) : List En × List T := sayG (saidAgain r) (fg1 r) r M k
def lawSay (r : Ru) (M : List En) (k : Str) : List En × List T := sayG (lawAgain r) (fg2 r) r M k
section
variable {r : Ru} {e : En} {M Mi : List En} {k : Str}
theorem forgotten_eq : runB c_forgotten 6 [r.t, memT (Mi ++ [e])] = .ret (.tup [memT Mi, .lst (fg1 r e)]) := by
  have q1 := ix_last (Mi := Mi) (e := e)
  have q2 := cut_last (Mi := Mi) (e := e)
  generalize memT (Mi ++ [e]) = L at q1 q2 ⊢
  unfold runB c_forgotten fg1 tag
  cases h1 : decide (e.left = 0) <;> cases h2 : r.farewell
  all_goals walk_at "tl"
  all_goals rfl
theorem entryOf_eq (h : ∀ e ∈ M, ∃ d, RO 1 200 e.t d) : runB c_entry_of 4 [memT M, .str k] = .ret (match M.filter (has k) with | e :: _ => e.t | [] => .non) := by
  have q := sel (M := M) (i := 3) (j := 0) (k := 1) (r := [.fz (memT M), .fz (.str k), .un, .un]) (key := k) false
  simp only [Bool.false_bne] at q
  have hF : ∀ t ∈ (M.filter (has k)).map En.t, ∃ d, RO 5 200 t d := by
    intro t ht
    obtain ⟨e, he, rfl⟩ := List.mem_map.mp ht
    obtain ⟨d, g⟩ := h e (List.mem_filter.mp he).1
    exact ⟨d, g.mono (by omega) (by omega)⟩
  have qn := neNil hF
  unfold runB c_entry_of
  generalize cComp (fun r => (cVar 0) r >>= anyOf) (gcName 3) (cB (cOp2 (fEqB false) (cOp2 fIx (cVar 3) (cC (.int 0))) (cVar 1))) (cVar 3) [3] = L at q ⊢
  cases hl : M.filter (has k) with
  | nil =>
    rw [hl] at q qn
    simp only [List.map_nil, List.isEmpty_nil] at q qn
    unfold cSeqFrz
    walk_at "tl"
  | cons e l =>
    rw [hl] at q qn
    have qi := ix_first (M := l) (e := e)
    have hne : ((e :: l).map En.t).isEmpty = false := rfl
    rw [hne] at qn
    generalize (e :: l).map En.t = ls at q qn qi
    unfold cSeqFrz
    walk_at "tl"
theorem sayOf_eq (hr : r.ok) (hM : M.length ≤ 500) (h : ∀ e ∈ M, ∃ d, RO 1 200 e.t d) : runB c_say_of 7 [r.t, memT M, .str k] = .ret (.tup [memT (sayOf r M k).1, .lst (sayOf r M k).2]) := by
  have q := entryOf_eq (k := k) h
  unfold runB c_say_of sayOf sayG
  cases hl : M.filter (has k) with
  | cons e l =>
    rw [hl] at q
    have q2 := saidAgain_eq (r := r) (e := e)
    have q3 := sel (M := M) (i := 6) (j := 1) (k := 2) (r := [.fz r.t, .fz (memT M), .fz (.str k), .fz e.t, .fz (saidAgain r e).1.t, .fz (.lst (saidAgain r e).2), .un]) (key := k) true
    simp only [Bool.true_bne] at q3
    have hf : fits (((M.filter fun e => !has k e).map En.t).length + 1) = true := decide_eq_true (by rw [List.length_map]; have := List.length_filter_le (fun e => !has k e) M; omega)
    have hn : fNotN e.t = .ret (.bl true) := rfl
    generalize cComp (fun r => (cVar 1) r >>= anyOf) (gcName 6) (cB (cOp2 fNe (cOp2 fIx (cVar 6) (cC (.int 0))) (cVar 2))) (cVar 6) [6] = L at q3 ⊢
    simp only [] at q
    walk_at "tl" <;> rfl
  | nil =>
    rw [hl] at q
    simp only [] at q
    have hlen : fLen [memT M] = .ret (.int M.length) := by
      unfold memT
      show G.ret (T.int (M.map En.t).length) = _
      rw [List.length_map]
    have hsq : seqOf (memT M) = .ret (M.map En.t) := rfl
    have hfi : fits ((M.map En.t).length + 1) = true := decide_eq_true (by rw [List.length_map]; omega)
    cases hs : r.slots with
    | none =>
      have hfu : full r M = false := by unfold full; rw [hs]; rfl
      rw [hfu]
      walk_at "tl" <;> rfl
    | some s =>
      cases hd : decide ((M.length : Int) = s)
      case false =>
        have hfu : full r M = false := by
          unfold full; rw [hs]
          simp only [decide_eq_false_iff_not, Option.some.injEq] at hd ⊢
          exact fun e => hd e.symm
        rw [hfu]
        walk_at "tl" <;> rfl
      case true =>
        have hfu : full r M = true := by
          unfold full; rw [hs]
          simp only [decide_eq_true_eq, Option.some.injEq] at hd ⊢
          exact hd.symm
        rw [hfu]
        have hne : M ≠ [] := by
          rintro rfl
          have := (hr.s _ hs).1
          simp at hd; omega
        have eM := (List.dropLast_concat_getLast hne).symm
        have hg : M.getLast? = some (M.getLast hne) := List.getLast?_eq_some_getLast hne
        have q2 := forgotten_eq (r := r) (Mi := M.dropLast) (e := M.getLast hne)
        rw [← eM] at q2
        have hsq2 : seqOf (memT M.dropLast) = .ret (M.dropLast.map En.t) := rfl
        have hfi2 : fits ((M.dropLast.map En.t).length + 1) = true := decide_eq_true (by rw [List.length_map, List.length_dropLast]; omega)
        have hfi3 : ∀ l : List T, fits ((fg1 r (M.getLast hne) ++ [T.tup [.str "line", .str k]]).length) = true := by
          intro _
          unfold fg1
          cases decide ((M.getLast hne).left = 0) <;> rfl
        have hfi3 := hfi3 []
        rw [hg]
        clear eM
        clear hsq
        walk_at "tl" <;> rfl
end
/-- the plain law of a saying -/
theorem say_law {r : Ru} {M : List En} {k : Str} (hr : r.ok) (h : ∀ e ∈ M, e.ok r) : lawSay r M k = sayOf r M k := by
  unfold lawSay sayOf sayG
  cases hl : M.filter (has k) with
  | cons e l =>
    have he : e ∈ M := (List.mem_filter.mp (by rw [hl]; exact List.mem_cons_self ..)).1
    simp only [again_law hr (h e he)]
  | nil =>
    simp only []
    cases hf : (bif full r M then M.getLast? else none) with
    | none => rfl
    | some g =>
      have hg : g ∈ M := by
        cases hfu : full r M <;> rw [hfu] at hf <;> simp only [cond_true, cond_false, reduceCtorEq] at hf
        exact List.mem_of_getLast? hf
      have h0 := (h g hg).l.1
      have e1 : decide (0 < g.left) = !decide (g.left = 0) := by rw [Bool.eq_iff_iff]; simp; omega
      have e2 : fg2 r g = fg1 r g := by
        unfold fg1 fg2
        rw [e1]
        cases decide (g.left = 0) <;> rfl
      simp only [e2]
end LW
end s_M11e
section s_M11f
set_option Elab.async false
set_option linter.all false
set_option maxRecDepth 100000
set_option maxHeartbeats 4000000
/-! what stays an entry, what stays a memory -/
namespace LW
open PySem PySem.Spec PyProof.Rows L2 TL
theorem filter_not {α : Type} (p : α → Bool) : ∀ l : List α, (l.filter p).length + (l.filter fun x => !p x).length = l.length
  | [] => rfl
  | x :: l => by
    have ih := filter_not p l
    cases h : p x <;> simp [List.filter_cons, h] <;> omega
structure KeyOk (k : Str) : Prop where
  n : 1 ≤ k.length ∧ k.length ≤ 6
  ks : ∀ c ∈ k.cps.toList, c ∈ ("abcdefghijklmnopqrstuvwxyz" : Str).cps.toList
/-- the numbers of an entry -/
structure Nok (r : Ru) (age count left : Int) : Prop where
  a : 0 ≤ age ∧ (match r.window with | none => age = 0 | some w => age ≤ w - 1)
  c : 0 ≤ count ∧ count ≤ r.last
  l : 0 ≤ left ∧ left ≤ (if r.tell then r.most - 1 else r.most)
  n : r.nth = 1 → left ≤ 0
  z : count = 0 → r.close = true ∧ age = 0 ∧ 0 < left
  f : count ≠ 0 → r.first ≤ count ∨ left = 0
theorem En.ok.key {r : Ru} {e : En} (h : e.ok r) : KeyOk e.key := ⟨h.k, h.ks⟩
theorem En.ok.nok {r : Ru} {e : En} (h : e.ok r) : Nok r e.age e.count e.left := ⟨h.a, h.c, h.l, h.n, h.z, h.f⟩
theorem En.ok.mk' {r : Ru} {e : En} (k : KeyOk e.key) (h : Nok r e.age e.count e.left) : e.ok r := ⟨k.n, k.ks, h.a, h.c, h.l, h.n, h.z, h.f⟩
section
variable {r : Ru} {e : En} {k : Str}
theorem last_ge (hr : r.ok) : r.first ≤ r.last ∧ 1 ≤ r.last ∧ r.last ≤ 3 ∧ (r.nth = 0 → r.last = r.first) ∧ (r.nth = 1 → r.last = r.first) := by
  unfold Ru.last
  have f := hr.f; have n := hr.n
  refine ⟨?_, ?_, ?_, ?_, ?_⟩ <;> (try intro _) <;> split <;> omega
theorem nok_new (hr : r.ok) : Nok r 0 1 0 := by
  have l := last_ge hr; have m := hr.m
  refine ⟨⟨by omega, ?_⟩, by omega, ⟨by omega, by split <;> omega⟩, fun _ => by omega, fun h => by omega, fun _ => .inr rfl⟩
  cases hw : r.window with
  | none => rfl
  | some w => have := (hr.w w hw).1; simp only []; omega
theorem nok_age (hr : r.ok) {a c l : Int} (h : Nok r a c l) : Nok r 0 c l := by
  refine ⟨⟨by omega, ?_⟩, h.c, h.l, h.n, fun q => ⟨(h.z q).1, rfl, (h.z q).2.2⟩, h.f⟩
  cases hw : r.window with
  | none => rfl
  | some w => have := (hr.w w hw).1; simp only []; omega
theorem nok_count {a c l c' l' : Int} (h : Nok r a c l) (hc : 1 ≤ c' ∧ c' ≤ r.last) (hl : 0 ≤ l' ∧ l' ≤ (if r.tell then r.most - 1 else r.most)) (hn : r.nth = 1 → l' ≤ 0) (hf : r.first ≤ c' ∨ l' = 0) : Nok r a c' l' :=
  ⟨h.a, by omega, hl, hn, fun q => by omega, fun _ => hf⟩
theorem saidAgain_nok (hr : r.ok) (h : Nok r e.age e.count e.left) : Nok r (saidAgain r e).1.age (saidAgain r e).1.count (saidAgain r e).1.left := by
  have l := last_ge hr
  have key : e.count ≠ 0 → Nok r (outOr r e).1.age (outOr r e).1.count (outOr r e).1.left := fun h0 => by
    have hc := h.c; have hl := h.l; have hf := h.f h0; have m := hr.m; have f := hr.f; have n := h.n; have hn := hr.n
    unfold outOr
    cases ho : isOut r e <;> simp only [cond_true, cond_false]
    · refine nok_count (c := e.count) (l := e.left) h ?_ ?_ ?_ ?_
      · unfold written
        cases hd : decide (e.count < r.first) <;> simp only [cond_true, cond_false, decide_eq_true_eq, decide_eq_false_iff_not] at hd ⊢ <;> omega
      · unfold written
        cases hd : (bif decide (0 < e.left) then r.ahead else false) <;> simp only [cond_true, cond_false]
        · exact hl
        · exact ⟨by omega, by omega⟩
      · unfold written
        intro q
        cases hd : (bif decide (0 < e.left) then r.ahead else false) <;> simp only [cond_true, cond_false]
        · exact n q
        · omega
      · unfold written
        cases hd : decide (e.count < r.first) <;> cases hd2 : (bif decide (0 < e.left) then r.ahead else false) <;> simp only [cond_true, cond_false, decide_eq_true_eq, decide_eq_false_iff_not] at hd ⊢ <;> omega
    · unfold isOut at ho
      cases hd : decide (e.count < r.first) <;> rw [hd] at ho <;> simp only [cond_true, cond_false, decide_eq_true_eq, decide_eq_false_iff_not, reduceCtorEq, Bool.false_eq_true] at hd ho
      have ho2 : r.nth = 0 ∨ e.count < r.last := by
        cases hd2 : decide (r.nth = 0) <;> rw [hd2] at ho <;> simp only [cond_true, cond_false, decide_eq_true_eq, decide_eq_false_iff_not] at hd2 ho
        · exact .inr ho
        · exact .inl hd2
      have hn1 : r.nth ≠ 1 := fun q => by have := l.2.2.2.2 q; omega
      refine nok_count (c := e.count) (l := e.left) h ?_ ?_ (fun q => absurd q hn1) (.inl ?_)
      · unfold leftOut
        cases hd2 : decide (r.nth = 0) <;> simp only [cond_true, cond_false, decide_eq_true_eq, decide_eq_false_iff_not] at hd2 ⊢ <;> omega
      · unfold leftOut
        cases ht : r.tell <;> cases h1 : decide (e.left = r.most) <;> simp only [ht, cond_true, cond_false, decide_eq_true_eq, decide_eq_false_iff_not, if_true, if_false, Bool.false_eq_true] at h1 hl ⊢
        · cases h2 : decide (e.left + 1 = r.most) <;> simp only [cond_true, cond_false] <;> omega
        · cases h2 : decide (e.left = r.most) <;> simp only [cond_true, cond_false] <;> omega
        · cases h2 : decide (e.left + 1 = r.most) <;> simp only [cond_true, cond_false, decide_eq_true_eq, decide_eq_false_iff_not] at h2 ⊢ <;> omega
        · cases h2 : decide (e.left = r.most) <;> simp only [cond_true, cond_false, decide_eq_true_eq, decide_eq_false_iff_not] at h2 ⊢ <;> omega
      · unfold leftOut
        cases hd2 : decide (r.nth = 0) <;> simp only [cond_true, cond_false, decide_eq_true_eq, decide_eq_false_iff_not] at hd2 ⊢ <;> omega
  unfold saidAgain
  cases h0 : decide (e.count = 0) <;> simp only [cond_true, cond_false, decide_eq_true_eq, decide_eq_false_iff_not] at h0 ⊢
  · have q := key h0
    cases r.renew <;> simp only [cond_true, cond_false]
    · exact q
    · exact nok_age hr q
  · exact nok_new hr
theorem saidAgain_key : (saidAgain r e).1.key = e.key := by unfold saidAgain; cases decide (e.count = 0) <;> rfl
theorem aged_ok {w : Int} (hr : r.ok) (hw : r.window = some w) (h : e.ok r) : ∀ x ∈ (aged r w e).1, x.ok r ∧ x.key = e.key := by
  intro x hx
  unfold aged at hx
  cases h1 : decide (e.count = 0) <;> rw [h1] at hx <;> simp only [cond_true, cond_false, decide_eq_true_eq, decide_eq_false_iff_not] at h1 hx
  · cases h2 : decide (e.age + 1 < w) <;> rw [h2] at hx <;> simp only [cond_true, cond_false, decide_eq_true_eq, decide_eq_false_iff_not] at h2 hx
    · cases h3 : decide (e.left = 0) <;> rw [h3] at hx <;> simp only [cond_true, cond_false, decide_eq_true_eq, decide_eq_false_iff_not] at h3 hx
      · cases h4 : r.atend <;> rw [h4] at hx <;> simp only [cond_true, cond_false] at hx
        · cases h5 : r.ahead <;> rw [h5] at hx <;> simp only [cond_true, cond_false] at hx
          · cases hx
          · obtain rfl := List.mem_singleton.mp hx
            refine ⟨.mk' h.key ⟨⟨by simp only []; omega, by rw [hw]; have := (hr.w w hw).1; simp only []; omega⟩, ⟨by simp only []; omega, by simp only []; have := last_ge hr; omega⟩, h.l, h.n, fun _ => ⟨?_, rfl, by have := h.l; simp only []; omega⟩, fun q => absurd rfl q⟩, rfl⟩
            unfold Ru.close
            rw [hw, h4, h5]; rfl
        · cases hx
      · cases hx
    · obtain rfl := List.mem_singleton.mp hx
      refine ⟨.mk' h.key ⟨⟨by have := h.a; simp only []; omega, by rw [hw]; simp only []; omega⟩, h.c, h.l, h.n, fun q => absurd q h1, h.f⟩, rfl⟩
  · obtain rfl := List.mem_singleton.mp hx
    exact ⟨h, rfl⟩
end
structure Mok (r : Ru) (M : List En) : Prop where
  e : ∀ e ∈ M, e.ok r
  d : (M.map En.key).Nodup
  l : M.length ≤ 20
  s : ∀ s, r.slots = some s → (M.length : Int) ≤ s
section
variable {r : Ru} {M : List En} {k : Str}
theorem sayOf_ok (hr : r.ok) (h : Mok r M) (hk : KeyOk k) (hl : M.length ≤ 19) : Mok r (sayOf r M k).1 := by
  have h1 := h.l
  unfold sayOf sayG
  cases hf : M.filter (has k) with
  | cons e l =>
    have he := List.mem_filter.mp (show e ∈ M.filter (has k) by rw [hf]; exact List.mem_cons_self ..)
    have hek : e.key = k := by simpa [has] using he.2
    have hlen : (M.filter (has k)).length + (M.filter fun e => !has k e).length = M.length := filter_not _ M
    rw [hf, List.length_cons] at hlen
    refine ⟨fun x hx => ?_, ?_, by simp only [List.length_cons]; omega, fun s hs => ?_⟩
    · rcases List.mem_cons.mp hx with rfl | hx
      · exact .mk' (by rw [saidAgain_key]; exact (h.e e he.1).key) (saidAgain_nok hr (h.e e he.1).nok)
      · exact h.e x (List.mem_filter.mp hx).1
    · rw [List.map_cons, saidAgain_key, List.nodup_cons]
      refine ⟨fun hm => ?_, h.d.sublist (List.filter_sublist.map _)⟩
      obtain ⟨x, hx, ex⟩ := List.mem_map.mp hm
      have := (List.mem_filter.mp hx).2
      simp [has, ex, hek] at this
    · have := h.s s hs
      simp only [List.length_cons]; omega
  | nil =>
    have hnk : ∀ x ∈ M, x.key ≠ k := fun x hx e => by
      have := List.filter_eq_nil_iff.mp hf x hx
      simp [has, e] at this
    have hnew : (⟨k, 0, 1, 0⟩ : En).ok r := .mk' hk (nok_new hr)
    simp only []
    cases hg : (bif full r M then M.getLast? else none) with
    | none =>
      refine ⟨fun x hx => ?_, ?_, by simp only [List.length_cons]; omega, fun s hs => ?_⟩
      · rcases List.mem_cons.mp hx with rfl | hx
        · exact hnew
        · exact h.e x hx
      · rw [List.map_cons, List.nodup_cons]
        refine ⟨fun hm => ?_, h.d⟩
        obtain ⟨x, hx, ex⟩ := List.mem_map.mp hm
        exact hnk x hx ex
      · have h2 := h.s s hs
        cases hfu : full r M <;> rw [hfu] at hg <;> simp only [cond_true, cond_false] at hg
        · unfold full at hfu
          rw [hs] at hfu
          simp only [decide_eq_false_iff_not, Option.some.injEq] at hfu
          simp only [List.length_cons]; omega
        · have := List.getLast?_eq_none_iff.mp hg
          subst this
          have := (hr.s s hs).1
          simp; omega
    | some g =>
      refine ⟨fun x hx => ?_, ?_, by simp only [List.length_cons, List.length_dropLast]; omega, fun s hs => ?_⟩
      · rcases List.mem_cons.mp hx with rfl | hx
        · exact hnew
        · exact h.e x (List.dropLast_subset _ hx)
      · rw [List.map_cons, List.nodup_cons]
        refine ⟨fun hm => ?_, h.d.sublist ((List.dropLast_sublist _).map _)⟩
        obtain ⟨x, hx, ex⟩ := List.mem_map.mp hm
        exact hnk x (List.dropLast_subset _ hx) ex
      · have h2 := h.s s hs
        have h3 := (hr.s s hs).1
        simp only [List.length_cons, List.length_dropLast]; omega
/-- a tick keeps the entries' order and keys -/
theorem tickL_ok {w : Int} (hr : r.ok) (hw : r.window = some w) : ∀ (es : List En) (s : List En × List T), (∀ e ∈ es, e.ok r) → (∀ e ∈ s.1, e.ok r) →
    (∀ x ∈ (tickL (aged r w) es s).1, x.ok r) ∧ ∃ zs, List.Sublist zs (es.map En.key).reverse ∧ (tickL (aged r w) es s).1.map En.key = zs ++ s.1.map En.key
  | [], s, _, h => ⟨h, [], List.Sublist.refl _, rfl⟩
  | e :: es, s, h1, h2 => by
    have ha := fun x hx => aged_ok (e := e) hr hw (h1 e (List.mem_cons_self ..)) x hx
    obtain ⟨q1, zs, q2, q3⟩ := tickL_ok hr hw es ((aged r w e).1 ++ s.1, s.2 ++ (aged r w e).2) (fun x hx => h1 x (List.mem_cons_of_mem _ hx)) (fun x hx => by
      rcases List.mem_append.mp hx with hx | hx
      · exact (ha x hx).1
      · exact h2 x hx)
    refine ⟨q1, zs ++ (aged r w e).1.map En.key, ?_, ?_⟩
    · rw [List.map_cons, List.reverse_cons]
      refine q2.append ?_
      have l := (aged_len (r := r) (w := w) (e := e)).1
      match hm : (aged r w e).1, l, ha with
      | [], _, _ => exact List.nil_sublist _
      | [x], _, ha => rw [List.map_cons, List.map_nil, (ha x (List.mem_singleton.mpr rfl)).2]; exact List.Sublist.refl _
      | _ :: _ :: _, l, _ => simp at l
    · show (tickL (aged r w) es ((aged r w e).1 ++ s.1, s.2 ++ (aged r w e).2)).1.map En.key = _
      rw [q3, List.map_append, List.append_assoc]
theorem tickOf_ok (hr : r.ok) (h : Mok r M) : Mok r (tickOf r M).1 := by
  unfold tickOf
  cases hw : r.window with
  | none => exact h
  | some w =>
    show Mok r (tickL (aged r w) M.reverse ([], [])).1
    obtain ⟨q1, zs, q2, q3⟩ := tickL_ok hr hw M.reverse ([], []) (fun e he => h.e e (List.mem_reverse.mp he)) (fun e he => by cases he)
    rw [List.map_reverse, List.reverse_reverse] at q2
    simp only [List.map_nil, List.append_nil] at q3
    have hl : (tickL (aged r w) M.reverse ([], [])).1.length ≤ M.length := by
      have := q2.length_le
      rw [← q3, List.length_map, List.length_map] at this
      exact this
    refine ⟨q1, by rw [q3]; exact h.d.sublist q2, by have := h.l; omega, fun s hs => by have := h.s s hs; omega⟩
end
end LW
end s_M11f
section s_M11g
set_option Elab.async false
set_option linter.all false
set_option maxRecDepth 100000
set_option maxHeartbeats 4000000
/-! is_key, is_entry, is_memory; say, tick; their reprs -/
namespace LW
open PySem PySem.Spec PyProof.Rows L2 TL
theorem inLetters : ∀ c ∈ ("abcdefghijklmnopqrstuvwxyz" : Str).cps.toList, fInB false (.str ⟨#[c]⟩) (.str "abcdefghijklmnopqrstuvwxyz") = .ret (.bl true) := by
  have h : ∀ c ∈ ("abcdefghijklmnopqrstuvwxyz" : Str).cps.toList, (false != !(Builtin.Str.occurrences ("abcdefghijklmnopqrstuvwxyz" : Str) ⟨#[c]⟩ 0 ("abcdefghijklmnopqrstuvwxyz" : Str).length 1).isEmpty) = true := by decide +kernel
  intro c hc
  show G.ret (T.bl _) = _
  rw [h c hc]
theorem all_true {α : Type} : ∀ l : List α, fAll [.lst (l.map fun _ => .bl true)] = .ret (.bl true) := by
  intro l
  have h : ∀ l : List α, bls (l.map fun _ => .bl true) = some (l.map fun _ => true) := by
    intro l
    induction l with
    | nil => rfl
    | cons x l ih => rw [List.map_cons, bls, ih]; rfl
  show (match bls (l.map fun _ => .bl true) with | some bs => G.ret (T.bl (bs.all id)) | none => .stuck) = _
  rw [h]
  simp
theorem andV_eq {ca cb : EC} {r : List Sl} {b : Bool} (h : ca r = .ret (.bl true)) (h2 : cb r = .ret (.bl b)) : cAndV ca cb r = .ret (.bl b) := by unfold cAndV; rw [h]; exact h2
theorem isKey_eq {k : Str} (h : KeyOk k) : runB c_is_key 2 [.str k] = .ret (.bl true) := by
  unfold c_is_key
  refine runB_eq (ret_eq (andV_eq rfl (andV_eq ?_ ?_)))
  · have hf : fLen [.str k] = .ret (.int k.length) := by
      show (if fits k.length then G.ret (T.int k.length) else .stuck) = _
      rw [if_pos (show fits k.length = true from decide_eq_true (by have := h.n; omega))]
    unfold cChain cCall caCons caNil cVar cC
    simp only [G.ret_bind, List.map_cons, List.map_nil, List.cons_append, List.nil_append, List.getElem?_cons_zero, hf]
    rw [if_pos (decide_eq_true (by have := h.n; omega))]
    rw [decide_eq_true (show ((k.length : Int) ≤ 6) by have := h.n; omega)]
  · refine (call_eq (ts := [.lst ((k.cps.toList.map fun c => (.str ⟨#[c]⟩ : T)).map fun _ => .bl true)]) (cons_eq ?_ rfl)).trans (all_true _)
    unfold cComp
    have e1 : cVar 0 ([T.str k].map Sl.fz ++ List.replicate (2 - [T.str k].length) Sl.un) = .ret (.str k) := rfl
    have e2 : anyOf (.str k) = .ret (chars k) := by
      show (if fits k.cps.size then G.ret (chars k) else .stuck) = _
      rw [if_pos (show fits k.cps.size = true from decide_eq_true (by have := h.n.2; have e : k.length = k.cps.size := rfl; omega))]
    show (cVar 0 _ >>= anyOf) >>= _ = _
    rw [e1]
    simp only [G.ret_bind, e2]
    unfold chars
    rw [compG_map (F := fun _ => T.bl true) fun c hc => ?_]
    · simp
    · have e3 := inLetters c (h.ks c hc)
      refine (op2_eq (t := .str ⟨#[c]⟩) (u := .str "abcdefghijklmnopqrstuvwxyz") ?_ rfl).trans e3
      rfl
local macro_rules | `(tactic| walk_at "tl") => `(tactic| simp only [cSeq, cSet, cSetO, cVar, cC, cOp1, cOp2, cTup, cLst, caNil, caCons, cCall, cB, asB, cNotT, cAndT, cOrT, cAndV, cOrV, cNotV, cIf, cIfS, cRet, cRetO, cFld, cAsg, cFrz, frzS, cPar, cMany, setR, cMut, cAugI, fII,
  eqInt, eqFull, fl_first, fl_window, fl_renew, fl_nth, fl_ahead, fl_atend, fl_most, fl_full, fl_slots, fl_farewell, md_first, md_window, md_renew, md_nth, md_ahead, md_atend, md_most, md_full, md_slots, md_farewell, ix_key, ix_age, ix_count, ix_left, gc4, gc2, fMax2, fMin2, fAdd, mAppend, mExtend, tyT, fCat, oiT_some, oiT_none, cSl, coNone, coSome, fI1, cTupS, cLstS, caStar, seqOf_lst, fits1, fits2, fits3, cDrop, fGeI, List.append_nil, fIsN, fNotN, fTuple, fLen_lst, fSubI, fGeI, fEqStr,
  G.ret_bind, G.pure_bind', G.exc_bind, G.stuck_bind, G.pick_bind, List.getElem?_cons_zero, List.getElem?_cons_succ, List.set_cons_zero, List.set_cons_succ, List.length_cons, List.length_nil, List.map_cons, List.map_nil, List.cons_append, List.nil_append, List.replicate_succ, List.replicate_zero,
  if_true, if_false, Bool.false_eq_true, Bool.true_eq_false, Bool.not_true, Bool.not_false, reduceIte, cond_true, cond_false, Bool.false_bne, Bool.true_bne, Bool.and_true, Bool.true_and, Bool.and_false, Bool.false_and, Nat.reduceAdd, Nat.reduceSub, Nat.reduceLeDiff, decide_true, *])
local macro_rules | `(tactic| walk_at "tf") => `(tactic| simp only [cSeq, cSet, cSetO, cVar, cC, cOp1, cOp2, cTup, cLst, caNil, caCons, cCall, cB, asB, cNotT, cAndT, cOrT, cAndV, cOrV, cNotV, cIf, cIfS, cRet, cRetO, cFld, cAsg, cFrz, frzS, cPar, cMany, setR, cMut, cAugI, fII,
  eqInt, eqFull, fl_first, fl_window, fl_renew, fl_nth, fl_ahead, fl_atend, fl_most, fl_full, fl_slots, fl_farewell, md_first, md_window, md_renew, md_nth, md_ahead, md_atend, md_most, md_full, md_slots, md_farewell, ix_key, ix_age, ix_count, ix_left, gc4, gc2, fMax2, fMin2, fAdd, mAppend, mExtend, fits, tyT, fCat, oiT_some, oiT_none, cSl, coNone, coSome, fI1, cTupS, cLstS, caStar, seqOf_lst, fits1, fits2, fits3, cDrop, fGeI, List.append_nil, fIsN, fNotN, fTuple, fLen_lst, fSubI, fGeI, fEqStr,
  G.ret_bind, G.pure_bind', G.exc_bind, G.stuck_bind, G.pick_bind, List.getElem?_cons_zero, List.getElem?_cons_succ, List.set_cons_zero, List.set_cons_succ, List.length_cons, List.length_nil, List.map_cons, List.map_nil, List.cons_append, List.nil_append, List.replicate_succ, List.replicate_zero,
  if_true, if_false, Bool.false_eq_true, Bool.true_eq_false, Bool.not_true, Bool.not_false, reduceIte, cond_true, cond_false, Bool.false_bne, Bool.true_bne, Bool.and_true, Bool.true_and, Bool.and_false, Bool.false_and, Nat.reduceAdd, Nat.reduceSub, Nat.reduceLeDiff, decide_true, *])
section
variable {r : Ru} {e : En} {M : List En} {k : Str}
end
end LW
end s_M11g
section s_M11h
set_option Elab.async false
set_option linter.all false
set_option maxRecDepth 100000
set_option maxHeartbeats 4000000
/-! is_memory; say, tick; their reprs -/
namespace LW
open PySem PySem.Spec PyProof.Rows L2 TL
local macro_rules | `(tactic| walk_at "tl") => `(tactic| simp only [cSeq, cSet, cSetO, cVar, cC, cOp1, cOp2, cTup, cLst, caNil, caCons, cCall, cB, asB, cNotT, cAndT, cOrT, cAndV, cOrV, cNotV, cIf, cIfS, cRet, cRetO, cFld, cAsg, cFrz, frzS, cPar, cMany, setR, cMut, cAugI, fII,
  eqInt, eqFull, fl_first, fl_window, fl_renew, fl_nth, fl_ahead, fl_atend, fl_most, fl_full, fl_slots, fl_farewell, md_first, md_window, md_renew, md_nth, md_ahead, md_atend, md_most, md_full, md_slots, md_farewell, ix_key, ix_age, ix_count, ix_left, gc4, gc2, fMax2, fMin2, fAdd, mAppend, mExtend, tyT, fCat, oiT_some, oiT_none, cSl, coNone, coSome, fI1, cTupS, cLstS, caStar, seqOf_lst, fits1, fits2, fits3, cDrop, numIn, fGeI, List.append_nil, fIsN, fNotN, fTuple, fLen_lst, fSubI, fGeI, fEqStr,
  G.ret_bind, G.pure_bind', G.exc_bind, G.stuck_bind, G.pick_bind, List.getElem?_cons_zero, List.getElem?_cons_succ, List.set_cons_zero, List.set_cons_succ, List.length_cons, List.length_nil, List.map_cons, List.map_nil, List.cons_append, List.nil_append, List.replicate_succ, List.replicate_zero,
  if_true, if_false, Bool.false_eq_true, Bool.true_eq_false, Bool.not_true, Bool.not_false, reduceIte, cond_true, cond_false, Bool.false_bne, Bool.true_bne, Bool.and_true, Bool.true_and, Bool.and_false, Bool.false_and, Nat.reduceAdd, Nat.reduceSub, Nat.reduceLeDiff, decide_true, *])
local macro_rules | `(tactic| walk_at "tf") => `(tactic| simp only [cSeq, cSet, cSetO, cVar, cC, cOp1, cOp2, cTup, cLst, caNil, caCons, cCall, cB, asB, cNotT, cAndT, cOrT, cAndV, cOrV, cNotV, cIf, cIfS, cRet, cRetO, cFld, cAsg, cFrz, frzS, cPar, cMany, setR, cMut, cAugI, fII,
  eqInt, eqFull, fl_first, fl_window, fl_renew, fl_nth, fl_ahead, fl_atend, fl_most, fl_full, fl_slots, fl_farewell, md_first, md_window, md_renew, md_nth, md_ahead, md_atend, md_most, md_full, md_slots, md_farewell, ix_key, ix_age, ix_count, ix_left, gc4, gc2, fMax2, fMin2, fAdd, mAppend, mExtend, fits, tyT, fCat, oiT_some, oiT_none, cSl, coNone, coSome, fI1, cTupS, cLstS, caStar, seqOf_lst, fits1, fits2, fits3, cDrop, numIn, fGeI, List.append_nil, fIsN, fNotN, fTuple, fLen_lst, fSubI, fGeI, fEqStr,
  G.ret_bind, G.pure_bind', G.exc_bind, G.stuck_bind, G.pick_bind, List.getElem?_cons_zero, List.getElem?_cons_succ, List.set_cons_zero, List.set_cons_succ, List.length_cons, List.length_nil, List.map_cons, List.map_nil, List.cons_append, List.nil_append, List.replicate_succ, List.replicate_zero,
  if_true, if_false, Bool.false_eq_true, Bool.true_eq_false, Bool.not_true, Bool.not_false, reduceIte, cond_true, cond_false, Bool.false_bne, Bool.true_bne, Bool.and_true, Bool.true_and, Bool.and_false, Bool.false_and, Nat.reduceAdd, Nat.reduceSub, Nat.reduceLeDiff, decide_true, *])
def kv (e : En) : T × T := (.str e.key, .bl true)
theorem put_new {A : List En} {e : En} (h : e.key ∉ A.map En.key) : putT (A.map kv) (.str e.key) (.bl true) = (A ++ [e]).map kv := by
  have : ((A.map kv).any fun p => decide (keyT p.1 = keyT (.str e.key))) = false := by
    rw [List.any_eq_false]
    intro p hp
    obtain ⟨x, hx, rfl⟩ := List.mem_map.mp hp
    simp only [decide_eq_true_eq]
    intro q
    have q2 : x.key = e.key := by
      have q3 : (some (Sum.inr x.key) : Option Key) = some (Sum.inr e.key) := q
      exact Sum.inr.inj (Option.some.inj q3)
    exact h (List.mem_map.mpr ⟨x, hx, q2⟩)
  unfold putT
  rw [this]
  simp [kv]
theorem dcomp_keys {tk tv : EC} {i : Nat} {r : List Sl} : ∀ (M A : List En), ((A ++ M).map En.key).Nodup → (∀ e ∈ M, tk (r.set i (.fz e.t)) = .ret (.str e.key)) → (∀ e ∈ M, tv (r.set i (.fz e.t)) = .ret (.bl true)) →
    dcompG (gcName i) (fun _ => .ret true) tk tv (M.map En.t) r (A.map kv) = .ret ((A ++ M).map kv)
  | [], A, _, _, _ => by rw [List.append_nil]; rfl
  | e :: M, A, hd, h1, h2 => by
    have e1 : gcName i e.t r = .ret (r.set i (.fz e.t)) := rfl
    have hn : e.key ∉ A.map En.key := by
      rw [List.map_append, List.map_cons] at hd
      intro hm
      exact (List.nodup_append.mp hd).2.2 _ hm _ (List.mem_cons_self ..) rfl
    have ih := dcomp_keys M (A ++ [e]) (by rw [List.append_assoc]; exact hd) (fun x hx => h1 x (List.mem_cons_of_mem _ hx)) (fun x hx => h2 x (List.mem_cons_of_mem _ hx))
    rw [List.map_cons, dcompG, e1]
    simp only [G.nox, G.ret_bind, if_true, h1 e (List.mem_cons_self ..), h2 e (List.mem_cons_self ..)]
    rw [if_pos (show (keyT (.str e.key)).isSome = true from rfl), put_new hn, ih, List.append_assoc]
    rfl
section
variable {r : Ru} {e : En} {M : List En} {k : Str}
theorem keyRO (h : KeyOk k) : RO 0 62 (.str k) (.str k) := by
  have hb : ∀ c ∈ ("abcdefghijklmnopqrstuvwxyz" : Str).cps.toList, c < 0x110000 := by decide +kernel
  refine ⟨rfl, rfl, ?_, Nat.zero_le _, ?_⟩
  · show k.cps.all (· < 0x110000) = true
    rw [← Array.all_toList, List.all_eq_true]
    exact fun c hc => decide_eq_true (hb c (h.ks c hc))
  have := StrLaws.reprText_len k fun c hc => Nat.lt_trans (hb c (h.ks c hc)) (by decide)
  show (reprText k).length ≤ 62
  have := h.n.2
  omega
theorem intRO {i : Int} (h : 0 ≤ i ∧ i ≤ 9) : RO 0 3 (.int i) (.int i) := by
  have : i = 0 ∨ i = 1 ∨ i = 2 ∨ i = 3 ∨ i = 4 ∨ i = 5 ∨ i = 6 ∨ i = 7 ∨ i = 8 ∨ i = 9 := by omega
  rcases this with rfl | rfl | rfl | rfl | rfl | rfl | rfl | rfl | rfl | rfl <;> exact RO.of rfl (by decide +kernel)
def Hok (t : T) : Prop := ∃ d, RO 1 200 t d
theorem hok_left (h : KeyOk k) : Hok (hLeft k) := ⟨_, (RO.tup (ROs.cons (RO.of (n := 0) (m := 10) rfl (by decide +kernel)) (ROs.cons (keyRO h) ROs.nil))).mono (by omega) (by omega)⟩
theorem hok_line (h : KeyOk k) : Hok (hLine k) := ⟨_, (RO.tup (ROs.cons (RO.of (n := 0) (m := 10) rfl (by decide +kernel)) (ROs.cons (keyRO h) ROs.nil))).mono (by omega) (by omega)⟩
theorem hok_lost (h : KeyOk k) {i : Int} (hi : 0 ≤ i ∧ i ≤ 9) : Hok (hLost k i) := ⟨_, (RO.tup (ROs.cons (RO.of (n := 0) (m := 10) rfl (by decide +kernel)) (ROs.cons (keyRO h) (ROs.cons (intRO hi) ROs.nil)))).mono (by omega) (by omega)⟩
theorem hok_again (h : KeyOk k) {i : Int} (hi : 0 ≤ i ∧ i ≤ 9) : Hok (hAgain k i) := ⟨_, (RO.tup (ROs.cons (RO.of (n := 0) (m := 10) rfl (by decide +kernel)) (ROs.cons (keyRO h) (ROs.cons (intRO hi) ROs.nil)))).mono (by omega) (by omega)⟩
theorem left_le (hr : r.ok) (h : e.ok r) : 0 ≤ e.left ∧ e.left ≤ 3 := by
  have l := h.l; have m := hr.m
  refine ⟨l.1, ?_⟩
  have := l.2
  split at this <;> omega
theorem enRO (hr : r.ok) (h : e.ok r) : ∃ d, RO 1 200 e.t d := by
  have hl := left_le hr h
  have ha : 0 ≤ e.age ∧ e.age ≤ 9 := by
    have := h.a
    cases hw : r.window with
    | none => rw [hw] at this; simp only [] at this; omega
    | some w => rw [hw] at this; simp only [] at this; have := hr.w w hw; omega
  have hc : 0 ≤ e.count ∧ e.count ≤ 9 := by have := h.c; have := last_ge hr; omega
  exact ⟨_, (RO.tup (ROs.cons (keyRO h.key) (ROs.cons (intRO ha) (ROs.cons (intRO hc) (ROs.cons (intRO (by omega)) ROs.nil))))).mono (by omega) (by omega)⟩
theorem res_repr {hs : List T} (hr : r.ok) (h : Mok r M) (hh : ∀ t ∈ hs, Hok t) (hl : hs.length ≤ 1000) : ∃ s, fRepr [.tup [memT M, .lst hs]] = .ret (.str s) := by
  obtain ⟨d1, g1⟩ := ROs.ofAll (n := 1) (m := 200) (ts := M.map En.t) fun t ht => by
    obtain ⟨e, he, rfl⟩ := List.mem_map.mp ht
    exact enRO hr (h.e e he)
  obtain ⟨d2, g2⟩ := ROs.ofAll (n := 1) (m := 200) hh
  have l1 := h.l
  rw [List.length_map] at g1
  exact ⟨_, (RO.tup (ROs.cons (RO.tup g1) (ROs.cons (RO.lst g2) ROs.nil))).repr (by omega) (by omega)⟩
structure AllH (n : Nat) (l : List T) : Prop where
  h : ∀ t ∈ l, Hok t
  n : l.length ≤ n
theorem AllH.nil {n : Nat} : AllH n [] := ⟨fun t ht => (nomatch ht), Nat.zero_le _⟩
theorem AllH.cons {n : Nat} {t : T} {l : List T} (h : Hok t) (q : AllH n l) : AllH (n + 1) (t :: l) := ⟨fun x hx => by
  rcases List.mem_cons.mp hx with rfl | hx
  · exact h
  · exact q.h x hx, by rw [List.length_cons]; exact Nat.succ_le_succ q.n⟩
theorem saidAgain_hs (hr : r.ok) (h : e.ok r) : AllH 10 (saidAgain r e).2 := by
  have hl := left_le hr h
  have hk := h.key
  have a1 := hok_left hk
  have a2 := hok_line hk
  have a3 : Hok (hLost e.key 1) := hok_lost hk (by omega)
  have a4 : Hok (hAgain e.key e.left) := hok_again hk (by omega)
  have a5 : Hok (hAgain e.key (e.left + 1)) := hok_again hk (by omega)
  have z : AllH 7 [] := AllH.nil
  unfold saidAgain outOr written leftOut
  cases decide (e.count = 0) <;> cases isOut r e <;> cases decide (0 < e.left) <;> cases r.ahead <;> cases h5 : decide (e.left = r.most) <;> cases h6 : decide (e.left + 1 = r.most) <;> cases h8 : r.tell <;>
    simp only [cond_true, cond_false, h5, h6, List.cons_append, List.nil_append]
  all_goals first | exact .cons ‹_› (AllH.nil (n := 9)) | exact .cons ‹_› (.cons ‹_› (AllH.nil (n := 8))) | exact .cons ‹_› (.cons ‹_› (.cons ‹_› (AllH.nil (n := 7))))
theorem sayOf_hs (hr : r.ok) (h : Mok r M) (hk : KeyOk k) : AllH 20 (sayOf r M k).2 := by
  unfold sayOf sayG
  cases hf : M.filter (has k) with
  | cons e l =>
    have he := List.mem_filter.mp (show e ∈ M.filter (has k) by rw [hf]; exact List.mem_cons_self ..)
    have := saidAgain_hs hr (h.e e he.1)
    exact ⟨this.h, by have := this.n; simp only []; omega⟩
  | nil =>
    simp only []
    cases hg : (bif full r M then M.getLast? else none) with
    | none => exact .cons (hok_line hk) (AllH.nil (n := 19))
    | some g =>
      have hgm : g ∈ M := by
        cases hfu : full r M <;> rw [hfu] at hg <;> simp only [cond_true, cond_false, reduceCtorEq] at hg
        exact List.mem_of_getLast? hg
      have hl := left_le hr (h.e g hgm)
      have ht : Hok (tag r g) := by
        unfold tag
        cases r.farewell
        · exact hok_lost (h.e g hgm).key (by omega)
        · exact hok_again (h.e g hgm).key (by omega)
      simp only []
      unfold fg1
      cases decide (g.left = 0) <;> simp only [cond_true, cond_false]
      · exact .cons ht (.cons (hok_line hk) (AllH.nil (n := 18)))
      · exact .cons (hok_line hk) (AllH.nil (n := 19))
theorem tickL_hs {w : Int} (hr : r.ok) : ∀ (es : List En) (s : List En × List T), (∀ e ∈ es, e.ok r) → (∀ t ∈ s.2, Hok t) → (∀ t ∈ (tickL (aged r w) es s).2, Hok t) ∧ (tickL (aged r w) es s).2.length ≤ s.2.length + es.length
  | [], s, _, h => ⟨h, by simp [tickL]⟩
  | e :: es, s, h1, h2 => by
    have he := h1 e (List.mem_cons_self ..)
    have hl := left_le hr he
    have ha : ∀ t ∈ (aged r w e).2, Hok t := by
      unfold aged
      cases decide (e.count = 0) <;> cases decide (e.age + 1 < w) <;> cases decide (e.left = 0) <;> cases r.atend <;> cases r.ahead <;> (try simp only [cond_true, cond_false]) <;> intro t ht
      all_goals first | (cases ht; done) | (obtain rfl := List.mem_singleton.mp ht; first | exact hok_again he.key (by omega) | exact hok_lost he.key (by omega))
    have l := (aged_len (r := r) (w := w) (e := e)).2
    obtain ⟨q1, q2⟩ := tickL_hs hr es ((aged r w e).1 ++ s.1, s.2 ++ (aged r w e).2) (fun x hx => h1 x (List.mem_cons_of_mem _ hx)) (fun t ht => by
      rcases List.mem_append.mp ht with ht | ht
      · exact h2 t ht
      · exact ha t ht)
    refine ⟨q1, ?_⟩
    show (tickL (aged r w) es ((aged r w e).1 ++ s.1, s.2 ++ (aged r w e).2)).2.length ≤ _
    simp only [List.length_append, List.length_cons] at q2 ⊢
    omega
theorem tickOf_hs (hr : r.ok) (h : Mok r M) : AllH 20 (tickOf r M).2 := by
  unfold tickOf
  cases hw : r.window with
  | none => exact AllH.nil
  | some w =>
    obtain ⟨q1, q2⟩ := tickL_hs (w := w) hr M.reverse ([], []) (fun e he => h.e e (List.mem_reverse.mp he)) (fun t ht => by cases ht)
    refine ⟨q1, ?_⟩
    show (tickL (aged r w) M.reverse ([], [])).2.length ≤ 20
    have := h.l
    rw [List.length_reverse] at q2
    simp only [List.length_nil] at q2
    omega
def sayT (r : Ru) (M : List En) (k : Str) : T := .tup [memT (sayOf r M k).1, .lst (sayOf r M k).2]
def tickT (r : Ru) (M : List En) : T := .tup [memT (tickOf r M).1, .lst (tickOf r M).2]
end
end LW
end s_M11h
section s_M11i
set_option Elab.async false
set_option linter.all false
set_option maxRecDepth 100000
set_option maxHeartbeats 4000000
/-! what the mode's draw gives -/
namespace LW
open PySem PySem.Spec PyProof.Rows L2 TL
theorem nox_wp {α : Type} {m : G α} {Q : α → Prop} {E : T → Prop} (h : m.wp Q (fun _ => False)) : m.nox.wp Q E := by
  induction m with
  | ret a => exact h
  | exc e => exact h
  | stuck => exact h
  | pick n k ih => exact fun i hi => ih i (h i hi)
  | any k ih => exact fun l => ih l (h l)
theorem take_wp {n : Int} (hn : 1 ≤ n ∧ n < 1073741824) {Q : T → Prop} {E : T → Prop} (h : ∀ i : Nat, i < n.toNat → Q (.int i)) : (fTake [.drw, .int n]).wp Q E := by
  show (if 1 ≤ n ∧ n < 1073741824 then G.pick n.toNat fun i => G.ret (T.int i) else .stuck).wp Q E
  rw [if_pos hn]
  exact h
theorem pick_wp {xs : List T} (hn : 1 ≤ xs.length ∧ xs.length < 1073741824) {Q : T → Prop} {E : T → Prop} (h : ∀ x ∈ xs, Q x) : (runB c_law_pick 2 [.drw, .lst xs]).wp Q E := by
  unfold runB c_law_pick
  refine G.wp_bind.mpr (G.wp_bind.mpr ?_)
  have e : cOp2 fIx (cVar 1) (cCall fTake (caCons (cVar 0) (caCons (cCall fLen (caCons (cVar 1) caNil)) caNil))) [.fz .drw, .fz (.lst xs)] = (fTake [.drw, .int xs.length] >>= fun b => fIx (.lst xs) b) := by
    simp [cOp2, cCall, caCons, caNil, cVar, fLen]
  have e0 : (List.map Sl.fz [T.drw, T.lst xs] ++ List.replicate (2 - [T.drw, T.lst xs].length) Sl.un) = [.fz .drw, .fz (.lst xs)] := rfl
  rw [e0, e]
  refine G.wp_bind.mpr (take_wp (by omega) fun i hi => ?_)
  have hi' : i < xs.length := by omega
  have e2 : fIx (.lst xs) (.int i) = .ret xs[i] := by
    have : atI xs (i : Int) = some xs[i] := by simp [atI, ixN, hi']
    simp [fIx, this]
  rw [e2]
  exact h _ (List.getElem_mem hi')

theorem isOk0 (i : Nat) (h : i < 2) : T.int (1 + (i : Int)) ∈ [T.int 1, .int 2] := by
  match i, h with
  | 0, _ => exact List.mem_cons_self
  | 1, _ => exact List.mem_cons_of_mem _ List.mem_cons_self
theorem isOkB (b : Bool) : T.bl b ∈ [T.bl false, .bl true] := by cases b <;> simp
theorem eq0 (i : Nat) : fEqB false (.int i) (.int 0) = .ret (.bl (decide (i = 0))) := by
  have h : TL.eqT (.int i) (.int 0) = decide (i = 0) := by
    show ((i : Int) == 0) = decide (i = 0)
    rw [Bool.eq_iff_iff]; simp
  show (if TL.okT (.int i) && TL.okT (.int 0) then G.ret (T.bl (false != TL.eqT (.int i) (.int 0))) else .stuck) = _
  have h1 : (TL.okT (.int i) && TL.okT (.int 0)) = true := rfl
  rw [h1, h]
  simp
theorem disp2_wp {r : List Sl} {k1 k2 : Str} {c1 c2 : EC} {Q : T → Prop} {E : T → Prop} (h : (c1 r).wp (fun v1 => (c2 r).wp (fun v2 => Q (.dic (mergeT [] [(.str k1, v1), (.str k2, v2)]))) E) E) : (cDisp [(cC (.str k1), c1), (cC (.str k2), c2)] r).wp Q E := by
  have e : cDisp [(cC (.str k1), c1), (cC (.str k2), c2)] r = (c1 r >>= fun v1 => (c2 r >>= fun v2 => .ret [(.str k2, v2)]) >>= fun l => .ret ((.str k1, v1) :: l)) >>= fun kts => if allKeys kts = true ∧ kts.length ≤ 15 then .ret (.dic (mergeT [] kts)) else .stuck := rfl
  rw [e, G.bind_assoc]
  refine G.wp_bind.mpr (G.wp_mono h (fun v1 h1 => ?_) fun _ x => x)
  rw [G.bind_assoc, G.bind_assoc]
  refine G.wp_bind.mpr (G.wp_mono h1 (fun v2 h2 => ?_) fun _ x => x)
  exact h2
theorem upd_wp {r : List Sl} {kts : List (T × T)} {k1 k2 : Str} {c1 c2 : EC} {Q : Ctl → Prop} {E : T → Prop} (hr : r[1]? = some (.ow (.dic kts))) (hl : kts.length.ble 100 = true) (hm : ∀ v1 v2, (mergeT [] [(.str k1, v1), (.str k2, v2)]).length.ble 2 = true)
    (h : (c1 r).wp (fun v1 => (c2 r).wp (fun v2 => Q (.nx (r.set 1 (.ow (.dic (mergeT kts (mergeT [] [(.str k1, v1), (.str k2, v2)]))))))) E) E) : (cMut "dict" 1 mUpdate (caCons (cDisp [(cC (.str k1), c1), (cC (.str k2), c2)]) caNil) r).wp Q E := by
  unfold cMut
  simp only [hr, tyT, if_true]
  refine G.wp_bind.mpr ?_
  unfold caCons
  refine G.wp_bind.mpr (disp2_wp (G.wp_mono h (fun v1 h1 => G.wp_mono h1 (fun v2 h2 => ?_) fun _ x => x) fun _ x => x))
  have f : fits (kts.length + (mergeT [] [(T.str k1, v1), (T.str k2, v2)]).length) = true := by
    have := Nat.le_of_ble_eq_true (hm v1 v2)
    have := Nat.le_of_ble_eq_true hl
    exact decide_eq_true (by omega)
  simp only [caNil, G.ret_bind]
  show (match mUpdate (.dic kts) [.dic (mergeT [] [(T.str k1, v1), (T.str k2, v2)])] with | some t' => G.ret (Ctl.nx (r.set 1 (.ow t'))) | none => .stuck).wp Q E
  unfold mUpdate
  simp only [f, if_true]
  exact h2
theorem takeB {r : List Sl} {Q : T → Prop} {E : T → Prop} (hr : r[0]? = some (.fz .drw)) (h : ∀ b, Q (.bl b)) : (cOp2 fEq (cCall fTake (caCons (cVar 0) (caCons (cC (.int 2)) caNil))) (cC (.int 0)) r).wp Q E := by
  have e : cOp2 fEq (cCall fTake (caCons (cVar 0) (caCons (cC (.int 2)) caNil))) (cC (.int 0)) r = (fTake [.drw, .int 2] >>= fun a => fEqB false a (.int 0)) := by
    simp only [cOp2, cCall, caCons, caNil, cVar, cC, hr, G.ret_bind]
  rw [e]
  refine G.wp_bind.mpr (take_wp (by decide) fun i _ => ?_)
  rw [eq0]
  exact h _
theorem takeI {r : List Sl} {n : Int} {Q : T → Prop} {E : T → Prop} (hn : 1 ≤ n ∧ n < 1073741824) (hr : r[0]? = some (.fz .drw)) (h : ∀ i : Nat, i < n.toNat → Q (.int (1 + i))) : (cOp2 fAdd (cC (.int 1)) (cCall fTake (caCons (cVar 0) (caCons (cC (.int n)) caNil))) r).wp Q E := by
  have e : cOp2 fAdd (cC (.int 1)) (cCall fTake (caCons (cVar 0) (caCons (cC (.int n)) caNil))) r = (fTake [.drw, .int n] >>= fun a => fAdd (.int 1) a) := by
    simp only [cOp2, cCall, caCons, caNil, cVar, cC, hr, G.ret_bind]
  rw [e]
  exact G.wp_bind.mpr (take_wp hn fun i hi => h i hi)
theorem pickC {r : List Sl} {xs : List T} {cs : List Sl → G (List T)} {Q : T → Prop} {E : T → Prop} (hr : r[0]? = some (.fz .drw)) (hc : cs r = .ret xs) (hn : 1 ≤ xs.length ∧ xs.length < 1073741824) (h : ∀ x ∈ xs, Q x) : (cCall (runB c_law_pick 2) (caCons (cVar 0) (caCons (cLst cs) caNil)) r).wp Q E := by
  have e : cCall (runB c_law_pick 2) (caCons (cVar 0) (caCons (cLst cs) caNil)) r = runB c_law_pick 2 [.drw, .lst xs] := by
    simp only [cCall, caCons, caNil, cVar, cLst, hr, hc, G.ret_bind]
  rw [e]
  exact pick_wp hn h
theorem nx_wp {c d : SC} {r : List Sl} {Q : Ctl → Prop} {E : T → Prop} (h : (c r).wp (fun k => ∃ r', k = .nx r' ∧ (d r').wp Q E) E) : (cSeq c d r).wp Q E :=
  wp_seq.mpr (G.wp_mono h (fun k hk => by obtain ⟨r', rfl, q⟩ := hk; exact q) fun _ x => x)
theorem setO_wp {i : Nat} {ca : EC} {r : List Sl} {Q : Ctl → Prop} {E : T → Prop} (h : (ca r).wp (fun t => Q (.nx (r.set i (.ow t)))) E) : (cSetO i ca r).wp Q E := G.wp_bind.mpr h
theorem set_wp {i : Nat} {ca : EC} {r : List Sl} {Q : Ctl → Prop} {E : T → Prop} (h : (ca r).wp (fun t => Q (.nx (r.set i (.fz t)))) E) : (cSet i ca r).wp Q E := G.wp_bind.mpr h
theorem rgOf_eq {n : Int} (h1 : 0 ≤ n) (h2 : n < 1000000) : rgOf [.int n] = .ret (rngT 0 n.toNat) := by
  have b : (decide (-(2 ^ 62) ≤ n) && decide (n < 1000000)) = true := by
    rw [Bool.and_eq_true, decide_eq_true_eq, decide_eq_true_eq]
    exact ⟨by omega, h2⟩
  unfold rgOf
  simp only [b, if_true]
theorem ru_of {a0 a1 a2 a3 a4 a5 a6 a7 a8 a9 : T} (h : Ok10 a0 a1 a2 a3 a4 a5 a6 a7 a8 a9) : ∃ r : Ru, r.ok ∧ modeT a0 a1 a2 a3 a4 a5 a6 a7 a8 a9 = r.m ∧ ruleT a0 a1 a2 a3 a4 a5 a6 a7 a8 a9 = r.t := by
  have bo : ∀ a, a ∈ [T.bl false, .bl true] → ∃ b, a = .bl b := fun a ha => by
    simp only [List.mem_cons, List.not_mem_nil, or_false] at ha
    rcases ha with rfl | rfl
    · exact ⟨_, rfl⟩
    · exact ⟨_, rfl⟩
  obtain ⟨b0, rfl, o0⟩ : ∃ b, a0 = .int b ∧ (b = 1 ∨ b = 2) := by
    have := h.h0; simp only [List.mem_cons, List.not_mem_nil, or_false] at this
    rcases this with rfl | rfl
    · exact ⟨_, rfl, .inl rfl⟩
    · exact ⟨_, rfl, .inr rfl⟩
  obtain ⟨b1, rfl, o1⟩ : ∃ b, a1 = oiT b ∧ (∀ i, b = some i → 1 ≤ i ∧ i ≤ 3) := by
    have := h.h1; simp only [List.mem_cons, List.not_mem_nil, or_false] at this
    rcases this with rfl | rfl | rfl | rfl
    · exact ⟨none, rfl, fun i e => by cases e⟩
    · exact ⟨some 1, rfl, fun i e => by cases e; omega⟩
    · exact ⟨some 2, rfl, fun i e => by cases e; omega⟩
    · exact ⟨some 3, rfl, fun i e => by cases e; omega⟩
  obtain ⟨b2, rfl⟩ := bo _ h.h2
  obtain ⟨b3, rfl, o3⟩ : ∃ b, a3 = .int b ∧ (b = 0 ∨ b = 1 ∨ b = 2) := by
    have := h.h3; simp only [List.mem_cons, List.not_mem_nil, or_false] at this
    rcases this with rfl | rfl | rfl
    · exact ⟨_, rfl, .inl rfl⟩
    · exact ⟨_, rfl, .inr (.inl rfl)⟩
    · exact ⟨_, rfl, .inr (.inr rfl)⟩
  obtain ⟨b4, rfl⟩ := bo _ h.h4
  obtain ⟨b5, rfl⟩ := bo _ h.h5
  obtain ⟨b6, rfl, o6⟩ : ∃ b, a6 = .int b ∧ (1 ≤ b ∧ b ≤ 3) := by
    have := h.h6; simp only [List.mem_cons, List.not_mem_nil, or_false] at this
    rcases this with rfl | rfl | rfl
    · exact ⟨_, rfl, by omega⟩
    · exact ⟨_, rfl, by omega⟩
    · exact ⟨_, rfl, by omega⟩
  obtain ⟨b7, rfl⟩ : ∃ b, a7 = fullT b := by
    have := h.h7; simp only [List.mem_cons, List.not_mem_nil, or_false] at this
    rcases this with rfl | rfl
    · exact ⟨false, rfl⟩
    · exact ⟨true, rfl⟩
  obtain ⟨b8, rfl, o8⟩ : ∃ b, a8 = oiT b ∧ (∀ i, b = some i → 1 ≤ i ∧ i ≤ 2) := by
    have := h.h8; simp only [List.mem_cons, List.not_mem_nil, or_false] at this
    rcases this with rfl | rfl | rfl
    · exact ⟨none, rfl, fun i e => by cases e⟩
    · exact ⟨some 1, rfl, fun i e => by cases e; omega⟩
    · exact ⟨some 2, rfl, fun i e => by cases e; omega⟩
  obtain ⟨b9, rfl⟩ := bo _ h.h9
  exact ⟨⟨b0, b1, b2, b3, b4, b5, b6, b7, b8, b9⟩, ⟨o0, o1, o3, o6, o8⟩, rfl, rfl⟩
/-- comprehensions with draws -/
theorem compG_wp {te : EC} {i : Nat} {r : List Sl} {P : T → T → Prop} : ∀ (ts : List T), (∀ t ∈ ts, (te (r.set i (.fz t))).wp (P t) (fun _ => False)) → (compG (gcName i) (fun _ => .ret true) te ts r).wp (fun ys => ys.length = ts.length ∧ ∀ p ∈ ts.zip ys, P p.1 p.2) (fun _ => False)
  | [], _ => ⟨rfl, fun p hp => by cases hp⟩
  | t :: ts, h => by
    have e1 : gcName i t r = .ret (r.set i (.fz t)) := rfl
    rw [compG, e1]
    simp only [G.nox, G.ret_bind, if_true]
    refine G.wp_bind.mpr (nox_wp (G.wp_mono (h t (List.mem_cons_self ..)) (fun y hy => ?_) fun _ x => x))
    refine G.wp_bind.mpr (G.wp_mono (compG_wp ts fun x hx => h x (List.mem_cons_of_mem _ hx)) (fun ys hys => ?_) fun _ x => x)
    refine ⟨by rw [List.length_cons, List.length_cons, hys.1], fun p hp => ?_⟩
    rw [List.zip_cons_cons] at hp
    rcases List.mem_cons.mp hp with rfl | hp
    · exact hy
    · exact hys.2 p hp
end LW
end s_M11i
section s_M11j
set_option Elab.async false
set_option linter.all false
set_option maxRecDepth 100000
set_option maxHeartbeats 4000000
/-! the names -/
namespace LW
open PySem PySem.Spec PyProof.Rows L2 TL
abbrev LT : Str := "abcdefghijklmnopqrstuvwxyz"
def ch (c : Nat) : Str := ⟨#[c]⟩
theorem nodup_len {α : Type} [DecidableEq α] : ∀ (l m : List α), l.Nodup → (∀ x ∈ l, x ∈ m) → l.length ≤ m.length
  | [], _, _, _ => Nat.zero_le _
  | x :: l, m, hd, h => by
    have hx := h x (List.mem_cons_self ..)
    have ih := nodup_len l (m.erase x) (List.nodup_cons.mp hd).2 fun y hy => by
      have ne : y ≠ x := fun e => (List.nodup_cons.mp hd).1 (e ▸ hy)
      exact (List.mem_erase_of_ne ne).mpr (h y (List.mem_cons_of_mem _ hy))
    rw [List.length_erase_of_mem hx] at ih
    have := List.length_pos_of_mem hx
    rw [List.length_cons]; omega
theorem pick_ch {Q : T → Prop} {E : T → Prop} (h : ∀ c ∈ LT.cps.toList, Q (.str (ch c))) : (runB c_law_pick 2 [.drw, .str LT]).wp Q E := by
  unfold runB c_law_pick
  refine G.wp_bind.mpr (G.wp_bind.mpr ?_)
  have hl : fLen [.str LT] = .ret (.int 26) := by kernel_rfl
  have e : cOp2 fIx (cVar 1) (cCall fTake (caCons (cVar 0) (caCons (cCall fLen (caCons (cVar 1) caNil)) caNil))) [.fz .drw, .fz (.str LT)] = (fTake [.drw, .int 26] >>= fun b => fIx (.str LT) b) := by
    simp only [cOp2, cCall, caCons, caNil, cVar, hl, G.ret_bind, List.getElem?_cons_zero, List.getElem?_cons_succ]
  have e0 : (List.map Sl.fz [T.drw, T.str LT] ++ List.replicate (2 - [T.drw, T.str LT].length) Sl.un) = [.fz .drw, .fz (.str LT)] := rfl
  rw [e0, e]
  refine G.wp_bind.mpr (take_wp (by omega) fun i hi => ?_)
  have hlen : LT.cps.toList.length = 26 := by decide +kernel
  have hi' : i < LT.cps.toList.length := by rw [hlen]; exact hi
  have e2 : fIx (.str LT) (.int i) = .ret (.str (ch (LT.cps.toList[i]'hi'))) := by
    show (if fits LT.length then (match atI LT.cps.toList i with | some c => G.ret (T.str ⟨#[c]⟩) | none => .stuck) else .stuck) = _
    rw [if_pos (show fits LT.length = true by decide +kernel), atI_nat (v := LT.cps.toList[i]'hi') (List.getElem?_eq_getElem hi')]
    rfl
  rw [e2]
  exact h _ (List.getElem_mem hi')
/-- a word's first five letters -/
def cut5 (w : Str) : Str := cutS w none (some 5)
theorem cut5_ok {w : Str} (h : KeyOk w) : (cut5 w).length ≤ 5 ∧ ∀ c ∈ (cut5 w).cps.toList, c ∈ LT.cps.toList := by
  have e : (cut5 w).cps.toList = (w.cps.toList.drop 0).take (HT.sIx w.length w.length (some 5) - 0) := rfl
  constructor
  · have : (cut5 w).length = (cut5 w).cps.toList.length := rfl
    rw [this, e, List.length_take]
    have : HT.sIx w.length w.length (some 5) = min 5 w.length := rfl
    omega
  · intro c hc
    rw [e] at hc
    exact h.ks c (List.drop_subset _ _ (List.take_subset _ _ hc))
theorem near_ok {w : Str} {c : Nat} (h : KeyOk w) (hc : c ∈ LT.cps.toList) : KeyOk (cut5 w ++ ch c) := by
  have q := cut5_ok h
  have e : (cut5 w ++ ch c).cps.toList = (cut5 w).cps.toList ++ [c] := by rw [Str.cps_append]; simp [ch]
  refine ⟨?_, ?_⟩
  · rw [Str.length_append]
    have : (ch c).length = 1 := rfl
    omega
  · intro d hd
    rw [e] at hd
    rcases List.mem_append.mp hd with hd | hd
    · exact q.2 d hd
    · rw [List.mem_singleton.mp hd]; exact hc
def nearL (w : Str) : List Str := w :: LT.cps.toList.map fun c => cut5 w ++ ch c
theorem nearL_ok {w : Str} (h : KeyOk w) : ∀ x ∈ nearL w, KeyOk x := by
  intro x hx
  rcases List.mem_cons.mp hx with rfl | hx
  · exact h
  · obtain ⟨c, hc, rfl⟩ := List.mem_map.mp hx
    exact near_ok h hc
theorem near_some {w : Str} {F : List Str} (hF : F.length ≤ 20) : ∃ x l, (nearL w).filter (fun x => !decide (x ∈ F)) = x :: l := by
  cases h : (nearL w).filter (fun x => !decide (x ∈ F)) with
  | cons x l => exact ⟨x, l, rfl⟩
  | nil =>
    exfalso
    have hin : ∀ x ∈ (LT.cps.toList.map fun c => cut5 w ++ ch c), x ∈ F := fun x hx => by
      have := List.filter_eq_nil_iff.mp h x (List.mem_cons_of_mem _ hx)
      simpa using this
    have hnd : (LT.cps.toList.map fun c => cut5 w ++ ch c).Nodup := by
      have hl : LT.cps.toList.Nodup := by decide +kernel
      unfold List.Nodup at hl ⊢
      rw [List.pairwise_map]
      refine hl.imp fun {a b} hab e => hab ?_
      have e1 : (cut5 w ++ ch a).cps.toList = (cut5 w ++ ch b).cps.toList := by rw [e]
      rw [Str.cps_append, Str.cps_append] at e1
      simpa [ch] using e1
    have := nodup_len _ _ hnd hin
    rw [List.length_map] at this
    have hlen : LT.cps.toList.length = 26 := by decide +kernel
    omega
theorem eqStrT (x y : Str) : TL.eqT (.str x) (.str y) = decide (x = y) := by
  show PyData.eqv (.str x) (.str y) = _
  simp only [PyData.eqv]
  rfl
theorem notIn_eq {x : Str} {F : List Str} (hx : KeyOk x) (hF : ∀ y ∈ F, KeyOk y) : fInB true (.str x) (.lst (F.map T.str)) = .ret (.bl (!decide (x ∈ F))) := by
  obtain ⟨ds, g⟩ := ROs.ofAll (n := 0) (m := 62) (ts := F.map T.str) fun t ht => by
    obtain ⟨y, hy, rfl⟩ := List.mem_map.mp ht
    exact ⟨_, keyRO (hF y hy)⟩
  show (if okT (.str x) && okT (.lst (F.map T.str)) then G.ret (T.bl (true != (F.map T.str).any fun t => TL.eqT t (.str x))) else .stuck) = _
  rw [(keyRO hx).okT (by omega), (RO.lst g).okT (by omega)]
  have : ((F.map T.str).any fun t => TL.eqT t (.str x)) = decide (x ∈ F) := by
    rw [List.any_map, Bool.eq_iff_iff, List.any_eq_true]
    simp only [Function.comp, eqStrT, decide_eq_true_eq]
    exact ⟨fun ⟨y, hy, e⟩ => e ▸ hy, fun h => ⟨x, h, rfl⟩⟩
  rw [this]
  simp
theorem joinL_nil : ∀ ps : List (List Nat), joinL [] ps = ps.flatten
  | [] => rfl
  | [p] => by simp [joinL]
  | p :: q :: ps => by
    have ih := joinL_nil (q :: ps)
    simp [joinL, ih]
theorem join_ok {cs : List Nat} (h1 : 1 ≤ cs.length ∧ cs.length ≤ 6) (h2 : ∀ c ∈ cs, c ∈ LT.cps.toList) : KeyOk (Txt.join "" (cs.map ch)) := by
  have e : (Txt.join "" (cs.map ch)).cps.toList = cs := by
    rw [join_eq]
    have := tl_join "" (cs.map ch)
    rw [show tl ("" : Str) = [] from rfl, joinL_nil, List.map_map] at this
    have e2 : ∀ l : List Nat, (l.map (tl ∘ ch)).flatten = l := fun l => by
      induction l with
      | nil => rfl
      | cons x l ih => rw [List.map_cons, List.flatten_cons, ih]; rfl
    rw [e2] at this
    exact this
  refine ⟨?_, by rw [e]; exact h2⟩
  have : (Txt.join "" (cs.map ch)).length = (Txt.join "" (cs.map ch)).cps.toList.length := rfl
  rw [this, e]
  exact h1
theorem strsT_map : ∀ l : List Str, strsT (l.map T.str) = some l
  | [] => rfl
  | x :: l => by rw [List.map_cons, strsT, strsT_map l]; rfl
end LW
end s_M11j
section s_M11k
set_option Elab.async false
set_option linter.all false
set_option maxRecDepth 100000
set_option maxHeartbeats 4000000
/-! the names' loop -/
namespace LW
open PySem PySem.Spec PyProof.Rows L2 TL
theorem rngT_len (a : Int) : ∀ n, (rngT a n).length = n
  | 0 => rfl
  | n + 1 => by rw [rngT, List.length_cons, rngT_len]
theorem take6 {R : List Sl} {Q : T → Prop} (h : R[0]? = some (.fz .drw)) (hq : ∀ i : Nat, i < 6 → Q (.int (1 + i))) : (cOp2 fAdd (cC (.int 1)) (cCall fTake (caCons (cVar 0) (caCons (cC (.int 6)) caNil))) R).wp Q (fun _ => False) :=
  takeI (by decide) h hq
/-- what is the same whatever was drawn -/
theorem near_eq {F : List Str} {w : Str} {s0 s1 s4 s6 s7 s8 s9 : Sl} (hw : KeyOk w) (hF : ∀ y ∈ F, KeyOk y) (hl : F.length ≤ 20) :
    ∃ k u6, KeyOk k ∧ k ∉ F ∧ (cSeq (cSet 6 (cOp2 fAdd (cLst (caCons (cVar 5) caNil)) (cComp (fun r => (cVar 2) r >>= anyOf) (gcName 8) (fun _ => .ret true) (cOp2 fAdd (cSl (cVar 5) coNone (coSome (cC (.int 5)))) (cVar 8)) [8])))
      (cMut "list" 3 mAppend (caCons (cOp2 fIx (cComp (fun r => (cVar 6) r >>= anyOf) (gcName 9) (cPkT 3 (cB (cOp2 (fInB true) (cVar 9) (cVar 3)))) (cVar 9) [9]) (cC (.int 0))) caNil)))
      [s0, s1, .fz (.str LT), .ow (.lst (F.map T.str)), s4, .fz (.str w), s6, s7, s8, s9] = .ret (.nx [s0, s1, .fz (.str LT), .ow (.lst ((F ++ [k]).map T.str)), s4, .fz (.str w), u6, s7, s8, s9]) := by
  obtain ⟨k, l, hk⟩ := near_some (w := w) hl
  have hkm := List.mem_filter.mp (show k ∈ (nearL w).filter (fun x => !decide (x ∈ F)) by rw [hk]; exact List.mem_cons_self ..)
  refine ⟨k, .fz (.lst ((nearL w).map T.str)), nearL_ok hw k hkm.1, by simpa using hkm.2, ?_⟩
  refine (seq_nx (r' := [s0, s1, .fz (.str LT), .ow (.lst (F.map T.str)), s4, .fz (.str w), .fz (.lst ((nearL w).map T.str)), s7, s8, s9]) ?_).trans ?_
  · refine set_eq ?_
    refine (op2_eq (t := .lst [.str w]) (u := .lst (LT.cps.toList.map fun c => .str (cut5 w ++ ch c))) (lst_eq (cons_eq rfl rfl)) ?_).trans ?_
    · show (cVar 2 _ >>= anyOf) >>= _ = _
      have e2 : anyOf (.str LT) = .ret (LT.cps.toList.map fun c => .str (ch c)) := by
        show (if fits LT.cps.size then G.ret (chars LT) else .stuck) = _
        rw [if_pos (show fits LT.cps.size = true by decide +kernel)]
        rfl
      rw [show cVar 2 [s0, s1, .fz (.str LT), .ow (.lst (F.map T.str)), s4, .fz (.str w), s6, s7, s8, s9] = .ret (.str LT) from rfl]
      simp only [G.ret_bind, e2]
      rw [compG_map (F := fun c => T.str (cut5 w ++ ch c)) fun c hc => ?_]
      · rfl
      · refine (op2_eq (t := .str (cut5 w)) (u := .str (ch c)) ?_ rfl).trans ?_
        · unfold cSl coNone coSome cC
          rw [show cVar 5 ((wipeR [s0, s1, .fz (.str LT), .ow (.lst (F.map T.str)), s4, .fz (.str w), s6, s7, s8, s9] [8]).set 8 (.fz (.str (ch c)))) = .ret (.str w) from rfl]
          simp only [G.ret_bind]
          show (if fits w.length then G.ret (T.str (cutS w none (some 5))) else .stuck) = _
          rw [if_pos (show fits w.length = true from decide_eq_true (by have := hw.n; omega))]
          rfl
        · show (if fits ((cut5 w).length + (ch c).length) then G.ret (T.str (cut5 w ++ ch c)) else .stuck) = _
          rw [if_pos (show fits _ = true from decide_eq_true (by have := (cut5_ok hw).1; have e : (ch c).length = 1 := rfl; omega))]
    · show (if fits ([T.str w].length + (LT.cps.toList.map fun c => T.str (cut5 w ++ ch c)).length) then G.ret (T.lst _) else .stuck) = _
      have hlen : LT.cps.toList.length = 26 := by decide +kernel
      rw [if_pos (show fits _ = true from decide_eq_true (by rw [List.length_map, hlen]; simp))]
      unfold nearL
      rw [List.map_cons, List.map_map]
      rfl
  · have h9 : cComp (fun r => (cVar 6) r >>= anyOf) (gcName 9) (cPkT 3 (cB (cOp2 (fInB true) (cVar 9) (cVar 3)))) (cVar 9) [9] [s0, s1, .fz (.str LT), .ow (.lst (F.map T.str)), s4, .fz (.str w), .fz (.lst ((nearL w).map T.str)), s7, s8, s9] = .ret (.lst (((nearL w).filter fun x => !decide (x ∈ F)).map T.str)) := by
      show (cVar 6 _ >>= anyOf) >>= _ = _
      show compG _ _ _ ((nearL w).map T.str) [s0, s1, .fz (.str LT), .ow (.lst (F.map T.str)), s4, .fz (.str w), .fz (.lst ((nearL w).map T.str)), s7, s8, .un] >>= _ = _
      rw [compG_filter (by simp) (p := fun x => !decide (x ∈ F)) fun x hx => ?_]
      · rfl
      · exact b_eq ((op2_eq (t := .str x) (u := .lst (F.map T.str)) rfl rfl).trans (notIn_eq (nearL_ok hw x hx) hF))
    refine mut_eq (b := .lst (F.map T.str)) (ts := [.str k]) rfl (cons_eq ((op2_eq (u := .int 0) h9 rfl).trans ?_) rfl) ?_ rfl
    · rw [hk]
      show (match atI (T.str k :: l.map T.str) ((0 : Nat) : Int) with | some t => G.ret t | none => .stuck) = _
      rw [atI_nat (v := T.str k) rfl]
    · show (if fits ((F.map T.str).length + 1) then some (T.lst (F.map T.str ++ [.str k])) else none) = _
      rw [if_pos (show fits _ = true from decide_eq_true (by rw [List.length_map]; omega)), List.map_append]
      rfl
theorem chars_of : ∀ (ts ys : List T), ys.length = ts.length → (∀ p ∈ ts.zip ys, ∃ c ∈ LT.cps.toList, p.2 = .str (ch c)) → ∃ cs : List Nat, ys = cs.map (fun c => .str (ch c)) ∧ ∀ c ∈ cs, c ∈ LT.cps.toList := by
  intro ts
  induction ts with
  | nil => intro ys h _; exact ⟨[], by cases ys <;> simp at h ⊢, fun c hc => by cases hc⟩
  | cons t ts ih =>
    intro ys h hp
    cases ys with
    | nil => simp at h
    | cons y ys =>
      obtain ⟨c, hc, e⟩ := hp (t, y) (by simp)
      obtain ⟨cs, e2, h3⟩ := ih ys (by simpa using h) fun p q => hp p (by simp [q])
      have e' : y = .str (ch c) := e
      refine ⟨c :: cs, by rw [List.map_cons, ← e2, e'], fun d hd => ?_⟩
      rcases List.mem_cons.mp hd with rfl | hd
      · exact hc
      · exact h3 d hd
theorem word_wp {R : List Sl} (h : R[0]? = some (.fz .drw)) (h2 : ∀ s, cCall (runB c_law_pick 2) (caCons (cVar 0) (caCons (cVar 2) caNil)) ((wipeR R [7]).set 7 s) = runB c_law_pick 2 [.drw, .str LT]) :
    (cComp (fun r => (caCons (cOp2 fAdd (cC (.int 1)) (cCall fTake (caCons (cVar 0) (caCons (cC (.int 6)) caNil)))) caNil) r >>= rgOf) (gcName 7) (fun _ => .ret true) (cCall (runB c_law_pick 2) (caCons (cVar 0) (caCons (cVar 2) caNil))) [7] R).wp
      (fun t => ∃ cs : List Nat, (1 ≤ cs.length ∧ cs.length ≤ 6) ∧ (∀ c ∈ cs, c ∈ LT.cps.toList) ∧ t = .lst (cs.map fun c => .str (ch c))) (fun _ => False) := by
  have ec : ∀ (ce : EC) (r : List Sl), ((fun r => caCons ce caNil r >>= rgOf) r) = (ce r >>= fun t => rgOf [t]) := fun ce r => by
    show (ce r >>= fun t => G.ret [] >>= fun ts => G.ret (t :: ts)) >>= rgOf = _
    rw [G.bind_assoc]
    rfl
  unfold cComp
  rw [ec]
  refine G.wp_bind.mpr ?_
  refine G.wp_bind.mpr ?_
  refine take6 h fun i hi => ?_
  rw [rgOf_eq (by omega) (by omega)]
  refine wp_eq (a := rngT 0 (1 + (i : Int)).toNat) rfl ?_
  refine G.wp_bind.mpr (G.wp_mono (compG_wp (P := fun _ y => ∃ c ∈ LT.cps.toList, y = .str (ch c)) _ fun t ht => ?_) (fun ys hys => ?_) fun _ x => x)
  · rw [h2]
    exact pick_ch fun c hc => ⟨c, hc, rfl⟩
  · obtain ⟨h1, h2⟩ := hys
    obtain ⟨cs, rfl, hc⟩ := chars_of _ ys h1 h2
    rw [rngT_len, List.length_map] at h1
    exact ⟨cs, by omega, hc, rfl⟩
end LW
end s_M11k
section s_M11l
set_option Elab.async false
set_option linter.all false
set_option maxRecDepth 100000
set_option maxHeartbeats 4000000
/-! the names' loop, second part -/
namespace LW
open PySem PySem.Spec PyProof.Rows L2 TL
theorem names_b1 {F : List Str} {s1 s4 s5 s6 s7 s8 s9 : Sl} (hF : ∀ y ∈ F, KeyOk y) (hl : F.length ≤ 20) :
    (c__law_names_b1 [.fz .drw, s1, .fz (.str LT), .ow (.lst (F.map T.str)), s4, s5, s6, s7, s8, s9]).wp (fun q => ∃ k u4 u5 u6 u7 u8 u9, KeyOk k ∧ k ∉ F ∧ q = .nx [.fz .drw, s1, .fz (.str LT), .ow (.lst ((F ++ [k]).map T.str)), u4, u5, u6, u7, u8, u9]) (fun _ => False) := by
  unfold c__law_names_b1
  have tail : ∀ w, KeyOk w → ((cSeq (cSet 6 (cOp2 fAdd (cLst (caCons (cVar 5) caNil)) (cComp (fun r => (cVar 2) r >>= anyOf) (gcName 8) (fun _ => .ret true) (cOp2 fAdd (cSl (cVar 5) coNone (coSome (cC (.int 5)))) (cVar 8)) [8])))
      (cMut "list" 3 mAppend (caCons (cOp2 fIx (cComp (fun r => (cVar 6) r >>= anyOf) (gcName 9) (cPkT 3 (cB (cOp2 (fInB true) (cVar 9) (cVar 3)))) (cVar 9) [9]) (cC (.int 0))) caNil)))
      [.fz .drw, s1, .fz (.str LT), .ow (.lst (F.map T.str)), s4, .fz (.str w), s6, s7, s8, s9]).wp (fun q => ∃ k u4 u5 u6 u7 u8 u9, KeyOk k ∧ k ∉ F ∧ q = .nx [.fz .drw, s1, .fz (.str LT), .ow (.lst ((F ++ [k]).map T.str)), u4, u5, u6, u7, u8, u9]) (fun _ => False) := fun w hw => by
    obtain ⟨k, u6, hk, hn, e⟩ := near_eq (s0 := .fz .drw) (s1 := s1) (s4 := s4) (s6 := s6) (s7 := s7) (s8 := s8) (s9 := s9) hw hF hl
    exact wp_eq e ⟨k, _, _, _, _, _, _, hk, hn, rfl⟩
  have hwords : ∀ x ∈ [T.str "a", .str "b", .str "c", .str "line", .str "again", .str "tick", .str "say", .str "zzzzzz"], ∃ w, x = .str w ∧ KeyOk w := by
    intro x hx
    simp only [List.mem_cons, List.not_mem_nil, or_false] at hx
    rcases hx with rfl | rfl | rfl | rfl | rfl | rfl | rfl | rfl <;> exact ⟨_, rfl, by decide +kernel, by decide +kernel⟩
  refine nx_wp (set_wp (pickC rfl rfl (by decide) fun x hx => ?_))
  obtain ⟨w, rfl, hw⟩ := hwords x hx
  refine ⟨_, rfl, ?_⟩
  refine nx_wp ?_
  unfold cIfS cB
  refine G.wp_bind.mpr (G.wp_bind.mpr (takeB rfl fun b => ?_))
  cases b
  · exact ⟨_, rfl, tail w hw⟩
  · show (cSet 5 _ _).wp _ _
    refine set_wp ?_
    have ej : ∀ (x : Str) (ca : EC) (r : List Sl), cJoin (cC (.str x)) ca r = (ca r >>= fun b => fJoin (.str x) b) := fun _ _ _ => rfl
    rw [ej]
    refine G.wp_bind.mpr ?_
    have hww := word_wp (R := [.fz .drw, s1, .fz (.str LT), .ow (.lst (F.map T.str)), s4, s5, s6, s7, s8, s9].set 5 (.fz (.str w))) rfl (fun _ => rfl)
    revert hww
    generalize (cComp (fun r => (caCons (cOp2 fAdd (cC (.int 1)) (cCall fTake (caCons (cVar 0) (caCons (cC (.int 6)) caNil)))) caNil) r >>= rgOf) (gcName 7) (fun _ => .ret true) (cCall (runB c_law_pick 2) (caCons (cVar 0) (caCons (cVar 2) caNil))) [7]) = CC
    intro hww
    generalize CC _ = M at hww ⊢
    refine G.wp_mono hww (fun t ht => ?_) fun _ x => x
    obtain ⟨cs, hlen, hc, rfl⟩ := ht
    have e : fJoin (.str "") (.lst (cs.map fun c => .str (ch c))) = .ret (.str (Txt.join "" (cs.map ch))) := by
      show joinK "" (cs.map fun c => .str (ch c)) = _
      have e1 : (cs.map fun c => T.str (ch c)) = (cs.map ch).map T.str := by rw [List.map_map]; rfl
      unfold joinK
      rw [e1, strsT_map]
      have e2 : ((cs.map ch).map (·.length)).sum = cs.length := by
        have : ∀ l : List Nat, ((l.map ch).map (·.length)).sum = l.length := fun l => by
          induction l with
          | nil => rfl
          | cons x l ih => simp only [List.map_cons, List.sum_cons, ih, List.length_cons]; have : (ch x).length = 1 := rfl; omega
        exact this cs
      have e3 : ("" : Str).length = 0 := rfl
      show (if decide (((cs.map ch).map (·.length)).sum + (cs.map ch).length * ("" : Str).length ≤ 16777216) then G.ret (T.str (Txt.join "" (cs.map ch))) else .stuck) = _
      rw [if_pos (decide_eq_true (by rw [e2, e3]; omega))]
    show (fJoin (.str "") (.lst (cs.map fun c => .str (ch c)))).wp _ _
    rw [e]
    exact ⟨_, rfl, tail _ (join_ok hlen hc)⟩
structure NamesOk (F : List Str) : Prop where
  k : ∀ y ∈ F, KeyOk y
  d : F.Nodup
theorem names_loop {s1 : Sl} : ∀ (ts : List T) (F : List Str) (s4 s5 s6 s7 s8 s9 : Sl), NamesOk F → F.length + ts.length ≤ 20 →
    (forG (gcName 4) c__law_names_b1 ts [.fz .drw, s1, .fz (.str LT), .ow (.lst (F.map T.str)), s4, s5, s6, s7, s8, s9]).wp (fun q => ∃ F' u4 u5 u6 u7 u8 u9, NamesOk F' ∧ F'.length = F.length + ts.length ∧ q = .nx [.fz .drw, s1, .fz (.str LT), .ow (.lst (F'.map T.str)), u4, u5, u6, u7, u8, u9]) (fun _ => False)
  | [], F, s4, s5, s6, s7, s8, s9, hF, hl => ⟨F, s4, s5, s6, s7, s8, s9, hF, rfl, rfl⟩
  | t :: ts, F, s4, s5, s6, s7, s8, s9, hF, hl => by
    rw [List.length_cons] at hl
    rw [forG, show gcName 4 t [.fz .drw, s1, .fz (.str LT), .ow (.lst (F.map T.str)), s4, s5, s6, s7, s8, s9] = .ret [.fz .drw, s1, .fz (.str LT), .ow (.lst (F.map T.str)), .fz t, s5, s6, s7, s8, s9] from rfl]
    simp only [G.ret_bind]
    refine G.wp_bind.mpr (G.wp_mono (names_b1 hF.k (by omega)) (fun q hq => ?_) fun _ x => x)
    obtain ⟨k, u4, u5, u6, u7, u8, u9, hk, hn, rfl⟩ := hq
    have hF' : NamesOk (F ++ [k]) := ⟨fun y hy => by
      rcases List.mem_append.mp hy with hy | hy
      · exact hF.k y hy
      · rw [List.mem_singleton.mp hy]; exact hk, by
      rw [List.nodup_append]
      exact ⟨hF.d, by simp, fun a ha b hb => by rw [List.mem_singleton.mp hb]; intro e; exact hn (e ▸ ha)⟩⟩
    refine G.wp_mono (names_loop ts (F ++ [k]) u4 u5 u6 u7 u8 u9 hF' (by rw [List.length_append]; simp; omega)) (fun q hq => ?_) fun _ x => x
    obtain ⟨F', v4, v5, v6, v7, v8, v9, h1, h2, rfl⟩ := hq
    exact ⟨F', v4, v5, v6, v7, v8, v9, h1, by simp only [List.length_append, List.length_cons, List.length_nil] at h2 ⊢; omega, rfl⟩
theorem names_wp {n : Int} (h1 : 0 ≤ n) (h2 : n ≤ 20) : (runR c__law_names 10 [.drw, .int n]).wp (fun t => ∃ F : List Str, NamesOk F ∧ F.length = n.toNat ∧ t = .lst (F.map T.str)) (fun _ => False) := by
  refine G.wp_bind.mpr ?_
  unfold c__law_names
  refine nx_wp (wp_eq (a := .nx [.fz .drw, .fz (.int n), .fz (.str LT), .ow (.lst (([] : List Str).map T.str)), .un, .un, .un, .un, .un, .un]) rfl ⟨_, rfl, ?_⟩)
  refine nx_wp ?_
  have e : (caCons (cVar 1) caNil) [.fz .drw, .fz (.int n), .fz (.str LT), .ow (.lst (([] : List Str).map T.str)), .un, .un, .un, .un, .un, .un] >>= rgOf = .ret (rngT 0 n.toNat) := rgOf_eq h1 (by omega)
  show ((caCons (cVar 1) caNil _ >>= rgOf) >>= _).wp _ _
  rw [e]
  refine G.wp_mono (names_loop (rngT 0 n.toNat) [] _ _ _ _ _ _ ⟨fun y hy => (nomatch hy), List.nodup_nil⟩ (by rw [rngT_len]; simp; omega)) (fun q hq => ?_) fun _ x => x
  obtain ⟨F', u4, u5, u6, u7, u8, u9, q1, q2, rfl⟩ := hq
  rw [rngT_len] at q2
  refine ⟨_, rfl, ?_⟩
  exact ⟨F', q1, by simpa using q2, rfl⟩
end LW
end s_M11l
section s_M11Ca
set_option Elab.async false
set_option linter.all false
set_option maxRecDepth 100000
set_option maxHeartbeats 4000000
/-! the memories' walk over any keys -/
namespace LW
open PySem PySem.Spec PyProof.Rows L2 TL
structure PEn (κ : Type) where
  key : κ
  age : Int
  count : Int
  left : Int
  deriving DecidableEq
inductive Hn (κ : Type) where
  | left (k : κ) | lost (k : κ) (n : Int) | again (k : κ) (n : Int) | line (k : κ)
  deriving DecidableEq
inductive Sg (κ : Type) where
  | say (k : κ) | tick
  deriving DecidableEq
section
variable {κ : Type} [DecidableEq κ]
abbrev PM (κ : Type) := List (PEn κ) × List (Hn κ)
def pIsOut (r : Ru) (c : Int) : Bool := bif decide (c < r.first) then false else bif decide (r.nth = 0) then true else decide (c < r.last)
def pLeft (r : Ru) (e : PEn κ) : PEn κ × List (Hn κ) :=
  let l := bif decide (e.left = r.most) then e.left else e.left + 1
  let hs := bif decide (e.left = r.most) then [Hn.left e.key, .lost e.key 1] else [Hn.left e.key]
  let tl := bif decide (l = r.most) then r.tell else false
  (⟨e.key, e.age, bif decide (r.nth = 0) then e.count else e.count + 1, bif tl then 0 else l⟩, bif tl then hs ++ [.again e.key l] else hs)
def pWritten (r : Ru) (e : PEn κ) : PEn κ × List (Hn κ) :=
  let ag := bif decide (0 < e.left) then r.ahead else false
  (⟨e.key, e.age, bif decide (e.count < r.first) then e.count + 1 else r.first, bif ag then 0 else e.left⟩, bif ag then [.again e.key e.left, .line e.key] else [.line e.key])
def pOutOr (r : Ru) (e : PEn κ) : PEn κ × List (Hn κ) := bif pIsOut r e.count then pLeft r e else pWritten r e
def pAgain (r : Ru) (e : PEn κ) : PEn κ × List (Hn κ) :=
  bif decide (e.count = 0) then (⟨e.key, 0, 1, 0⟩, [.again e.key e.left, .line e.key]) else
  (⟨e.key, bif r.renew then 0 else (pOutOr r e).1.age, (pOutOr r e).1.count, (pOutOr r e).1.left⟩, (pOutOr r e).2)
def pAged (r : Ru) (w : Int) (e : PEn κ) : PM κ :=
  bif decide (e.count = 0) then ([e], []) else bif decide (e.age + 1 < w) then ([⟨e.key, e.age + 1, e.count, e.left⟩], []) else bif decide (e.left = 0) then ([], []) else
  bif r.atend then ([], [.again e.key e.left]) else bif r.ahead then ([⟨e.key, 0, 0, e.left⟩], []) else ([], [.lost e.key e.left])
def pTickL (r : Ru) (w : Int) : List (PEn κ) → PM κ → PM κ
  | [], s => s
  | e :: es, s => pTickL r w es ((pAged r w e).1 ++ s.1, s.2 ++ (pAged r w e).2)
def pTick (r : Ru) (M : List (PEn κ)) : PM κ :=
  match r.window with
  | none => (M, [])
  | some w => pTickL r w M.reverse ([], [])
def pTag (r : Ru) (e : PEn κ) : Hn κ := bif r.farewell then .again e.key e.left else .lost e.key e.left
def pFg (r : Ru) (e : PEn κ) : List (Hn κ) := bif decide (e.left = 0) then [] else [pTag r e]
def pSay (r : Ru) (M : List (PEn κ)) (k : κ) : PM κ :=
  match M.filter (fun e => decide (e.key = k)) with
  | e :: _ => ((pAgain r e).1 :: M.filter (fun e => !decide (e.key = k)), (pAgain r e).2)
  | [] => match (bif decide (r.slots = some (M.length : Int)) then M.getLast? else none) with
    | some g => (⟨k, 0, 1, 0⟩ :: M.dropLast, pFg r g ++ [.line k])
    | none => (⟨k, 0, 1, 0⟩ :: M, [.line k])
def pStep (r : Ru) (M : List (PEn κ)) : Sg κ → PM κ
  | .say k => pSay r M k
  | .tick => pTick r M
def pWalk (r : Ru) : List (PEn κ) → List (Sg κ) → List (PM κ)
  | _, [] => []
  | M, s :: ss => pStep r M s :: pWalk r (pStep r M s).1 ss
/-- under names -/
def PEn.of (f : κ → Str) (e : PEn κ) : En := ⟨f e.key, e.age, e.count, e.left⟩
def Hn.t (f : κ → Str) : Hn κ → T
  | .left k => hLeft (f k)
  | .lost k n => hLost (f k) n
  | .again k n => hAgain (f k) n
  | .line k => hLine (f k)
def Sg.t (f : κ → Str) : Sg κ → T
  | .say k => .tup [.str "say", .str (f k)]
  | .tick => .tup [.str "tick"]
variable {f : κ → Str} {r : Ru} {e : PEn κ} {M : List (PEn κ)} {k : κ}
theorem pLeft_of : leftOut r (e.of f) = ((pLeft r e).1.of f, (pLeft r e).2.map (Hn.t f)) := by
  unfold leftOut pLeft PEn.of
  cases decide (e.left = r.most) <;> cases r.tell <;> simp only [cond_true, cond_false]
  all_goals (try cases decide (e.left = r.most))
  all_goals (try cases decide (e.left + 1 = r.most))
  all_goals rfl
theorem pWritten_of : written r (e.of f) = ((pWritten r e).1.of f, (pWritten r e).2.map (Hn.t f)) := by
  unfold written pWritten PEn.of
  cases decide (0 < e.left) <;> cases r.ahead <;> rfl
theorem pOutOr_of : outOr r (e.of f) = ((pOutOr r e).1.of f, (pOutOr r e).2.map (Hn.t f)) := by
  unfold outOr pOutOr
  have h : isOut r (e.of f) = pIsOut r e.count := rfl
  rw [h]
  cases pIsOut r e.count
  · exact pWritten_of
  · exact pLeft_of
theorem pAgain_of : saidAgain r (e.of f) = ((pAgain r e).1.of f, (pAgain r e).2.map (Hn.t f)) := by
  unfold saidAgain pAgain
  rw [pOutOr_of]
  have h : decide ((e.of f).count = 0) = decide (e.count = 0) := rfl
  rw [h]
  cases decide (e.count = 0) <;> rfl
theorem pAged_of {w : Int} : aged r w (e.of f) = ((pAged r w e).1.map (PEn.of f), (pAged r w e).2.map (Hn.t f)) := by
  unfold aged pAged PEn.of
  dsimp only
  cases decide (e.count = 0) <;> cases decide (e.age + 1 < w) <;> cases decide (e.left = 0) <;> cases r.atend <;> cases r.ahead <;> rfl
theorem pTickL_of {w : Int} : ∀ (es : List (PEn κ)) (s : PM κ), tickL (aged r w) (es.map (PEn.of f)) (s.1.map (PEn.of f), s.2.map (Hn.t f)) = ((pTickL r w es s).1.map (PEn.of f), (pTickL r w es s).2.map (Hn.t f))
  | [], s => rfl
  | e :: es, s => by
    rw [List.map_cons, tickL, pTickL, pAged_of, ← pTickL_of es]
    simp only [List.map_append]
theorem pTick_of : tickOf r (M.map (PEn.of f)) = ((pTick r M).1.map (PEn.of f), (pTick r M).2.map (Hn.t f)) := by
  unfold tickOf pTick
  cases r.window with
  | none => rfl
  | some w =>
    dsimp only
    rw [← List.map_reverse]
    exact pTickL_of M.reverse ([], [])
theorem filter_of (hf : ∀ a b, f a = f b → a = b) (neg : Bool) : (M.map (PEn.of f)).filter (fun e => neg != has (f k) e) = (M.filter fun e => neg != decide (e.key = k)).map (PEn.of f) := by
  rw [List.filter_map]
  congr 1
  apply List.filter_congr
  intro x _
  have h : has (f k) (x.of f) = decide (x.key = k) := by
    show decide (f x.key = f k) = _
    rw [Bool.eq_iff_iff, decide_eq_true_iff, decide_eq_true_iff]
    exact ⟨hf _ _, fun e => by rw [e]⟩
  show (neg != has (f k) (x.of f)) = _
  rw [h]
theorem pSay_of (hf : ∀ a b, f a = f b → a = b) : sayOf r (M.map (PEn.of f)) (f k) = ((pSay r M k).1.map (PEn.of f), (pSay r M k).2.map (Hn.t f)) := by
  unfold sayOf sayG pSay
  have h1 := filter_of (M := M) (k := k) hf false
  have h2 := filter_of (M := M) (k := k) hf true
  simp only [Bool.false_bne, Bool.true_bne] at h1 h2
  have e1 : (M.map (PEn.of f)).filter (has (f k)) = (M.filter fun e => decide (e.key = k)).map (PEn.of f) := h1
  rw [e1]
  cases hl : M.filter (fun e => decide (e.key = k)) with
  | cons e l =>
    simp only [List.map_cons]
    rw [pAgain_of, h2]
  | nil =>
    simp only [List.map_nil]
    have hfull : full r (M.map (PEn.of f)) = decide (r.slots = some (M.length : Int)) := by unfold full; rw [List.length_map]
    rw [hfull]
    have hg : (bif decide (r.slots = some (M.length : Int)) then (M.map (PEn.of f)).getLast? else none) = (bif decide (r.slots = some (M.length : Int)) then M.getLast? else none).map (PEn.of f) := by
      cases decide (r.slots = some (M.length : Int)) <;> simp
    rw [hg]
    cases (bif decide (r.slots = some (M.length : Int)) then M.getLast? else none) with
    | none => rfl
    | some g =>
      simp only [Option.map_some, List.map_cons, List.map_append, List.map_nil, List.map_dropLast]
      congr 2
      unfold fg1 pFg tag pTag PEn.of
      dsimp only
      cases decide (g.left = 0) <;> cases r.farewell <;> rfl
end
end LW
end s_M11Ca
section s_M11Cb
set_option Elab.async false
set_option linter.all false
set_option maxRecDepth 100000
set_option maxHeartbeats 4000000
/-! courses: signs, walked -/
namespace LW
open PySem PySem.Spec PyProof.Rows L2 TL
theorem fIsi_tup {ts : List T} : fIsi "Rule" [.ty "tuple"] (.tup ts) = .ret (.bl true) := rfl
theorem fIsi_str {x : Str} : fIsi "Rule" [.ty "str"] (.str x) = .ret (.bl true) := rfl
theorem fIsi_lst {ts : List T} : fIsi "Rule" [.ty "list", .ty "tuple"] (.lst ts) = .ret (.bl true) := rfl
theorem fIsi_lst2 {ts : List T} : fIsi "Rule" [.ty "list", .ty "tuple"] (.tup ts) = .ret (.bl true) := rfl
theorem fIsi_rule {r : Ru} : fIsi "Rule" [.own "Rule"] r.t = .ret (.bl true) := by kernel_rfl
theorem fLen_tup1 {a : T} : fLen [.tup [a]] = .ret (.int 1) := rfl
theorem fLen_tup2 {a b : T} : fLen [.tup [a, b]] = .ret (.int 2) := rfl
theorem fLen_tup3 {a b c : T} : fLen [.tup [a, b, c]] = .ret (.int 3) := rfl
theorem ix_0 {a : T} {ts : List T} : fIx (.tup (a :: ts)) (.int 0) = .ret a := by
  have h : ixN (ts.length + 1) 0 = some 0 := by unfold ixN; rw [if_pos (by omega), if_pos (by omega)]; rfl
  show (match atI (a :: ts) 0 with | some t => G.ret t | none => .stuck) = _
  unfold atI
  rw [show (a :: ts).length = ts.length + 1 from rfl, h]
  rfl
theorem ix_1 {a b : T} {ts : List T} : fIx (.tup (a :: b :: ts)) (.int 1) = .ret b := by
  have h : ixN (ts.length + 2) 1 = some 1 := by unfold ixN; rw [if_pos (by omega), if_pos (by omega)]; rfl
  show (match atI (a :: b :: ts) 1 with | some t => G.ret t | none => .stuck) = _
  unfold atI
  rw [show (a :: b :: ts).length = ts.length + 2 from rfl, h]
  rfl
theorem sgSay : decide (("say" : Str) = "tick") = false := by decide
theorem sgTick : decide (("tick" : Str) = "say") = false := by decide
theorem sgSay' : decide (("say" : Str) = "say") = true := by decide
theorem sgTick' : decide (("tick" : Str) = "tick") = true := by decide
theorem dI20 : decide ((2 : Int) = 0) = false := by decide
theorem dI10 : decide ((1 : Int) = 0) = false := by decide
local macro_rules | `(tactic| walk_at "tl") => `(tactic| simp only [cSeq, cSet, cSetO, cVar, cC, cOp1, cOp2, cTup, cLst, caNil, caCons, cCall, cB, asB, cNotT, cAndT, cOrT, cAndV, cOrV, cNotV, cIf, cIfS, cRet, cRetO, cFld, cAsg, cFrz, frzS, cPar, cMany, setR, cMut, cAugI, fII,
  eqInt, eqFull, fl_first, fl_window, fl_renew, fl_nth, fl_ahead, fl_atend, fl_most, fl_full, fl_slots, fl_farewell, md_first, md_window, md_renew, md_nth, md_ahead, md_atend, md_most, md_full, md_slots, md_farewell, ix_key, ix_age, ix_count, ix_left, gc4, gc2, fMax2, fMin2, fAdd, mAppend, mExtend, tyT, fCat, oiT_some, oiT_none, cSl, coNone, coSome, fI1, cTupS, cLstS, caStar, seqOf_lst, fits1, fits2, fits3, cDrop, fGeI, List.append_nil, fIsN, fNotN, fTuple, fLen_lst, fIsi_tup, fIsi_str, fIsi_lst, fLen_tup1, fLen_tup2, fLen_tup3, ix_0, ix_1, sgSay, sgTick, sgSay', sgTick', dI10, dI20, fIsi_lst2, fIsi_rule, fSubI, fGeI, fEqStr,
  G.ret_bind, G.pure_bind', G.exc_bind, G.stuck_bind, G.pick_bind, List.getElem?_cons_zero, List.getElem?_cons_succ, List.set_cons_zero, List.set_cons_succ, List.length_cons, List.length_nil, List.map_cons, List.map_nil, List.cons_append, List.nil_append, List.replicate_succ, List.replicate_zero,
  if_true, if_false, Bool.false_eq_true, Bool.true_eq_false, Bool.not_true, Bool.not_false, reduceIte, cond_true, cond_false, Bool.false_bne, Bool.true_bne, Bool.and_true, Bool.true_and, Bool.and_false, Bool.false_and, Nat.reduceAdd, Nat.reduceSub, Nat.reduceLeDiff, decide_true, *])
section
variable {κ : Type} [DecidableEq κ] {f : κ → Str} {r : Ru} {M : List (PEn κ)} {s : Sg κ}
structure Kx (f : κ → Str) : Prop where
  inj : ∀ a b, f a = f b → a = b
  ok : ∀ k, KeyOk (f k)
  fin : ∃ F : List κ, (∀ k, k ∈ F) ∧ F.length ≤ 19
theorem isSign_eq (K : Kx f) : runB c_is_sign 1 [s.t f] = .ret (.bl true) := by
  cases s with
  | say k =>
    have q := isKey_eq (K.ok k)
    unfold runB c_is_sign Sg.t
    walk_at "tl"
  | tick =>
    unfold runB c_is_sign Sg.t
    walk_at "tl"
theorem for_cons {g : GC} {c : SC} {t : T} {ts : List T} {ρ ρ1 ρ2 : List Sl} (h1 : g t ρ = .ret ρ1) (h2 : c ρ1 = .ret (.nx ρ2)) : forG g c (t :: ts) ρ = forG g c ts ρ2 := by
  rw [forG, h1]
  simp only [G.ret_bind, h2]
theorem for_eq {ci : List Sl → G (List T)} {g : GC} {c : SC} {ts : List T} {ρ : List Sl} (h : ci ρ = .ret ts) : cFor ci g c ρ = forG g c ts ρ := by unfold cFor; rw [h]; rfl
theorem drop_eq {ca : EC} {t : T} {ρ : List Sl} (h : ca ρ = .ret t) : cDrop ca ρ = .ret (.nx ρ) := by unfold cDrop; rw [h]; rfl
theorem var_eq {i : Nat} {ρ : List Sl} {t : T} (h : ρ[i]? = some (.fz t)) : cVar i ρ = .ret t := by unfold cVar; rw [h]
theorem gcn {i : Nat} {t : T} {ρ : List Sl} : gcName i t ρ = .ret (ρ.set i (.fz t)) := rfl
theorem needLoop (K : Kx f) : ∀ (cs : List (Sg κ)) (k : Nat) (x0 x1 x2 : Sl), ∃ y1 y2,
    forG (gcTup 2 (gcsCons (gcName 1) (gcsCons (gcName 2) gcsNil))) c_need_course_b1 (enumT k (cs.map (Sg.t f))) [x0, x1, x2] = .ret (.nx [x0, y1, y2])
  | [], k, x0, x1, x2 => ⟨x1, x2, rfl⟩
  | s :: cs, k, x0, x1, x2 => by
    obtain ⟨y1, y2, h⟩ := needLoop K cs (k + 1) x0 (.fz (.int (k : Nat))) (.fz (s.t f))
    refine ⟨y1, y2, ?_⟩
    rw [List.map_cons, enumT, for_cons gc2 (ρ2 := [x0, .fz (.int (k : Nat)), .fz (s.t f)]) ?_]
    · exact h
    · have q := isSign_eq (s := s) K
      have e : cCall (runB c_is_sign 1) (caCons (cVar 2) caNil) [x0, .fz (.int (k : Nat)), .fz (s.t f)] = .ret (.bl true) := (call_eq (cons_eq (var_eq rfl) rfl)).trans q
      unfold c_need_course_b1
      exact (ifS_f (notT_eq (b_eq e))).trans rfl
theorem isList_eq {t : T} {ts : List T} (h : t = .lst ts ∨ t = .tup ts) : runB c_is_list 1 [t] = .ret (.bl true) := by
  unfold c_is_list
  refine runB_eq (ret_eq ?_)
  rcases h with rfl | rfl <;> rfl
theorem needCourse_eq (K : Kx f) {t : T} (cs : List (Sg κ)) (h : t = .lst (cs.map (Sg.t f)) ∨ t = .tup (cs.map (Sg.t f))) : runB c_need_course 3 [t] = .ret .non := by
  have q := isList_eq h
  obtain ⟨y1, y2, hl⟩ := needLoop K cs 0 (.fz t) .un .un
  have e : cCall (runB c_is_list 1) (caCons (cVar 0) caNil) [.fz t, .un, .un] = .ret (.bl true) := (call_eq (cons_eq (var_eq rfl) rfl)).trans q
  have e2 : (caCons (cVar 0) caNil [.fz t, .un, .un] >>= enumOf) = .ret (enumT 0 (cs.map (Sg.t f))) := by
    rcases h with rfl | rfl <;> rfl
  unfold runB c_need_course
  show (cSeq _ _ [.fz t, .un, .un] >>= _) = _
  rw [seq_nx (show cIfS _ _ _ [.fz t, .un, .un] = .ret (.nx [.fz t, .un, .un]) from (ifS_f (notT_eq (b_eq e))).trans rfl), for_eq e2, hl]
  rfl
theorem needRule_eq {p : T} : runB c_need_rule 2 [r.t, p] = .ret .non := by
  have q : fIsi "Rule" [.own "Rule"] r.t = .ret (.bl true) := fIsi_rule
  unfold runB c_need_rule
  show (cIfS _ _ _ [.fz r.t, .fz p] >>= _) = _
  rw [ifS_f (notT_eq (b_eq ((op1_eq (var_eq rfl)).trans q)))]
  rfl
/-- memories and happenings under names -/
def stT (f : κ → Str) (q : PM κ) : T := .tup [memT (q.1.map (PEn.of f)), .lst (q.2.map (Hn.t f))]
theorem nodup_of_map {α β : Type} {g : α → β} : ∀ {l : List α}, (l.map g).Nodup → l.Nodup
  | [], _ => List.nodup_nil
  | x :: l, h => by
    rw [List.map_cons, List.nodup_cons] at h
    exact List.nodup_cons.mpr ⟨fun hx => h.1 (List.mem_map_of_mem hx), nodup_of_map h.2⟩
theorem len_le (K : Kx f) (h : Mok r (M.map (PEn.of f))) : M.length ≤ 19 := by
  obtain ⟨F, hF, hl⟩ := K.fin
  have nd : (M.map PEn.key).Nodup := by
    have := h.d
    rw [List.map_map] at this
    have e : (En.key ∘ PEn.of f) = f ∘ PEn.key := rfl
    rw [e, ← List.map_map] at this
    exact nodup_of_map this
  have := nodup_len (M.map PEn.key) F nd fun x _ => hF x
  rw [List.length_map] at this
  omega
theorem pStep_ok (K : Kx f) (hr : r.ok) (h : Mok r (M.map (PEn.of f))) : Mok r ((pStep r M s).1.map (PEn.of f)) := by
  cases s with
  | say k =>
    have q := sayOf_ok hr h (K.ok k) (by rw [List.length_map]; exact len_le K h)
    rw [pSay_of K.inj] at q
    exact q
  | tick =>
    have q := tickOf_ok hr h
    rw [pTick_of] at q
    exact q
theorem pStep_len (K : Kx f) (hr : r.ok) (h : Mok r (M.map (PEn.of f))) : (pStep r M s).2.length ≤ 20 := by
  cases s with
  | say k =>
    have q := (sayOf_hs hr h (K.ok k)).n
    rw [pSay_of K.inj, List.length_map] at q
    exact q
  | tick =>
    have q := (tickOf_hs hr h).n
    rw [pTick_of, List.length_map] at q
    exact q
theorem signOf_eq (K : Kx f) (hr : r.ok) (h : Mok r (M.map (PEn.of f))) : runB c_sign_of 3 [r.t, memT (M.map (PEn.of f)), s.t f] = .ret (stT f (pStep r M s)) := by
  have hM : (M.map (PEn.of f)).length ≤ 500 := by have := h.l; omega
  cases s with
  | say k =>
    have q := sayOf_eq (k := f k) hr hM fun e he => enRO hr (h.e e he)
    rw [pSay_of K.inj] at q
    unfold runB c_sign_of Sg.t
    generalize memT (M.map (PEn.of f)) = L at q
    walk_at "tl"
    rfl
  | tick =>
    have q := tickOf_eq (r := r) hM
    rw [pTick_of] at q
    unfold runB c_sign_of Sg.t
    generalize memT (M.map (PEn.of f)) = L at q
    walk_at "tl"
    rfl
def pEnd (r : Ru) : List (PEn κ) → List (Sg κ) → List (PEn κ)
  | M, [] => M
  | M, s :: ss => pEnd r (pStep r M s).1 ss
theorem pEnd_ok (K : Kx f) (hr : r.ok) : ∀ (cs : List (Sg κ)) {M : List (PEn κ)}, Mok r (M.map (PEn.of f)) → Mok r ((pEnd r M cs).map (PEn.of f))
  | [], _, h => h
  | _ :: cs, _, h => pEnd_ok K hr cs (pStep_ok K hr h)
theorem pWalk_len : ∀ (cs : List (Sg κ)) (M : List (PEn κ)), (pWalk r M cs).length = cs.length
  | [], _ => rfl
  | s :: cs, M => by rw [pWalk, List.length_cons, List.length_cons, pWalk_len cs]
theorem walkLoop (K : Kx f) (hr : r.ok) : ∀ (cs : List (Sg κ)) (M : List (PEn κ)) (acc : List T) (x1 x4 x5 : Sl), Mok r (M.map (PEn.of f)) → acc.length + cs.length ≤ 1000 → ∃ y4 y5,
    forG (gcName 4) c_walked_b1 (cs.map (Sg.t f)) [.fz r.t, x1, .ow (.lst acc), .fz (memT (M.map (PEn.of f))), x4, x5] =
      .ret (.nx [.fz r.t, x1, .ow (.lst (acc ++ (pWalk r M cs).map (stT f))), .fz (memT ((pEnd r M cs).map (PEn.of f))), y4, y5])
  | [], M, acc, x1, x4, x5, h, hl => ⟨x4, x5, by simp only [pWalk, pEnd, List.map_nil, List.append_nil]; rfl⟩
  | s :: cs, M, acc, x1, x4, x5, h, hl => by
    rw [List.length_cons] at hl
    obtain ⟨y4, y5, ih⟩ := walkLoop K hr cs (pStep r M s).1 (acc ++ [stT f (pStep r M s)]) x1 (.fz (s.t f)) (.fz (.lst ((pStep r M s).2.map (Hn.t f)))) (pStep_ok K hr h) (by rw [List.length_append, List.length_singleton]; omega)
    refine ⟨y4, y5, ?_⟩
    have q := signOf_eq (s := s) K hr h
    rw [List.map_cons, for_cons gcn (ρ2 := [.fz r.t, x1, .ow (.lst (acc ++ [stT f (pStep r M s)])), .fz (memT ((pStep r M s).1.map (PEn.of f))), .fz (s.t f), .fz (.lst ((pStep r M s).2.map (Hn.t f)))]) ?_]
    · rw [ih]
      simp only [pWalk, pEnd, List.map_cons, List.append_assoc, List.singleton_append]
    · have e : cCall (runB c_sign_of 3) (caCons (cVar 0) (caCons (cVar 3) (caCons (cVar 4) caNil))) [.fz r.t, x1, .ow (.lst acc), .fz (memT (M.map (PEn.of f))), .fz (s.t f), x5] = .ret (stT f (pStep r M s)) := (call_eq (cons_eq (var_eq rfl) (cons_eq (var_eq rfl) (cons_eq (var_eq rfl) rfl)))).trans q
      unfold c_walked_b1
      have e2 : cAsg (gcTup 2 (gcsCons (gcName 3) (gcsCons (gcName 5) gcsNil))) (cCall (runB c_sign_of 3) (caCons (cVar 0) (caCons (cVar 3) (caCons (cVar 4) caNil)))) [.fz r.t, x1, .ow (.lst acc), .fz (memT (M.map (PEn.of f))), .fz (s.t f), x5] =
          .ret (.nx [.fz r.t, x1, .ow (.lst acc), .fz (memT ((pStep r M s).1.map (PEn.of f))), .fz (s.t f), .fz (.lst ((pStep r M s).2.map (Hn.t f)))]) := by
        unfold cAsg
        rw [e]
        simp only [G.ret_bind, stT, gc2]
        rfl
      show cSeq _ _ [.fz r.t, x1, .ow (.lst acc), .fz (memT (M.map (PEn.of f))), .fz (s.t f), x5] = _
      rw [seq_nx e2]
      refine mut_eq (b := .lst acc) rfl (cons_eq (tup_eq (cons_eq (var_eq rfl) (cons_eq (var_eq rfl) rfl))) rfl) ?_ rfl
      show (if fits (acc.length + 1) then some (T.lst (acc ++ [stT f (pStep r M s)])) else none) = _
      rw [if_pos (show fits (acc.length + 1) = true from decide_eq_true (by omega))]
theorem mok_nil (hr : r.ok) : Mok r (([] : List (PEn κ)).map (PEn.of f)) := ⟨fun e he => (nomatch he), List.nodup_nil, Nat.zero_le _, fun s hs => by have := (hr.s s hs).1; simp; omega⟩
theorem walked_eq (K : Kx f) (hr : r.ok) {t : T} (cs : List (Sg κ)) (h : t = .lst (cs.map (Sg.t f)) ∨ t = .tup (cs.map (Sg.t f))) (hl : cs.length ≤ 1000) : runR c_walked 6 [r.t, t] = .ret (.lst ((pWalk r [] cs).map (stT f))) := by
  obtain ⟨y4, y5, q⟩ := walkLoop K hr cs [] [] (.fz t) .un .un (mok_nil hr) (by simpa using hl)
  unfold runR c_walked
  show (cSeq _ _ [.fz r.t, .fz t, .un, .un, .un, .un] >>= _) = _
  rw [seq_nx (r' := [.fz r.t, .fz t, .ow (.lst []), .fz (.tup []), .un, .un]) (by rfl)]
  have e2 : (cVar 1 [.fz r.t, .fz t, .ow (.lst []), .fz (.tup []), .un, .un] >>= anyOf) = .ret (cs.map (Sg.t f)) := by
    rcases h with rfl | rfl <;> rfl
  have e3 : cFor (fun r => cVar 1 r >>= anyOf) (gcName 4) c_walked_b1 [.fz r.t, .fz t, .ow (.lst []), .fz (.tup []), .un, .un] = _ := (for_eq (g := gcName 4) (c := c_walked_b1) e2).trans q
  rw [seq_nx e3]
  rfl
end
end LW
end s_M11Cb
section s_M11Cc
set_option Elab.async false
set_option linter.all false
set_option maxRecDepth 100000
set_option maxHeartbeats 4000000
/-! logs, the memory behind a course -/
namespace LW
open PySem PySem.Spec PyProof.Rows L2 TL
inductive Ln (κ : Type) where
  | line (k : κ) | again (k : κ) (n : Int) | tick
  deriving DecidableEq
local macro_rules | `(tactic| walk_at "tl") => `(tactic| simp only [cSeq, cSet, cSetO, cVar, cC, cOp1, cOp2, cTup, cLst, caNil, caCons, cCall, cB, asB, cNotT, cAndT, cOrT, cAndV, cOrV, cNotV, cIf, cIfS, cRet, cRetO, cFld, cAsg, cFrz, frzS, cPar, cMany, setR, cMut, cAugI, fII,
  eqInt, eqFull, fl_first, fl_window, fl_renew, fl_nth, fl_ahead, fl_atend, fl_most, fl_full, fl_slots, fl_farewell, md_first, md_window, md_renew, md_nth, md_ahead, md_atend, md_most, md_full, md_slots, md_farewell, ix_key, ix_age, ix_count, ix_left, gc4, gc2, fMax2, fMin2, fAdd, mAppend, mExtend, tyT, fCat, oiT_some, oiT_none, cSl, coNone, coSome, fI1, cTupS, cLstS, caStar, seqOf_lst, fits1, fits2, fits3, cDrop, fGeI, List.append_nil, fIsN, fNotN, fTuple, fLen_lst, fIsi_tup, fIsi_str, fIsi_lst, fLen_tup1, fLen_tup2, fLen_tup3, ix_0, ix_1, sgSay, sgTick, sgSay', sgTick', dI10, dI20, fIsi_lst2, fIsi_rule, fSubI, fGeI, fEqStr,
  G.ret_bind, G.pure_bind', G.exc_bind, G.stuck_bind, G.pick_bind, List.getElem?_cons_zero, List.getElem?_cons_succ, List.set_cons_zero, List.set_cons_succ, List.length_cons, List.length_nil, List.map_cons, List.map_nil, List.cons_append, List.nil_append, List.replicate_succ, List.replicate_zero,
  if_true, if_false, Bool.false_eq_true, Bool.true_eq_false, Bool.not_true, Bool.not_false, reduceIte, cond_true, cond_false, Bool.false_bne, Bool.true_bne, Bool.and_true, Bool.true_and, Bool.and_false, Bool.false_and, Nat.reduceAdd, Nat.reduceSub, Nat.reduceLeDiff, decide_true, *])
section
variable {κ : Type} [DecidableEq κ] {f : κ → Str} {r : Ru} {M : List (PEn κ)} {s : Sg κ}
def Ln.t (f : κ → Str) : Ln κ → T
  | .line k => hLine (f k)
  | .again k n => hAgain (f k) n
  | .tick => .tup [.str "tick"]
def Hn.told : Hn κ → Bool
  | .line _ => true
  | .again _ _ => true
  | _ => false
def Hn.ln : Hn κ → Option (Ln κ)
  | .line k => some (.line k)
  | .again k n => some (.again k n)
  | _ => none
def pLines (s : Sg κ) (hs : List (Hn κ)) : List (Ln κ) := hs.filterMap Hn.ln ++ (match s with | .tick => [Ln.tick] | _ => [])
def pLog (r : Ru) : List (PEn κ) → List (Sg κ) → List (Ln κ)
  | _, [] => []
  | M, s :: ss => pLines s (pStep r M s).2 ++ pLog r (pStep r M s).1 ss
theorem told_map : ∀ hs : List (Hn κ), (hs.filter Hn.told).map (Hn.t f) = (hs.filterMap Hn.ln).map (Ln.t f)
  | [] => rfl
  | h :: hs => by
    have ih := told_map hs
    cases h <;> simp only [List.filter_cons, List.filterMap_cons, Hn.told, Hn.ln, Bool.false_eq_true, if_false, if_true, List.map_cons, ih] <;> rfl
def KS : T := .tup [.str "line", .str "again"]
theorem inKS (h : Hn κ) : (fIx (h.t f) (.int 0) >>= fun a => fInB false a KS) = .ret (.bl h.told) := by
  cases h <;> kernel_rfl
theorem linesOf_eq (hs : List (Hn κ)) (hl : hs.length ≤ 1000) : runB c_lines_of 4 [s.t f, .lst (hs.map (Hn.t f))] = .ret (.lst ((pLines s hs).map (Ln.t f))) := by
  have q : cComp (fun r => cVar 1 r >>= anyOf) (gcName 3) (cB (cOp2 (fInB false) (cOp2 fIx (cVar 3) (cC (.int 0))) (cTup (caCons (cC (.str "line")) (caCons (cC (.str "again")) caNil))))) (cVar 3) [3] [.fz (s.t f), .fz (.lst (hs.map (Hn.t f))), .un, .un] =
      .ret (.lst ((hs.filterMap Hn.ln).map (Ln.t f))) := by
    unfold cComp
    show (G.ret (hs.map (Hn.t f)) >>= fun ts => compG _ _ _ ts [.fz (s.t f), .fz (.lst (hs.map (Hn.t f))), .un, .un] >>= fun us => G.ret (T.lst us)) = _
    rw [G.ret_bind, compG_filter (p := Hn.told) (show 3 < 4 by decide) fun h hh => ?_, G.ret_bind, told_map]
    have q := inKS (f := f) h
    refine b_eq ?_
    unfold cOp2
    show ((fIx (h.t f) (.int 0)) >>= fun a => (cTup _ _) >>= fun b => fInB false a b) = _
    exact q
  unfold runB c_lines_of
  show (cSeq _ _ [.fz (s.t f), .fz (.lst (hs.map (Hn.t f))), .un, .un] >>= _) = _
  have e : cSeqFrz 2 (cSetO 2 (cComp (fun r => cVar 1 r >>= anyOf) (gcName 3) (cB (cOp2 (fInB false) (cOp2 fIx (cVar 3) (cC (.int 0))) (cTup (caCons (cC (.str "line")) (caCons (cC (.str "again")) caNil))))) (cVar 3) [3])) [.fz (s.t f), .fz (.lst (hs.map (Hn.t f))), .un, .un] =
      .ret (.nx [.fz (s.t f), .fz (.lst (hs.map (Hn.t f))), .fz (.lst ((hs.filterMap Hn.ln).map (Ln.t f))), .un]) := by
    unfold cSeqFrz
    rw [setO_eq q]
    rfl
  rw [seq_nx e]
  cases s with
  | say k =>
    have e2 : pLines (.say k) hs = hs.filterMap Hn.ln := by unfold pLines; simp
    rw [e2]
    generalize (hs.filterMap Hn.ln).map (Ln.t f) = L
    unfold Sg.t
    walk_at "tl"
  | tick =>
    have e2 : (pLines .tick hs).map (Ln.t f) = (hs.filterMap Hn.ln).map (Ln.t f) ++ [.tup [.str "tick"]] := by unfold pLines; simp [Ln.t]
    have hf : fits ((hs.filterMap Hn.ln).map (Ln.t f) ++ [T.tup [T.str "tick"]]).length = true := by
      have := List.length_filterMap_le Hn.ln hs
      refine decide_eq_true ?_
      rw [List.length_append, List.length_map, List.length_singleton]
      omega
    rw [e2]
    generalize (hs.filterMap Hn.ln).map (Ln.t f) = L at hf
    unfold Sg.t
    walk_at "tl"
theorem pLines_len (s : Sg κ) (hs : List (Hn κ)) : (pLines s hs).length ≤ hs.length + 1 := by
  have := List.length_filterMap_le Hn.ln hs
  unfold pLines
  rw [List.length_append]
  cases s <;> simp <;> omega
theorem pLog_len (K : Kx f) (hr : r.ok) : ∀ (cs : List (Sg κ)) {M : List (PEn κ)}, Mok r (M.map (PEn.of f)) → (pLog r M cs).length ≤ 21 * cs.length
  | [], _, _ => by simp [pLog]
  | s :: cs, M, h => by
    have h1 := pLog_len K hr cs (pStep_ok (s := s) K hr h)
    have h2 := pLines_len s (pStep r M s).2
    have h3 := pStep_len (s := s) K hr h
    rw [pLog, List.length_append, List.length_cons]
    omega
theorem logLoop (K : Kx f) (hr : r.ok) : ∀ (cs : List (Sg κ)) (M : List (PEn κ)) (acc : List T) (x0 x1 x3 x4 : Sl), Mok r (M.map (PEn.of f)) → acc.length + 21 * cs.length ≤ 100000 → ∃ y3 y4,
    forG (gcTup 2 (gcsCons (gcName 3) (gcsCons (gcName 4) gcsNil))) c_log_by_b1 (zipT (cs.map (Sg.t f)) ((pWalk r M cs).map (stT f))) [x0, x1, .ow (.lst acc), x3, x4] =
      .ret (.nx [x0, x1, .ow (.lst (acc ++ (pLog r M cs).map (Ln.t f))), y3, y4])
  | [], M, acc, x0, x1, x3, x4, h, hl => ⟨x3, x4, by simp only [pWalk, pLog, List.map_nil, zipT, List.append_nil]; rfl⟩
  | s :: cs, M, acc, x0, x1, x3, x4, h, hl => by
    rw [List.length_cons] at hl
    have h2 := pLines_len s (pStep r M s).2
    have h3 := pStep_len (s := s) K hr h
    obtain ⟨y3, y4, ih⟩ := logLoop K hr cs (pStep r M s).1 (acc ++ (pLines s (pStep r M s).2).map (Ln.t f)) x0 x1 (.fz (s.t f)) (.fz (stT f (pStep r M s))) (pStep_ok K hr h) (by rw [List.length_append, List.length_map]; omega)
    refine ⟨y3, y4, ?_⟩
    rw [List.map_cons, pWalk, List.map_cons, zipT, for_cons gc2 (ρ2 := [x0, x1, .ow (.lst (acc ++ (pLines s (pStep r M s).2).map (Ln.t f))), .fz (s.t f), .fz (stT f (pStep r M s))]) ?_]
    · rw [ih, pLog, List.map_append, List.append_assoc]
    · have q := linesOf_eq (f := f) (s := s) (pStep r M s).2 (by omega)
      unfold c_log_by_b1
      refine mut_eq (b := .lst acc) rfl (cons_eq ((call_eq (cons_eq (var_eq rfl) (cons_eq ((op2_eq (var_eq rfl) rfl).trans ix_1) rfl))).trans q) rfl) ?_ rfl
      show (if fits (acc.length + ((pLines s (pStep r M s).2).map (Ln.t f)).length) then some (T.lst (acc ++ (pLines s (pStep r M s).2).map (Ln.t f))) else none) = _
      rw [if_pos (show fits _ = true from decide_eq_true (by rw [List.length_map]; omega))]
theorem logBy_eq (K : Kx f) (hr : r.ok) {t : T} (cs : List (Sg κ)) (h : t = .lst (cs.map (Sg.t f)) ∨ t = .tup (cs.map (Sg.t f))) (hl : cs.length ≤ 1000) : runR c_log_by 5 [r.t, t] = .ret (.lst ((pLog r [] cs).map (Ln.t f))) := by
  have qw := walked_eq K hr cs h hl
  obtain ⟨y3, y4, q⟩ := logLoop K hr cs [] [] (.fz r.t) (.fz t) .un .un (mok_nil hr) (by simp; omega)
  unfold runR c_log_by
  show (cSeq _ _ [.fz r.t, .fz t, .un, .un, .un] >>= _) = _
  rw [seq_nx (setO_eq (t := .lst []) rfl)]
  show (cSeq _ _ [.fz r.t, .fz t, .ow (.lst []), .un, .un] >>= _) = _
  have e1 : cCall (runR c_walked 6) (caCons (cVar 0) (caCons (cVar 1) caNil)) [.fz r.t, .fz t, .ow (.lst []), .un, .un] = .ret (.lst ((pWalk r [] cs).map (stT f))) := (call_eq (cons_eq (var_eq rfl) (cons_eq (var_eq rfl) rfl))).trans qw
  have e2 : ((caCons (cVar 1) (caCons (cCall (runR c_walked 6) (caCons (cVar 0) (caCons (cVar 1) caNil))) caNil)) [.fz r.t, .fz t, .ow (.lst []), .un, .un] >>= zipOf "PARTS" tab) = .ret (zipT (cs.map (Sg.t f)) ((pWalk r [] cs).map (stT f))) := by
    rw [cons_eq (var_eq rfl) (cons_eq e1 rfl)]
    rcases h with rfl | rfl <;> rfl
  have e3 := (for_eq (ci := fun r => (caCons (cVar 1) (caCons (cCall (runR c_walked 6) (caCons (cVar 0) (caCons (cVar 1) caNil))) caNil)) r >>= zipOf "PARTS" tab) (g := gcTup 2 (gcsCons (gcName 3) (gcsCons (gcName 4) gcsNil))) (c := c_log_by_b1) e2).trans q
  rw [seq_nx e3]
  rfl
theorem logOf_eq (K : Kx f) (hr : r.ok) {t : T} (cs : List (Sg κ)) (h : t = .lst (cs.map (Sg.t f)) ∨ t = .tup (cs.map (Sg.t f))) (hl : cs.length ≤ 1000) : runR c_log_of 2 [r.t, t] = .ret (.lst ((pLog r [] cs).map (Ln.t f))) := by
  have q := logBy_eq K hr cs h hl
  have e1 : cCall (fun ts => (runB c_need_rule 2) (pickL [0, 1] (ts ++ [.str "rule"]))) (caCons (cVar 0) caNil) [.fz r.t, .fz t] = .ret .non := (call_eq (ts := [r.t]) (cons_eq (var_eq rfl) rfl)).trans (show runB c_need_rule 2 [r.t, .str "rule"] = .ret .non from needRule_eq)
  have e2 : cCall (runB c_need_course 3) (caCons (cVar 1) caNil) [.fz r.t, .fz t] = .ret .non := (call_eq (cons_eq (var_eq rfl) rfl)).trans (needCourse_eq K cs h)
  have e3 : cCall (runR c_log_by 5) (caCons (cVar 0) (caCons (cVar 1) caNil)) [.fz r.t, .fz t] = .ret (.lst ((pLog r [] cs).map (Ln.t f))) := (call_eq (cons_eq (var_eq rfl) (cons_eq (var_eq rfl) rfl))).trans q
  unfold runR c_log_of
  show (cSeq _ _ [.fz r.t, .fz t] >>= _) = _
  rw [seq_nx (drop_eq e1), seq_nx (drop_eq e2), ret_eq e3]
  rfl
theorem neNilG {m : Nat} {ts : List T} (h : ∀ t ∈ ts, ∃ d, RO 5 m t d) : fEqB true (.lst ts) (.lst []) = .ret (.bl (!ts.isEmpty)) := by
  obtain ⟨ds, g⟩ := ROs.ofAll h
  rw [RO.eqB true (RO.lst g) (RO.lst (ROs.nil (n := 5))) (by omega) (by omega)]
  cases ts with
  | nil => have e := g.py; simp only [toPys, Option.some.injEq] at e; subst e; rfl
  | cons t ts =>
    obtain ⟨d, ds', k, k', rfl, _⟩ := g.uncons
    rfl
theorem stT_ro (K : Kx f) (hr : r.ok) (h : Mok r (M.map (PEn.of f))) : ∃ d, RO 5 20000 (stT f (pStep r M s)) d := by
  have ok := pStep_ok (s := s) K hr h
  obtain ⟨d1, g1⟩ := ROs.ofAll (n := 1) (m := 200) (ts := ((pStep r M s).1.map (PEn.of f)).map En.t) fun t ht => by
    obtain ⟨e, he, rfl⟩ := List.mem_map.mp ht
    exact enRO hr (ok.e e he)
  have hh : ∀ t ∈ (pStep r M s).2.map (Hn.t f), Hok t := by
    cases s with
    | say k => have q := (sayOf_hs hr h (K.ok k)).h; rw [pSay_of K.inj] at q; exact q
    | tick => have q := (tickOf_hs hr h).h; rw [pTick_of] at q; exact q
  obtain ⟨d2, g2⟩ := ROs.ofAll (n := 1) (m := 200) hh
  have l1 := ok.l
  have l2 := pStep_len (s := s) K hr h
  rw [List.length_map] at g1 g2
  exact ⟨_, (RO.tup (ROs.cons (RO.tup g1) (ROs.cons (RO.lst g2) ROs.nil))).mono (by omega) (by omega)⟩
theorem walk_ro (K : Kx f) (hr : r.ok) : ∀ (cs : List (Sg κ)) (M : List (PEn κ)), Mok r (M.map (PEn.of f)) → ∀ t ∈ (pWalk r M cs).map (stT f), ∃ d, RO 5 20000 t d
  | [], _, _, t, ht => by simp [pWalk] at ht
  | s :: cs, M, h, t, ht => by
    rw [pWalk, List.map_cons, List.mem_cons] at ht
    rcases ht with rfl | ht
    · exact stT_ro K hr h
    · exact walk_ro K hr cs _ (pStep_ok K hr h) t ht
theorem ix_lastL {ts : List T} {t : T} : fIx (.lst (ts ++ [t])) (.int (-1)) = .ret t := by
  show (match atI (ts ++ [t]) (-1) with | some t => G.ret t | none => .stuck) = _
  rw [atI_last]
theorem walk_last : ∀ (cs : List (Sg κ)) (M : List (PEn κ)), cs ≠ [] → ∃ ws q, pWalk r M cs = ws ++ [q] ∧ q.1 = pEnd r M cs
  | [], _, h => absurd rfl h
  | [s], M, _ => ⟨[], pStep r M s, rfl, rfl⟩
  | s :: s2 :: cs, M, _ => by
    obtain ⟨ws, q, h1, h2⟩ := walk_last (s2 :: cs) (pStep r M s).1 (by simp)
    exact ⟨pStep r M s :: ws, q, by rw [pWalk, h1]; rfl, h2⟩
/-- steps[-1][0] if steps != [] else () -/
theorem lastMem_eq (K : Kx f) (hr : r.ok) (cs : List (Sg κ)) {i : Nat} {ρ : List Sl} (h : ρ[i]? = some (.fz (.lst ((pWalk r [] cs).map (stT f))))) :
    cIf (cB (cOp2 fNe (cVar i) (cLst caNil))) (cOp2 fIx (cOp2 fIx (cVar i) (cOp1 (fI1 fun i => .int (-i)) (cC (.int 1)))) (cC (.int 0))) (cTup caNil) ρ = .ret (memT ((pEnd r [] cs).map (PEn.of f))) := by
  have e1 : cOp2 fNe (cVar i) (cLst caNil) ρ = fNe (.lst ((pWalk r [] cs).map (stT f))) (.lst []) := op2_eq (var_eq h) rfl
  have e2 := neNilG (walk_ro K hr cs [] (mok_nil hr))
  cases cs with
  | nil =>
    unfold cIf
    rw [b_eq (e1.trans e2)]
    rfl
  | cons s cs =>
    obtain ⟨ws, q, h1, h2⟩ := walk_last (r := r) (s :: cs) [] (by simp)
    have e3 : (((pWalk r [] (s :: cs)).map (stT f)).isEmpty) = false := rfl
    rw [e3] at e2
    unfold cIf
    rw [b_eq (e1.trans e2), G.ret_bind]
    simp only [Bool.not_false, if_true]
    have e4 : cOp2 fIx (cVar i) (cOp1 (fI1 fun i => .int (-i)) (cC (.int 1))) ρ = .ret (stT f q) := by
      refine (op2_eq (var_eq h) (u := .int (-1)) rfl).trans ?_
      rw [h1, List.map_append]
      exact ix_lastL
    refine (op2_eq e4 (u := .int 0) rfl).trans ?_
    rw [← h2]
    exact ix_0
theorem memoryBehind_eq (K : Kx f) (hr : r.ok) {t : T} (cs : List (Sg κ)) (h : t = .lst (cs.map (Sg.t f)) ∨ t = .tup (cs.map (Sg.t f))) (hl : cs.length ≤ 1000) : runB c_memory_behind 3 [r.t, t] = .ret (memT ((pEnd r [] cs).map (PEn.of f))) := by
  have q := walked_eq K hr cs h hl
  have e1 : cCall (fun ts => (runB c_need_rule 2) (pickL [0, 1] (ts ++ [.str "rule"]))) (caCons (cVar 0) caNil) [.fz r.t, .fz t, .un] = .ret .non := (call_eq (ts := [r.t]) (cons_eq (var_eq rfl) rfl)).trans (show runB c_need_rule 2 [r.t, .str "rule"] = .ret .non from needRule_eq)
  have e2 : cCall (runB c_need_course 3) (caCons (cVar 1) caNil) [.fz r.t, .fz t, .un] = .ret .non := (call_eq (cons_eq (var_eq rfl) rfl)).trans (needCourse_eq K cs h)
  have e3 : cCall (runR c_walked 6) (caCons (cVar 0) (caCons (cVar 1) caNil)) [.fz r.t, .fz t, .un] = .ret (.lst ((pWalk r [] cs).map (stT f))) := (call_eq (cons_eq (var_eq rfl) (cons_eq (var_eq rfl) rfl))).trans q
  unfold runB c_memory_behind
  show (cSeq _ _ [.fz r.t, .fz t, .un] >>= _) = _
  rw [seq_nx (drop_eq e1), seq_nx (drop_eq e2), seq_nx (set_eq e3), ret_eq (lastMem_eq K hr cs rfl)]
  rfl
end
end LW
end s_M11Cc
section s_M11Cd
set_option Elab.async false
set_option linter.all false
set_option maxRecDepth 100000
set_option maxHeartbeats 4000000
/-! tallies -/
namespace LW
open PySem PySem.Spec PyProof.Rows L2 TL
structure T5 where
  said : Int
  line : Int
  told : Int
  lost : Int
  untold : Int
  deriving DecidableEq
def T5.ts (v : T5) : List T := [.int v.said, .int v.line, .int v.told, .int v.lost, .int v.untold]
def T5.z : T5 := ⟨0, 0, 0, 0, 0⟩
local macro_rules | `(tactic| walk_at "tl") => `(tactic| simp only [cSeq, cSet, cSetO, cVar, cC, cOp1, cOp2, cTup, cLst, caNil, caCons, cCall, cB, asB, cNotT, cAndT, cOrT, cAndV, cOrV, cNotV, cIf, cIfS, cRet, cRetO, cFld, cAsg, cFrz, frzS, cPar, cMany, setR, cMut, cAugI, fII,
  eqInt, eqFull, fl_first, fl_window, fl_renew, fl_nth, fl_ahead, fl_atend, fl_most, fl_full, fl_slots, fl_farewell, md_first, md_window, md_renew, md_nth, md_ahead, md_atend, md_most, md_full, md_slots, md_farewell, ix_key, ix_age, ix_count, ix_left, gc4, gc2, fMax2, fMin2, fAdd, mAppend, mExtend, tyT, fCat, oiT_some, oiT_none, cSl, coNone, coSome, fI1, cTupS, cLstS, caStar, seqOf_lst, fits1, fits2, fits3, cDrop, fGeI, List.append_nil, fIsN, fNotN, fTuple, fLen_lst, fIsi_tup, fIsi_str, fIsi_lst, fLen_tup1, fLen_tup2, fLen_tup3, ix_0, ix_1, sgSay, sgTick, sgSay', sgTick', dI10, dI20, fIsi_lst2, fIsi_rule, fSubI, fGeI, fEqStr,
  G.ret_bind, G.pure_bind', G.exc_bind, G.stuck_bind, G.pick_bind, List.getElem?_cons_zero, List.getElem?_cons_succ, List.set_cons_zero, List.set_cons_succ, List.length_cons, List.length_nil, List.map_cons, List.map_nil, List.cons_append, List.nil_append, List.replicate_succ, List.replicate_zero,
  if_true, if_false, Bool.false_eq_true, Bool.true_eq_false, Bool.not_true, Bool.not_false, reduceIte, cond_true, cond_false, Bool.false_bne, Bool.true_bne, Bool.and_true, Bool.true_and, Bool.and_false, Bool.false_and, Nat.reduceAdd, Nat.reduceSub, Nat.reduceLeDiff, decide_true, *])
section
variable {κ : Type} [DecidableEq κ] {f : κ → Str} {r : Ru} {M : List (PEn κ)} {s : Sg κ} {g : κ → T5} {k : κ}
def upF (g : κ → T5) (k : κ) (v : T5) : κ → T5 := fun x => if x = k then v else g x
def dpT (f : κ → Str) (Kd : List κ) (g : κ → T5) : List (T × T) := Kd.map fun k => (.str (f k), .lst (g k).ts)
theorem keyT_f (hf : ∀ a b, f a = f b → a = b) {x k : κ} : keyT (.str (f x)) = keyT (.str (f k)) ↔ x = k := by
  simp only [keyT, Option.some.injEq, Sum.inr.injEq]
  exact ⟨hf _ _, fun e => by rw [e]⟩
theorem addD_up (hf : ∀ a b, f a = f b → a = b) {v : T5} : ∀ {Kd : List κ}, Kd.Nodup → k ∈ Kd → addD (dpT f Kd g) (.str (f k)) (.lst v.ts) = dpT f Kd (upF g k v)
  | [], _, h => (nomatch h)
  | x :: Kd, nd, h => by
    obtain ⟨n1, n2⟩ := List.nodup_cons.mp nd
    unfold dpT
    rw [List.map_cons, addD, List.map_cons]
    by_cases e : x = k
    · subst e
      rw [if_pos rfl]
      have h1 : upF g x v x = v := if_pos rfl
      rw [h1]
      congr 1
      refine List.map_congr_left fun y hy => ?_
      have h2 : upF g x v y = g y := if_neg fun z => n1 (by rw [← z]; exact hy)
      rw [h2]
    · rw [if_neg fun z => e ((keyT_f hf).mp z)]
      have h1 : upF g k v x = g x := if_neg e
      rw [h1]
      congr 1
      exact addD_up hf n2 (by rcases List.mem_cons.mp h with z | z; exact absurd z.symm e; exact z)
theorem addD_new (hf : ∀ a b, f a = f b → a = b) {t : T} : ∀ {Kd : List κ}, k ∉ Kd → addD (dpT f Kd g) (.str (f k)) t = dpT f Kd g ++ [(.str (f k), t)]
  | [], _ => rfl
  | x :: Kd, h => by
    unfold dpT
    rw [List.map_cons, addD, if_neg fun z => h (by rw [(keyT_f hf).mp z]; simp)]
    rw [List.cons_append]
    congr 1
    exact addD_new hf fun z => h (by simp [z])
theorem dGet_dp (hf : ∀ a b, f a = f b → a = b) : ∀ {Kd : List κ}, k ∈ Kd → dGet (dpT f Kd g) (.inr (f k)) = some (.lst (g k).ts)
  | [], h => (nomatch h)
  | x :: Kd, h => by
    unfold dpT dGet
    rw [List.map_cons]
    by_cases e : x = k
    · subst e
      rw [List.find?_cons_of_pos (by simp [keyT])]
      rfl
    · rw [List.find?_cons_of_neg (by simp only [keyT, decide_eq_true_eq, Option.some.injEq, Sum.inr.injEq]; exact fun z => e (hf _ _ z))]
      exact dGet_dp hf (by rcases List.mem_cons.mp h with z | z; exact absurd z.symm e; exact z)
theorem dpGet_eq (hf : ∀ a b, f a = f b → a = b) {Kd : List κ} (h : k ∈ Kd) : dpGet (dpT f Kd g) (.str (f k)) = some (g k).ts := by
  unfold dpGet
  simp only [keyT, dGet_dp hf h]
def pKeys : List κ → List (Sg κ) → List κ
  | K, [] => K
  | K, .say k :: cs => pKeys (if k ∈ K then K else K ++ [k]) cs
  | K, .tick :: cs => pKeys K cs
def gSaid (g : κ → T5) : List (Sg κ) → κ → T5
  | [] => g
  | .say k :: cs => gSaid (upF g k { g k with said := (g k).said + 1 }) cs
  | .tick :: cs => gSaid g cs
def gHap (g : κ → T5) : Hn κ → κ → T5
  | .line k => upF g k { g k with line := (g k).line + 1 }
  | .again k n => upF g k { g k with told := (g k).told + n }
  | .lost k n => upF g k { g k with lost := (g k).lost + n }
  | .left _ => g
def gHaps (g : κ → T5) : List (Hn κ) → κ → T5
  | [] => g
  | h :: hs => gHaps (gHap g h) hs
def gSteps (r : Ru) (g : κ → T5) : List (PEn κ) → List (Sg κ) → κ → T5
  | _, [] => g
  | M, s :: cs => gSteps r (gHaps g (pStep r M s).2) (pStep r M s).1 cs
def gLeft (g : κ → T5) : List (PEn κ) → κ → T5
  | [] => g
  | e :: es => gLeft (upF g e.key { g e.key with untold := e.left }) es
def pTally (r : Ru) (cs : List (Sg κ)) : κ → T5 := gLeft (gSteps r (gSaid (fun _ => T5.z) cs) [] cs) (pEnd r [] cs)
/-! keys -/
def Hn.key : Hn κ → κ
  | .left k => k
  | .lost k _ => k
  | .again k _ => k
  | .line k => k
def Sg.okP (P : κ → Prop) : Sg κ → Prop
  | .say k => P k
  | .tick => True
theorem pOutOr_key {e : PEn κ} : ∀ h ∈ (pOutOr r e).2, h.key = e.key := by
  unfold pOutOr pLeft pWritten
  cases pIsOut r e.count <;> simp only [cond_true, cond_false]
  · cases (bif decide (0 < e.left) then r.ahead else false) <;> simp [Hn.key]
  · cases decide (e.left = r.most) <;> simp only [cond_true, cond_false]
    · cases (bif decide (e.left + 1 = r.most) then r.tell else false) <;> simp [Hn.key]
    · cases (bif decide (e.left = r.most) then r.tell else false) <;> simp [Hn.key]
theorem pAgain_key {e : PEn κ} : (pAgain r e).1.key = e.key ∧ ∀ h ∈ (pAgain r e).2, h.key = e.key := by
  unfold pAgain
  cases decide (e.count = 0) <;> simp only [cond_true, cond_false]
  · exact ⟨trivial, pOutOr_key⟩
  · simp [Hn.key]
theorem pAged_key {w : Int} {e : PEn κ} : (∀ x ∈ (pAged r w e).1, x.key = e.key) ∧ ∀ h ∈ (pAged r w e).2, h.key = e.key := by
  unfold pAged
  cases decide (e.count = 0) <;> cases decide (e.age + 1 < w) <;> cases decide (e.left = 0) <;> cases r.atend <;> cases r.ahead <;> simp [Hn.key]
theorem pTickL_key {P : κ → Prop} {w : Int} : ∀ (es : List (PEn κ)) (q : PM κ), (∀ e ∈ es, P e.key) → (∀ e ∈ q.1, P e.key) → (∀ h ∈ q.2, P h.key) → (∀ e ∈ (pTickL r w es q).1, P e.key) ∧ ∀ h ∈ (pTickL r w es q).2, P h.key
  | [], q, _, h2, h3 => ⟨h2, h3⟩
  | e :: es, q, h1, h2, h3 => by
    rw [pTickL]
    obtain ⟨k1, k2⟩ := pAged_key (r := r) (w := w) (e := e)
    have pe := h1 e (by simp)
    refine pTickL_key es _ (fun x hx => h1 x (by simp [hx])) (fun x hx => ?_) fun x hx => ?_
    · rcases List.mem_append.mp hx with z | z
      · rw [k1 x z]; exact pe
      · exact h2 x z
    · rcases List.mem_append.mp hx with z | z
      · exact h3 x z
      · rw [k2 x z]; exact pe
theorem pStep_key {P : κ → Prop} (hM : ∀ e ∈ M, P e.key) (hs : s.okP P) : (∀ e ∈ (pStep r M s).1, P e.key) ∧ ∀ h ∈ (pStep r M s).2, P h.key := by
  cases s with
  | tick =>
    show (∀ e ∈ (pTick r M).1, P e.key) ∧ ∀ h ∈ (pTick r M).2, P h.key
    unfold pTick
    cases r.window with
    | none => exact ⟨hM, fun h hh => (nomatch hh)⟩
    | some w => exact pTickL_key _ _ (fun e he => hM e (List.mem_reverse.mp he)) (fun e he => (nomatch he)) fun e he => (nomatch he)
  | say k =>
    have hk : P k := hs
    show (∀ e ∈ (pSay r M k).1, P e.key) ∧ ∀ h ∈ (pSay r M k).2, P h.key
    unfold pSay
    cases hl : M.filter (fun e => decide (e.key = k)) with
    | cons e l =>
      have he := List.mem_filter.mp (show e ∈ M.filter (fun e => decide (e.key = k)) by rw [hl]; simp)
      have pe := hM e he.1
      obtain ⟨k1, k2⟩ := pAgain_key (r := r) (e := e)
      refine ⟨fun x hx => ?_, fun x hx => by rw [k2 x hx]; exact pe⟩
      rcases List.mem_cons.mp hx with rfl | z
      · rw [k1]; exact pe
      · exact hM x (List.mem_filter.mp z).1
    | nil =>
      cases hg : (bif decide (r.slots = some (M.length : Int)) then M.getLast? else none) with
      | none =>
        refine ⟨fun x hx => ?_, fun x hx => ?_⟩
        · rcases List.mem_cons.mp hx with rfl | z
          · exact hk
          · exact hM x z
        · simp at hx; subst hx; exact hk
      | some y =>
        have hy : y ∈ M := by
          cases hd : decide (r.slots = some (M.length : Int)) <;> rw [hd] at hg
          · cases hg
          · exact List.mem_of_getLast? hg
        refine ⟨fun x hx => ?_, fun x hx => ?_⟩
        · rcases List.mem_cons.mp hx with rfl | z
          · exact hk
          · exact hM x (List.dropLast_subset _ z)
        · rcases List.mem_append.mp hx with z | z
          · unfold pFg pTag at z
            cases hd : decide (y.left = 0) <;> rw [hd] at z
            · simp at z
              subst z
              cases r.farewell <;> exact hM y hy
            · simp at z
          · simp at z; subst z; exact hk
end
end LW
end s_M11Cd
section s_M11Ce
set_option Elab.async false
set_option linter.all false
set_option maxRecDepth 100000
set_option maxHeartbeats 4000000
/-! tallies: the walk -/
namespace LW
open PySem PySem.Spec PyProof.Rows L2 TL
section
variable {κ : Type} [DecidableEq κ] {f : κ → Str} {r : Ru} {M : List (PEn κ)} {s : Sg κ} {g : κ → T5} {k : κ} {Kd : List κ}
theorem pKeys_ok : ∀ (cs : List (Sg κ)) {K : List κ}, K.Nodup → (pKeys K cs).Nodup ∧ (∀ k ∈ K, k ∈ pKeys K cs) ∧ ∀ s ∈ cs, s.okP (· ∈ pKeys K cs)
  | [], K, h => ⟨h, fun k hk => hk, fun s hs => (nomatch hs)⟩
  | .tick :: cs, K, h => by
    obtain ⟨a, b, c⟩ := pKeys_ok cs h
    refine ⟨a, b, fun s hs => ?_⟩
    rcases List.mem_cons.mp hs with rfl | z
    · trivial
    · exact c s z
  | .say k :: cs, K, h => by
    rw [pKeys]
    have h' : (if k ∈ K then K else K ++ [k]).Nodup := by
      split
      · exact h
      · rename_i q
        exact List.nodup_append.mpr ⟨h, by simp, fun a ha b hb => by simp at hb; subst hb; exact fun e => q (e ▸ ha)⟩
    obtain ⟨a, b, c⟩ := pKeys_ok cs h'
    refine ⟨a, fun x hx => b x (by split; exact hx; simp [hx]), fun s hs => ?_⟩
    rcases List.mem_cons.mp hs with rfl | z
    · show k ∈ _
      refine b k ?_
      split
      · assumption
      · simp
    · exact c s z
/-- what a dp slot is changed to -/
theorem dpAug_eq (hf : ∀ a b, f a = f b → a = b) (nd : Kd.Nodup) (hk : k ∈ Kd) {ρ : List Sl} {i : Nat} {ck cj ce : EC} {F : Int → Int → Int} {m : Nat} {a b : Int} {v : T5}
    (h : ρ[i]? = some (.dp (dpT f Kd g))) (h1 : ck ρ = .ret (.str (f k))) (h2 : cj ρ = .ret (.int m)) (h3 : (g k).ts[m]? = some (.int a)) (h4 : ce ρ = .ret (.int b)) (h5 : (g k).ts.set m (.int (F a b)) = v.ts) :
    cDpAug i ck cj F ce ρ = .ret (.nx (ρ.set i (.dp (dpT f Kd (upF g k v))))) := by
  have hn : natOf (.int m) = some m := by
    show (if (0 : Int) ≤ (m : Int) then some (m : Int).toNat else none) = some m
    rw [if_pos (by omega)]; simp
  unfold cDpAug
  simp only [h, h1, G.ret_bind, dpGet_eq hf hk, h2, hn, h3, h4, augK, dpPut, h5, addD_up hf nd hk]
theorem dpPut_eq (hf : ∀ a b, f a = f b → a = b) (nd : Kd.Nodup) (hk : k ∈ Kd) {ρ : List Sl} {i : Nat} {ck cj ce : EC} {m : Nat} {t : T} {v : T5}
    (h : ρ[i]? = some (.dp (dpT f Kd g))) (h1 : ck ρ = .ret (.str (f k))) (h2 : cj ρ = .ret (.int m)) (h3 : m < (g k).ts.length) (h4 : ce ρ = .ret t) (h5 : (g k).ts.set m t = v.ts) :
    cDpPut i ck cj ce ρ = .ret (.nx (ρ.set i (.dp (dpT f Kd (upF g k v))))) := by
  have hn : natOf (.int m) = some m := by
    show (if (0 : Int) ≤ (m : Int) then some (m : Int).toNat else none) = some m
    rw [if_pos (by omega)]; simp
  unfold cDpPut
  simp only [h, h1, G.ret_bind, dpGet_eq hf hk, h2, hn, h3, if_true, h4, dpPut, h5, addD_up hf nd hk]
/-- the dict is made -/
theorem dcomp_tally (hf : ∀ a b, f a = f b → a = b) {tt : List Sl → G Bool} {tk tv : EC} {i : Nat} {ρ : List Sl} (h1 : ∀ s : Sg κ, tt (ρ.set i (.fz (s.t f))) = .ret (match s with | .say _ => true | .tick => false))
    (h2 : ∀ k : κ, tk (ρ.set i (.fz ((Sg.say k).t f))) = .ret (.str (f k))) (h3 : ∀ k : κ, tv (ρ.set i (.fz ((Sg.say k).t f))) = .ret (.lst T5.z.ts)) :
    ∀ (cs : List (Sg κ)) (K : List κ), K.Nodup → dcompDG (gcName i) tt tk tv (cs.map (Sg.t f)) ρ (dpT f K fun _ => T5.z) = .ret (dpT f (pKeys K cs) fun _ => T5.z)
  | [], K, _ => rfl
  | .tick :: cs, K, nd => by
    rw [List.map_cons, dcompDG, gcn]
    simp only [G.nox, G.ret_bind, h1, Bool.false_eq_true, if_false]
    exact dcomp_tally hf h1 h2 h3 cs K nd
  | .say k :: cs, K, nd => by
    rw [List.map_cons, dcompDG, gcn]
    have hk : (keyT (.str (f k))).isSome = true := rfl
    simp only [G.nox, G.ret_bind, h1, if_true, h2, h3, hk]
    rw [pKeys]
    by_cases hm : k ∈ K
    · rw [if_pos hm, addD_up hf nd hm]
      have e : (upF (fun _ => T5.z) k T5.z : κ → T5) = fun _ => T5.z := by funext x; unfold upF; split <;> rfl
      rw [e]
      exact dcomp_tally hf h1 h2 h3 cs K nd
    · rw [if_neg hm, addD_new hf hm]
      have e : dpT f K (fun _ => T5.z) ++ [(T.str (f k), T.lst T5.z.ts)] = dpT f (K ++ [k]) fun _ => T5.z := by unfold dpT; rw [List.map_append]; rfl
      rw [e]
      exact dcomp_tally hf h1 h2 h3 cs (K ++ [k]) (List.nodup_append.mpr ⟨nd, by simp, fun a ha b hb => by simp at hb; subst hb; exact fun e => hm (e ▸ ha)⟩)
theorem saidLoop (hf : ∀ a b, f a = f b → a = b) (nd : Kd.Nodup) : ∀ (cs : List (Sg κ)) (g : κ → T5) (x0 x1 x3 x4 x5 x6 x7 x8 x9 x10 x11 x12 : Sl), (∀ s ∈ cs, s.okP (· ∈ Kd)) → ∃ y12,
    forG (gcName 12) c_tally_b1 (cs.map (Sg.t f)) [x0, x1, .dp (dpT f Kd g), x3, x4, x5, x6, x7, x8, x9, x10, x11, x12] = .ret (.nx [x0, x1, .dp (dpT f Kd (gSaid g cs)), x3, x4, x5, x6, x7, x8, x9, x10, x11, y12])
  | [], g, x0, x1, x3, x4, x5, x6, x7, x8, x9, x10, x11, x12, _ => ⟨x12, rfl⟩
  | .tick :: cs, g, x0, x1, x3, x4, x5, x6, x7, x8, x9, x10, x11, x12, h => by
    obtain ⟨y, ih⟩ := saidLoop hf nd cs g x0 x1 x3 x4 x5 x6 x7 x8 x9 x10 x11 (.fz ((Sg.tick : Sg κ).t f)) fun s hs => h s (by simp [hs])
    refine ⟨y, ?_⟩
    rw [List.map_cons, for_cons gcn (ρ2 := [x0, x1, .dp (dpT f Kd g), x3, x4, x5, x6, x7, x8, x9, x10, x11, .fz ((Sg.tick : Sg κ).t f)]) ?_]
    · exact ih
    · unfold c_tally_b1
      exact (ifS_f (b_eq ((op2_eq ((op2_eq (var_eq rfl) rfl).trans ix_0) rfl).trans (show fEq (.str "tick") (.str "say") = .ret (.bl false) from by kernel_rfl)))).trans rfl
  | .say k :: cs, g, x0, x1, x3, x4, x5, x6, x7, x8, x9, x10, x11, x12, h => by
    obtain ⟨y, ih⟩ := saidLoop hf nd cs (upF g k { g k with said := (g k).said + 1 }) x0 x1 x3 x4 x5 x6 x7 x8 x9 x10 x11 (.fz ((Sg.say k).t f)) fun s hs => h s (by simp [hs])
    refine ⟨y, ?_⟩
    have hk : k ∈ Kd := h (.say k) (by simp)
    rw [List.map_cons, for_cons gcn (ρ2 := [x0, x1, .dp (dpT f Kd (upF g k { g k with said := (g k).said + 1 })), x3, x4, x5, x6, x7, x8, x9, x10, x11, .fz ((Sg.say k).t f)]) ?_]
    · exact ih
    · unfold c_tally_b1
      rw [ifS_t (b_eq ((op2_eq ((op2_eq (var_eq rfl) rfl).trans ix_0) rfl).trans (show fEq (.str "say") (.str "say") = .ret (.bl true) from by kernel_rfl)))]
      exact dpAug_eq hf nd hk (m := 0) (a := (g k).said) (b := 1) rfl ((op2_eq (var_eq rfl) rfl).trans ix_1) rfl rfl rfl rfl
def placeD : T := .dic [(.str "line", .int 1), (.str "again", .int 2), (.str "lost", .int 3)]
theorem hap_b2 (hf : ∀ a b, f a = f b → a = b) (nd : Kd.Nodup) (h : Hn κ) (hk : h.key ∈ Kd) (x0 x1 x3 x4 x5 x7 x8 x9 x10 x11 x12 : Sl) : ∃ y7,
    c_tally_b2 [x0, x1, .dp (dpT f Kd g), x3, x4, x5, .fz (h.t f), x7, x8, x9, x10, x11, x12] = .ret (.nx [x0, x1, .dp (dpT f Kd (gHap g h)), x3, x4, x5, .fz (h.t f), y7, x8, x9, x10, x11, x12]) := by
  have eD : ∀ ρ : List Sl, cDisp (((cC (.str "line")), (cC (.int 1))) :: (((cC (.str "again")), (cC (.int 2))) :: (((cC (.str "lost")), (cC (.int 3))) :: []))) ρ = .ret placeD := fun ρ => by kernel_rfl
  unfold c_tally_b2
  cases h with
  | left k =>
    refine ⟨x7, ?_⟩
    exact (ifS_f (b_eq ((op2_eq ((op2_eq (var_eq rfl) rfl).trans ix_0) rfl).trans (show fNe (.str "left") (.str "left") = .ret (.bl false) from by rw [show fNe = fEqB true from rfl, fEqStr]; rfl)))).trans rfl
  | line k =>
    refine ⟨.fz (.int 1), ?_⟩
    rw [ifS_t (b_eq ((op2_eq ((op2_eq (var_eq rfl) rfl).trans ix_0) rfl).trans (show fNe (.str "line") (.str "left") = .ret (.bl true) from by kernel_rfl)))]
    rw [seq_nx (set_eq ((op2_eq (eD _) ((op2_eq (var_eq rfl) rfl).trans ix_0)).trans (show fIx placeD (.str "line") = .ret (.int 1) from by kernel_rfl)))]
    refine dpAug_eq (k := k) hf nd hk (m := 1) (a := (g k).line) (b := 1) rfl ((op2_eq (var_eq rfl) rfl).trans ix_1) rfl rfl ?_ rfl
    unfold cIf
    rw [b_eq ((op2_eq ((op2_eq (var_eq rfl) rfl).trans ix_0) rfl).trans (show fEq (.str "line") (.str "line") = .ret (.bl true) from by kernel_rfl))]
    rfl
  | again k n =>
    refine ⟨.fz (.int 2), ?_⟩
    rw [ifS_t (b_eq ((op2_eq ((op2_eq (var_eq rfl) rfl).trans ix_0) rfl).trans (show fNe (.str "again") (.str "left") = .ret (.bl true) from by kernel_rfl)))]
    rw [seq_nx (set_eq ((op2_eq (eD _) ((op2_eq (var_eq rfl) rfl).trans ix_0)).trans (show fIx placeD (.str "again") = .ret (.int 2) from by kernel_rfl)))]
    refine dpAug_eq (k := k) hf nd hk (m := 2) (a := (g k).told) (b := n) rfl ((op2_eq (var_eq rfl) rfl).trans ix_1) rfl rfl ?_ rfl
    unfold cIf
    rw [b_eq ((op2_eq ((op2_eq (var_eq rfl) rfl).trans ix_0) rfl).trans (show fEq (.str "again") (.str "line") = .ret (.bl false) from by kernel_rfl))]
    exact (op2_eq (var_eq rfl) rfl).trans (by kernel_rfl)
  | lost k n =>
    refine ⟨.fz (.int 3), ?_⟩
    rw [ifS_t (b_eq ((op2_eq ((op2_eq (var_eq rfl) rfl).trans ix_0) rfl).trans (show fNe (.str "lost") (.str "left") = .ret (.bl true) from by kernel_rfl)))]
    rw [seq_nx (set_eq ((op2_eq (eD _) ((op2_eq (var_eq rfl) rfl).trans ix_0)).trans (show fIx placeD (.str "lost") = .ret (.int 3) from by kernel_rfl)))]
    refine dpAug_eq (k := k) hf nd hk (m := 3) (a := (g k).lost) (b := n) rfl ((op2_eq (var_eq rfl) rfl).trans ix_1) rfl rfl ?_ rfl
    unfold cIf
    rw [b_eq ((op2_eq ((op2_eq (var_eq rfl) rfl).trans ix_0) rfl).trans (show fEq (.str "lost") (.str "line") = .ret (.bl false) from by kernel_rfl))]
    exact (op2_eq (var_eq rfl) rfl).trans (by kernel_rfl)
theorem hapLoop (hf : ∀ a b, f a = f b → a = b) (nd : Kd.Nodup) : ∀ (hs : List (Hn κ)) (g : κ → T5) (x0 x1 x3 x4 x5 x6 x7 x8 x9 x10 x11 x12 : Sl), (∀ h ∈ hs, h.key ∈ Kd) → ∃ y6 y7,
    forG (gcName 6) c_tally_b2 (hs.map (Hn.t f)) [x0, x1, .dp (dpT f Kd g), x3, x4, x5, x6, x7, x8, x9, x10, x11, x12] = .ret (.nx [x0, x1, .dp (dpT f Kd (gHaps g hs)), x3, x4, x5, y6, y7, x8, x9, x10, x11, x12])
  | [], g, x0, x1, x3, x4, x5, x6, x7, x8, x9, x10, x11, x12, _ => ⟨x6, x7, rfl⟩
  | h :: hs, g, x0, x1, x3, x4, x5, x6, x7, x8, x9, x10, x11, x12, hk => by
    obtain ⟨y7, e⟩ := hap_b2 (g := g) hf nd h (hk h (by simp)) x0 x1 x3 x4 x5 x7 x8 x9 x10 x11 x12
    obtain ⟨z6, z7, ih⟩ := hapLoop hf nd hs (gHap g h) x0 x1 x3 x4 x5 (.fz (h.t f)) y7 x8 x9 x10 x11 x12 fun s hs => hk s (by simp [hs])
    refine ⟨z6, z7, ?_⟩
    rw [List.map_cons, for_cons gcn e]
    exact ih
theorem stepLoop (hf : ∀ a b, f a = f b → a = b) (nd : Kd.Nodup) : ∀ (cs : List (Sg κ)) (M : List (PEn κ)) (g : κ → T5) (x0 x1 x3 x4 x5 x6 x7 x8 x9 x10 x11 x12 : Sl), (∀ e ∈ M, e.key ∈ Kd) → (∀ s ∈ cs, s.okP (· ∈ Kd)) → ∃ y4 y5 y6 y7,
    forG (gcTup 2 (gcsCons (gcName 4) (gcsCons (gcName 5) gcsNil))) c_tally_b3 ((pWalk r M cs).map (stT f)) [x0, x1, .dp (dpT f Kd g), x3, x4, x5, x6, x7, x8, x9, x10, x11, x12] =
      .ret (.nx [x0, x1, .dp (dpT f Kd (gSteps r g M cs)), x3, y4, y5, y6, y7, x8, x9, x10, x11, x12])
  | [], M, g, x0, x1, x3, x4, x5, x6, x7, x8, x9, x10, x11, x12, _, _ => ⟨x4, x5, x6, x7, rfl⟩
  | s :: cs, M, g, x0, x1, x3, x4, x5, x6, x7, x8, x9, x10, x11, x12, hM, hs => by
    obtain ⟨k1, k2⟩ := pStep_key (r := r) (P := (· ∈ Kd)) hM (hs s (by simp))
    obtain ⟨y6, y7, e⟩ := hapLoop (f := f) hf nd (pStep r M s).2 g x0 x1 x3 (.fz (memT ((pStep r M s).1.map (PEn.of f)))) (.fz (.lst ((pStep r M s).2.map (Hn.t f)))) x6 x7 x8 x9 x10 x11 x12 k2
    obtain ⟨z4, z5, z6, z7, ih⟩ := stepLoop hf nd cs (pStep r M s).1 (gHaps g (pStep r M s).2) x0 x1 x3 (.fz (memT ((pStep r M s).1.map (PEn.of f)))) (.fz (.lst ((pStep r M s).2.map (Hn.t f)))) y6 y7 x8 x9 x10 x11 x12 k1 fun s hs' => hs s (by simp [hs'])
    refine ⟨z4, z5, z6, z7, ?_⟩
    have g2 : gcTup 2 (gcsCons (gcName 4) (gcsCons (gcName 5) gcsNil)) (stT f (pStep r M s)) [x0, x1, .dp (dpT f Kd g), x3, x4, x5, x6, x7, x8, x9, x10, x11, x12] = .ret [x0, x1, .dp (dpT f Kd g), x3, .fz (memT ((pStep r M s).1.map (PEn.of f))), .fz (.lst ((pStep r M s).2.map (Hn.t f))), x6, x7, x8, x9, x10, x11, x12] := gc2
    rw [pWalk, List.map_cons, for_cons g2 (ρ2 := [x0, x1, .dp (dpT f Kd (gHaps g (pStep r M s).2)), x3, .fz (memT ((pStep r M s).1.map (PEn.of f))), .fz (.lst ((pStep r M s).2.map (Hn.t f))), y6, y7, x8, x9, x10, x11, x12]) ?_]
    · exact ih
    · unfold c_tally_b3
      exact (for_eq rfl).trans e
theorem leftLoop (hf : ∀ a b, f a = f b → a = b) (nd : Kd.Nodup) : ∀ (es : List (PEn κ)) (g : κ → T5) (x0 x1 x3 x4 x5 x6 x7 x8 x9 x10 x11 x12 : Sl), (∀ e ∈ es, e.key ∈ Kd) → ∃ y8 y9 y10 y11,
    forG (gcTup 4 (gcsCons (gcName 8) (gcsCons (gcName 9) (gcsCons (gcName 10) (gcsCons (gcName 11) gcsNil))))) c_tally_b4 ((es.map (PEn.of f)).map En.t) [x0, x1, .dp (dpT f Kd g), x3, x4, x5, x6, x7, x8, x9, x10, x11, x12] =
      .ret (.nx [x0, x1, .dp (dpT f Kd (gLeft g es)), x3, x4, x5, x6, x7, y8, y9, y10, y11, x12])
  | [], g, x0, x1, x3, x4, x5, x6, x7, x8, x9, x10, x11, x12, _ => ⟨x8, x9, x10, x11, rfl⟩
  | e :: es, g, x0, x1, x3, x4, x5, x6, x7, x8, x9, x10, x11, x12, hM => by
    obtain ⟨y8, y9, y10, y11, ih⟩ := leftLoop hf nd es (upF g e.key { g e.key with untold := e.left }) x0 x1 x3 x4 x5 x6 x7 (.fz (.str (f e.key))) (.fz (.int e.age)) (.fz (.int e.count)) (.fz (.int e.left)) x12 fun x hx => hM x (by simp [hx])
    refine ⟨y8, y9, y10, y11, ?_⟩
    rw [List.map_cons, List.map_cons, for_cons gc4 (ρ2 := [x0, x1, .dp (dpT f Kd (upF g e.key { g e.key with untold := e.left })), x3, x4, x5, x6, x7, .fz (.str (f e.key)), .fz (.int e.age), .fz (.int e.count), .fz (.int e.left), x12]) ?_]
    · exact ih
    · unfold c_tally_b4
      exact dpPut_eq hf nd (hM e (by simp)) (m := 4) rfl (var_eq rfl) rfl (show 4 < 5 by decide) (var_eq rfl) rfl
/-- the dict that is told -/
theorem perm_map {α β : Type} {h : α → β} {l m : List β} (p : l.Perm m) : ∀ K : List α, m = K.map h → ∃ K' : List α, K'.Perm K ∧ l = K'.map h := by
  induction p with
  | nil => intro K e; exact ⟨[], by cases K with | nil => simp | cons => simp at e, rfl⟩
  | cons x _ ih =>
    intro K e
    cases K with
    | nil => simp at e
    | cons k K =>
      rw [List.map_cons, List.cons.injEq] at e
      obtain ⟨K', p', e'⟩ := ih K e.2
      exact ⟨k :: K', p'.cons k, by rw [List.map_cons, ← e', e.1]⟩
  | swap x y l =>
    intro K e
    match K, e with
    | a :: b :: K, e =>
      simp only [List.map_cons, List.cons.injEq] at e
      exact ⟨b :: a :: K, List.Perm.swap a b K, by simp only [List.map_cons]; rw [e.1, e.2.1, e.2.2]⟩
  | trans _ _ ih1 ih2 =>
    intro K e
    obtain ⟨K1, p1, e1⟩ := ih2 K e
    obtain ⟨K2, p2, e2⟩ := ih1 K1 e1
    exact ⟨K2, p2.trans p1, e2⟩
def talD (f : κ → Str) (K : List κ) (g : κ → T5) : T := .dic (K.map fun k => (.str (f k), .tup (g k).ts))
theorem put_newF (hf : ∀ a b, f a = f b → a = b) {A : List κ} {t : T} (h : k ∉ A) : putT (A.map fun k => (T.str (f k), T.tup (g k).ts)) (.str (f k)) t = (A.map fun k => (T.str (f k), T.tup (g k).ts)) ++ [(.str (f k), t)] := by
  have : ((A.map fun k => (T.str (f k), T.tup (g k).ts)).any fun p => decide (keyT p.1 = keyT (.str (f k)))) = false := by
    rw [List.any_eq_false]
    intro p hp
    obtain ⟨x, hx, rfl⟩ := List.mem_map.mp hp
    simp only [decide_eq_true_eq]
    exact fun q => h ((keyT_f hf).mp q ▸ hx)
  unfold putT
  rw [this]
  simp
theorem dcomp_told (hf : ∀ a b, f a = f b → a = b) {tk tv : EC} {i : Nat} {ρ : List Sl} : ∀ (K A : List κ), (A ++ K).Nodup → (∀ k ∈ K, tk (ρ.set i (.fz (.str (f k)))) = .ret (.str (f k))) → (∀ k ∈ K, tv (ρ.set i (.fz (.str (f k)))) = .ret (.tup (g k).ts)) →
    dcompG (gcName i) (fun _ => .ret true) tk tv ((K.map f).map T.str) ρ (A.map fun k => (T.str (f k), T.tup (g k).ts)) = .ret ((A ++ K).map fun k => (T.str (f k), T.tup (g k).ts))
  | [], A, _, _, _ => by rw [List.append_nil]; rfl
  | k :: K, A, nd, h1, h2 => by
    rw [List.map_cons, List.map_cons, dcompG, gcn]
    have hk : (keyT (.str (f k))).isSome = true := rfl
    have hn : k ∉ A := fun hm => (List.nodup_append.mp nd).2.2 k hm k (by simp) rfl
    simp only [G.nox, G.ret_bind, if_true, h1 k (by simp), h2 k (by simp), hk]
    rw [put_newF hf hn]
    have ih := dcomp_told hf K (A ++ [k]) (by rw [List.append_assoc]; exact nd) (fun x hx => h1 x (by simp [hx])) (fun x hx => h2 x (by simp [hx]))
    rw [List.map_append] at ih
    rw [List.append_assoc] at ih
    exact ih
theorem perm_mem {α : Type} {l m : List α} (p : l.Perm m) {x : α} (h : x ∈ l) : x ∈ m := p.mem_iff.mp h
theorem strTs_map : ∀ l : List Str, strTs (l.map T.str) = some l
  | [] => rfl
  | x :: l => by rw [List.map_cons, strTs, strTs_map l]; rfl
theorem tally_eq (K : Kx f) (hr : r.ok) {t : T} (cs : List (Sg κ)) (h : t = .lst (cs.map (Sg.t f)) ∨ t = .tup (cs.map (Sg.t f))) (hl : cs.length ≤ 1000) :
    ∃ K' : List κ, K'.Perm (pKeys [] cs) ∧ runB c_tally 13 [r.t, t] = .ret (talD f K' (pTally r cs)) := by
  have hf := K.inj
  obtain ⟨nd, _, hks⟩ := pKeys_ok cs (K := []) List.nodup_nil
  have qw := walked_eq K hr cs h hl
  have hlen : (pKeys [] cs).length ≤ 19 := by
    obtain ⟨F, hF, hFl⟩ := K.fin
    exact Nat.le_trans (nodup_len _ F nd fun x _ => hF x) hFl
  have hM : ∀ e ∈ pEnd r [] cs, e.key ∈ pKeys [] cs := by
    have : ∀ (ds : List (Sg κ)) (M : List (PEn κ)), (∀ e ∈ M, e.key ∈ pKeys [] cs) → (∀ s ∈ ds, s.okP (· ∈ pKeys [] cs)) → ∀ e ∈ pEnd r M ds, e.key ∈ pKeys [] cs := by
      intro ds
      induction ds with
      | nil => intro M h _; exact h
      | cons s ds ih => intro M h h2; exact ih _ (pStep_key h (h2 s (by simp))).1 fun x hx => h2 x (by simp [hx])
    exact this cs [] (fun e he => (nomatch he)) hks
  obtain ⟨K', p, eK⟩ := perm_map (h := f) (sortStr_perm ((pKeys [] cs).map f)) (pKeys [] cs) rfl
  refine ⟨K', p, ?_⟩
  have hn' : K'.Nodup := p.nodup_iff.mpr nd
  obtain ⟨y12, qs⟩ := saidLoop (f := f) hf nd cs (fun _ => T5.z) (.fz r.t) (.fz t) (.fz (.lst ((pWalk r [] cs).map (stT f)))) .un .un .un .un .un .un .un .un .un hks
  obtain ⟨y4, y5, y6, y7, qt⟩ := stepLoop (f := f) (r := r) hf nd cs [] (gSaid (fun _ => T5.z) cs) (.fz r.t) (.fz t) (.fz (.lst ((pWalk r [] cs).map (stT f)))) .un .un .un .un .un .un .un .un y12 (fun e he => (nomatch he)) hks
  obtain ⟨y8, y9, y10, y11, ql⟩ := leftLoop (f := f) hf nd (pEnd r [] cs) (gSteps r (gSaid (fun _ => T5.z) cs) [] cs) (.fz r.t) (.fz t) (.fz (.lst ((pWalk r [] cs).map (stT f)))) y4 y5 y6 y7 .un .un .un .un y12 hM
  have eA : ∀ ρ : List Sl, ρ[1]? = some (.fz t) → (cVar 1 ρ >>= anyOf) = .ret (cs.map (Sg.t f)) := fun ρ hρ => by
    rw [var_eq hρ]
    rcases h with rfl | rfl <;> rfl
  have e1 : cCall (fun ts => (runB c_need_rule 2) (pickL [0, 1] (ts ++ [.str "rule"]))) (caCons (cVar 0) caNil) [.fz r.t, .fz t, .un, .un, .un, .un, .un, .un, .un, .un, .un, .un, .un] = .ret .non := (call_eq (ts := [r.t]) (cons_eq (var_eq rfl) rfl)).trans (show runB c_need_rule 2 [r.t, .str "rule"] = .ret .non from needRule_eq)
  have e2 : cCall (runB c_need_course 3) (caCons (cVar 1) caNil) [.fz r.t, .fz t, .un, .un, .un, .un, .un, .un, .un, .un, .un, .un, .un] = .ret .non := (call_eq (cons_eq (var_eq rfl) rfl)).trans (needCourse_eq K cs h)
  have e3 : cDCompD (fun r => cVar 1 r >>= anyOf) (gcName 12) (cB (cOp2 fEq (cOp2 fIx (cVar 12) (cC (.int 0))) (cC (.str "say")))) (cOp2 fIx (cVar 12) (cC (.int 1))) (cLst (caCons (cC (.int 0)) (caCons (cC (.int 0)) (caCons (cC (.int 0)) (caCons (cC (.int 0)) (caCons (cC (.int 0)) caNil)))))) [12] [.fz r.t, .fz t, .un, .un, .un, .un, .un, .un, .un, .un, .un, .un, .un] = .ret (dpT f (pKeys [] cs) fun _ => T5.z) := by
    unfold cDCompD
    show ((cVar 1 _ >>= anyOf) >>= _) = _
    rw [eA _ rfl, G.ret_bind]
    refine dcomp_tally (f := f) (i := 12) (ρ := wipeR [.fz r.t, .fz t, .un, .un, .un, .un, .un, .un, .un, .un, .un, .un, .un] [12]) hf (fun s => ?_) (fun k => ?_) (fun k => rfl) cs [] List.nodup_nil
    · cases s with
      | say k => exact b_eq ((op2_eq ((op2_eq (var_eq rfl) rfl).trans ix_0) rfl).trans (show fEq (.str "say") (.str "say") = .ret (.bl true) from by kernel_rfl))
      | tick => exact b_eq ((op2_eq ((op2_eq (var_eq rfl) rfl).trans ix_0) rfl).trans (show fEq (.str "tick") (.str "say") = .ret (.bl false) from by kernel_rfl))
    · exact (op2_eq (var_eq rfl) rfl).trans ix_1
  have e3' : cSetD 2 (cDCompD (fun r => cVar 1 r >>= anyOf) (gcName 12) (cB (cOp2 fEq (cOp2 fIx (cVar 12) (cC (.int 0))) (cC (.str "say")))) (cOp2 fIx (cVar 12) (cC (.int 1))) (cLst (caCons (cC (.int 0)) (caCons (cC (.int 0)) (caCons (cC (.int 0)) (caCons (cC (.int 0)) (caCons (cC (.int 0)) caNil)))))) [12]) [.fz r.t, .fz t, .un, .un, .un, .un, .un, .un, .un, .un, .un, .un, .un] = .ret (.nx [.fz r.t, .fz t, .dp (dpT f (pKeys [] cs) fun _ => T5.z), .un, .un, .un, .un, .un, .un, .un, .un, .un, .un]) := by
    unfold cSetD
    rw [e3]
    rfl
  have e4 : cCall (runR c_walked 6) (caCons (cVar 0) (caCons (cVar 1) caNil)) [.fz r.t, .fz t, .dp (dpT f (pKeys [] cs) fun _ => T5.z), .un, .un, .un, .un, .un, .un, .un, .un, .un, .un] = .ret (.lst ((pWalk r [] cs).map (stT f))) := (call_eq (cons_eq (var_eq rfl) (cons_eq (var_eq rfl) rfl))).trans qw
  have e5 := (for_eq (ci := fun r => cVar 1 r >>= anyOf) (g := gcName 12) (c := c_tally_b1) (eA [.fz r.t, .fz t, .dp (dpT f (pKeys [] cs) fun _ => T5.z), .fz (.lst ((pWalk r [] cs).map (stT f))), .un, .un, .un, .un, .un, .un, .un, .un, .un] rfl)).trans qs
  have e6 := (for_eq (ci := fun r => cVar 3 r >>= anyOf) (g := gcTup 2 (gcsCons (gcName 4) (gcsCons (gcName 5) gcsNil))) (c := c_tally_b3) (ρ := [.fz r.t, .fz t, .dp (dpT f (pKeys [] cs) (gSaid (fun _ => T5.z) cs)), .fz (.lst ((pWalk r [] cs).map (stT f))), .un, .un, .un, .un, .un, .un, .un, .un, y12]) (ts := (pWalk r [] cs).map (stT f)) rfl).trans qt
  have e7 := (for_eq (ci := fun r => (cIf (cB (cOp2 fNe (cVar 3) (cLst caNil))) (cOp2 fIx (cOp2 fIx (cVar 3) (cOp1 (fI1 fun i => .int (-i)) (cC (.int 1)))) (cC (.int 0))) (cTup caNil)) r >>= anyOf) (g := gcTup 4 (gcsCons (gcName 8) (gcsCons (gcName 9) (gcsCons (gcName 10) (gcsCons (gcName 11) gcsNil))))) (c := c_tally_b4)
    (ρ := [.fz r.t, .fz t, .dp (dpT f (pKeys [] cs) (gSteps r (gSaid (fun _ => T5.z) cs) [] cs)), .fz (.lst ((pWalk r [] cs).map (stT f))), y4, y5, y6, y7, .un, .un, .un, .un, y12]) (ts := ((pEnd r [] cs).map (PEn.of f)).map En.t) (by rw [lastMem_eq K hr cs rfl]; rfl)).trans ql
  have eg : gLeft (gSteps r (gSaid (fun _ => T5.z) cs) [] cs) (pEnd r [] cs) = pTally r cs := rfl
  rw [eg] at e7
  have e8 : cDComp (fun r => (cCall fSorted (caCons (cVar 2) caNil)) r >>= anyOf) (gcName 8) (fun _ => .ret true) (cVar 8) (cCall fTuple (caCons (cOp2 fIx (cVar 2) (cVar 8)) caNil)) [8] [.fz r.t, .fz t, .fz (.dic (dpT f (pKeys [] cs) (pTally r cs))), .fz (.lst ((pWalk r [] cs).map (stT f))), y4, y5, y6, y7, y8, y9, y10, y11, y12] = .ret (talD f K' (pTally r cs)) := by
    have es : fSorted [.dic (dpT f (pKeys [] cs) (pTally r cs))] = .ret (.lst ((K'.map f).map T.str)) := by
      have e0 : (dpT f (pKeys [] cs) (pTally r cs)).map (·.1) = ((pKeys [] cs).map f).map T.str := by unfold dpT; rw [List.map_map, List.map_map]; rfl
      show (match strTs ((dpT f (pKeys [] cs) (pTally r cs)).map (·.1)) with | some ks => if ks.length < 64 then G.ret (T.lst ((sortStr ks).map .str)) else .stuck | none => .stuck) = _
      rw [e0, strTs_map]
      simp only [List.length_map]
      rw [if_pos (by omega), eK]
    unfold cDComp
    show ((cCall fSorted (caCons (cVar 2) caNil) _ >>= anyOf) >>= _) = _
    rw [show (cCall fSorted (caCons (cVar 2) caNil) [.fz r.t, .fz t, .fz (.dic (dpT f (pKeys [] cs) (pTally r cs))), .fz (.lst ((pWalk r [] cs).map (stT f))), y4, y5, y6, y7, y8, y9, y10, y11, y12] >>= anyOf) = .ret ((K'.map f).map T.str) from by rw [(call_eq (cons_eq (var_eq rfl) rfl)).trans es]; rfl]
    rw [G.ret_bind]
    have q := dcomp_told (f := f) (g := pTally r cs) (i := 8) (ρ := wipeR [.fz r.t, .fz t, .fz (.dic (dpT f (pKeys [] cs) (pTally r cs))), .fz (.lst ((pWalk r [] cs).map (stT f))), y4, y5, y6, y7, y8, y9, y10, y11, y12] [8]) (tk := cVar 8) (tv := cCall fTuple (caCons (cOp2 fIx (cVar 2) (cVar 8)) caNil)) hf K' [] (by simpa using hn') (fun k hk => rfl) fun k hk => ?_
    · have q' : dcompG (gcName 8) (fun _ => .ret true) (cVar 8) (cCall fTuple (caCons (cOp2 fIx (cVar 2) (cVar 8)) caNil)) ((K'.map f).map T.str) (wipeR [.fz r.t, .fz t, .fz (.dic (dpT f (pKeys [] cs) (pTally r cs))), .fz (.lst ((pWalk r [] cs).map (stT f))), y4, y5, y6, y7, y8, y9, y10, y11, y12] [8]) [] = _ := q
      rw [q']
      rfl
    · refine (call_eq (cons_eq ((op2_eq (var_eq rfl) (var_eq rfl)).trans ?_) rfl)).trans (show fTuple [.lst (pTally r cs k).ts] = .ret (.tup (pTally r cs k).ts) from rfl)
      show (match keyT (.str (f k)) with | some key => (match dGet (dpT f (pKeys [] cs) (pTally r cs)) key with | some t => G.ret t | none => .stuck) | none => .stuck) = _
      simp only [keyT, dGet_dp hf (p.mem_iff.mp hk)]
  unfold runB c_tally
  show (cSeq _ _ [.fz r.t, .fz t, .un, .un, .un, .un, .un, .un, .un, .un, .un, .un, .un] >>= _) = _
  rw [seq_nx (drop_eq e1), seq_nx (drop_eq e2), seq_nx e3', seq_nx (r' := [.fz r.t, .fz t, .dp (dpT f (pKeys [] cs) fun _ => T5.z), .fz (.lst ((pWalk r [] cs).map (stT f))), .un, .un, .un, .un, .un, .un, .un, .un, .un]) ((set_eq e4).trans rfl), seq_nx e5, seq_nx e6, seq_nx e7]
  show (cRet _ [.fz r.t, .fz t, .fz (.dic (dpT f (pKeys [] cs) (pTally r cs))), .fz (.lst ((pWalk r [] cs).map (stT f))), y4, y5, y6, y7, y8, y9, y10, y11, y12] >>= _) = _
  rw [ret_eq e8]
  rfl
end
end LW
end s_M11Ce
section s_M11Cf
set_option Elab.async false
set_option linter.all false
set_option maxRecDepth 100000
set_option maxHeartbeats 4000000
/-! logs and memories are data -/
namespace LW
open PySem PySem.Spec PyProof.Rows L2 TL
section
variable {κ : Type} [DecidableEq κ] {f : κ → Str} {r : Ru} {M : List (PEn κ)} {s : Sg κ} {g : κ → T5} {k : κ} {Kd : List κ}
theorem step_hok (K : Kx f) (hr : r.ok) (h : Mok r (M.map (PEn.of f))) : ∀ t ∈ (pStep r M s).2.map (Hn.t f), Hok t := by
  cases s with
  | say k => have q := (sayOf_hs hr h (K.ok k)).h; rw [pSay_of K.inj] at q; exact q
  | tick => have q := (tickOf_hs hr h).h; rw [pTick_of] at q; exact q
theorem lines_hok (hh : ∀ t ∈ (hs : List (Hn κ)).map (Hn.t f), Hok t) : ∀ t ∈ (pLines s hs).map (Ln.t f), Hok t := by
  unfold pLines
  intro t ht
  rw [List.map_append, List.mem_append] at ht
  rcases ht with ht | ht
  · rw [← told_map] at ht
    obtain ⟨x, hx, rfl⟩ := List.mem_map.mp ht
    exact hh _ (List.mem_map_of_mem (List.mem_filter.mp hx).1)
  · cases s with
    | say k => simp at ht
    | tick =>
      simp only [List.map_cons, List.map_nil, List.mem_singleton] at ht
      subst ht
      exact ⟨_, (RO.tup (ROs.cons (RO.of (n := 0) (m := 10) (t := .str "tick") rfl (by decide +kernel)) ROs.nil)).mono (by omega) (by omega)⟩
theorem log_hok (K : Kx f) (hr : r.ok) : ∀ (cs : List (Sg κ)) (M : List (PEn κ)), Mok r (M.map (PEn.of f)) → ∀ t ∈ (pLog r M cs).map (Ln.t f), Hok t
  | [], _, _, t, ht => by simp [pLog] at ht
  | s :: cs, M, h, t, ht => by
    rw [pLog, List.map_append, List.mem_append] at ht
    rcases ht with ht | ht
    · exact lines_hok (step_hok K hr h) t ht
    · exact log_hok K hr cs _ (pStep_ok K hr h) t ht
theorem log_ro (K : Kx f) (hr : r.ok) (cs : List (Sg κ)) : ∃ d m, RO 5 m (.lst ((pLog r [] cs).map (Ln.t f))) d := by
  obtain ⟨ds, q⟩ := ROs.ofAll (log_hok K hr cs [] (mok_nil hr))
  exact ⟨_, _, (RO.lst q).mono (by omega) (Nat.le_refl _)⟩
theorem mem_ro (K : Kx f) (hr : r.ok) (h : Mok r (M.map (PEn.of f))) : ∃ d m, RO 5 m (memT (M.map (PEn.of f))) d := by
  obtain ⟨d1, g1⟩ := ROs.ofAll (n := 1) (m := 200) (ts := (M.map (PEn.of f)).map En.t) fun t ht => by
    obtain ⟨e, he, rfl⟩ := List.mem_map.mp ht
    exact enRO hr (h.e e he)
  exact ⟨_, _, (RO.tup g1).mono (by omega) (Nat.le_refl _)⟩
theorem eqRefl {t : T} {d : PyData} {n m : Nat} {neg : Bool} (h : RO n m t d) (hn : n ≤ 64) : fEqB neg t t = .ret (.bl (neg != true)) := by
  rw [RO.eqB neg h h hn hn, SeqAt.eqv_refl d h.ly]
theorem ifNe_eq {ca cb : EC} {c d : SC} {ρ : List Sl} {t : T} {dd : PyData} {n m : Nat} (h : RO n m t dd) (hn : n ≤ 64) (h1 : ca ρ = .ret t) (h2 : cb ρ = .ret t) : cIfS (cB (cOp2 fNe ca cb)) c d ρ = d ρ :=
  ifS_f (b_eq ((op2_eq h1 h2).trans (eqRefl (neg := true) h hn)))
theorem eqA1 {x : Str} {a b : T} (h : (okT a && okT b && eqT a b) = true) : fEqA (.dic [(.str x, a)]) (.dic [(.str x, b)]) = .ret (.bl true) := by
  have e : dGet [(T.str x, b)] (.inr x) = some b := by unfold dGet; rw [List.find?_cons_of_pos (by simp [keyT])]; rfl
  have h2 : eqDic [(T.str x, a)] [(T.str x, b)] = true := by
    unfold eqDic
    simp only [List.all_cons, List.all_nil, Bool.and_true, keyT, e, h]
  show (if [(T.str x, a)].length = [(T.str x, b)].length ∧ eqDic [(T.str x, a)] [(T.str x, b)] = true then G.ret (T.bl true) else .stuck) = _
  rw [if_pos ⟨rfl, h2⟩]
theorem rule_ru (hr : r.ok) : runR c__law_rule 3 [r.m] = .ret r.t := by
  refine rule_eq ⟨?_, ?_, ?_, ?_, ?_, ?_, ?_, ?_, ?_, ?_⟩
  · rcases hr.f with e | e <;> simp [e]
  · cases hw : r.window with
    | none => simp [oiT]
    | some w =>
      have := hr.w w hw
      have : w = 1 ∨ w = 2 ∨ w = 3 := by omega
      rcases this with e | e | e <;> simp [oiT, e]
  · cases r.renew <;> simp
  · rcases hr.n with e | e | e <;> simp [e]
  · cases r.ahead <;> simp
  · cases r.atend <;> simp
  · have : r.most = 1 ∨ r.most = 2 ∨ r.most = 3 := by have := hr.m; omega
    rcases this with e | e | e <;> simp [e]
  · cases r.tell <;> simp [fullT]
  · cases hw : r.slots with
    | none => simp [oiT]
    | some w =>
      have := hr.s w hw
      have : w = 1 ∨ w = 2 := by omega
      rcases this with e | e <;> simp [oiT, e]
  · cases r.farewell <;> simp
end
end LW
end s_M11Cf
section s_M11n
set_option Elab.async false
set_option linter.all false
set_option maxRecDepth 100000
set_option maxHeartbeats 4000000
/-! k11: the three forms -/
namespace LW
open PySem PySem.Spec PyProof.Rows L2 TL
section
variable {name : Str}
abbrev fN (name : Str) : Unit → Str := fun _ => name
theorem kx1 (h : KeyOk name) : Kx (fN name) := ⟨fun _ _ _ => rfl, fun _ => h, [()], fun _ => by simp, by simp⟩
def RA (w : Int) (renew ahead atend : Bool) : Ru := ⟨1, some w, renew, 0, ahead, atend, 3, false, none, false⟩
theorem ra_ok {w : Int} (h : 1 ≤ w ∧ w ≤ 3) {renew ahead atend : Bool} : (RA w renew ahead atend).ok := ⟨.inl rfl, fun i e => by cases e; exact h, .inl rfl, ⟨show (1 : Int) ≤ 3 by decide, show (3 : Int) ≤ 3 by decide⟩, fun i e => by cases e⟩
theorem tenA {w : Int} {renew ahead atend : Bool} : runR c__law_ten 2 [.dic [(.str "window", .int w), (.str "renew", .bl renew), (.str "ahead", .bl ahead), (.str "atend", .bl atend)]] = .ret (RA w renew ahead atend).m := by
  unfold c__law_ten
  kernel_rfl
abbrev U := Unit
def csA (w m : Nat) : List (Sg U) := List.replicate (1 + m) (.say ()) ++ List.replicate w .tick ++ [.say ()]
def dueA1 (w m : Nat) (atend : Bool) : List (Ln U) := [.line ()] ++ List.replicate (w - 1) .tick ++ List.replicate (bif atend && decide (0 < m) then 1 else 0) (.again () m)
def dueA (w m : Nat) (ahead atend : Bool) : List (Ln U) := dueA1 w m atend ++ [.tick] ++ List.replicate (bif ahead && !atend && decide (0 < m) then 1 else 0) (.again () m) ++ [.line ()]
def lostA (m : Nat) (ahead atend : Bool) : Int := bif !ahead && !atend then m else 0
theorem perm1 {K' : List U} {cs : List (Sg U)} (h : pKeys [] cs = [()]) (p : K'.Perm (pKeys [] cs)) : K' = [()] := by
  rw [h] at p
  exact List.perm_singleton.mp p
theorem logA : ∀ w ∈ [1, 2, 3], ∀ m ∈ [0, 1, 2, 3], ∀ (renew ahead atend : Bool), pLog (RA (w : Nat) renew ahead atend) [] (csA w m) = dueA w m ahead atend ∧ pKeys [] (csA w m) = [()] ∧
    pTally (RA (w : Nat) renew ahead atend) (csA w m) () = ⟨2 + m, 2, m - lostA m ahead atend, lostA m ahead atend, 0⟩ := by
  decide +kernel
theorem endA (hn : KeyOk name) (w m : Nat) (renew ahead atend : Bool) (hw : w ∈ [1, 2, 3]) (hm : m ∈ [0, 1, 2, 3]) :
    runB c__law_end_right 10 [.str name, .int w, .bl renew, .bl ahead, .bl atend, .int m] = .ret (.bl true) := by
  have K := kx1 hn
  have hr : (RA w renew ahead atend).ok := ra_ok (by simp at hw; omega)
  obtain ⟨l1, l2, l3⟩ := logA w hw m hm renew ahead atend
  have hlen : (csA w m).length ≤ 1000 := by simp at hw hm; simp [csA]; omega
  have qL := logOf_eq K hr (csA w m) (.inl rfl) hlen
  obtain ⟨dd, mm, qro⟩ := log_ro K hr (csA w m)
  obtain ⟨K', p, qT⟩ := tally_eq K hr (csA w m) (.inl rfl) hlen
  rw [perm1 l2 p] at qT
  rw [l1] at qL qro
  have e1 : cCall (runR c__law_rule 3) (caCons (cCall (runR c__law_ten 2) (caCons (cDisp (((cC (.str "window")), (cVar 1)) :: (((cC (.str "renew")), (cVar 2)) :: (((cC (.str "ahead")), (cVar 3)) :: (((cC (.str "atend")), (cVar 4)) :: []))))) caNil)) caNil)
      [.fz (.str name), .fz (.int w), .fz (.bl renew), .fz (.bl ahead), .fz (.bl atend), .fz (.int m), .un, .un, .un, .un] = .ret (RA w renew ahead atend).t :=
    (call_eq (cons_eq ((call_eq (ts := [.dic [(.str "window", .int w), (.str "renew", .bl renew), (.str "ahead", .bl ahead), (.str "atend", .bl atend)]]) (cons_eq (by kernel_rfl) rfl)).trans tenA) rfl)).trans (rule_ru hr)
  have e6 : fEqA (talD (fN name) [()] (pTally (RA w renew ahead atend) (csA w m))) (.dic [(.str name, .tup [.int (2 + m), .int 2, .int (m - lostA m ahead atend), .int (lostA m ahead atend), .int 0])]) = .ret (.bl true) := by
    refine eqA1 ?_
    rw [l3]
    have : ∀ w ∈ [1, 2, 3], ∀ m ∈ [0, 1, 2, 3], ∀ (ahead atend : Bool), (okT (.tup (T5.ts ⟨2 + (m : Nat), 2, m - lostA m ahead atend, lostA m ahead atend, 0⟩)) && okT (.tup [.int (2 + m), .int 2, .int (m - lostA m ahead atend), .int (lostA m ahead atend), .int 0]) &&
      TL.eqT (.tup (T5.ts ⟨2 + (m : Nat), 2, m - lostA m ahead atend, lostA m ahead atend, 0⟩)) (.tup [.int (2 + m), .int 2, .int (m - lostA m ahead atend), .int (lostA m ahead atend), .int 0])) = true := by decide +kernel
    exact this w hw m hm ahead atend
  unfold runB c__law_end_right
  show (cSeq _ _ [.fz (.str name), .fz (.int w), .fz (.bl renew), .fz (.bl ahead), .fz (.bl atend), .fz (.int m), .un, .un, .un, .un] >>= _) = _
  rw [seq_nx (set_eq e1)]
  simp only [List.set_cons_succ, List.set_cons_zero]
  generalize (RA w renew ahead atend).t = R at qL qT
  clear e1
  simp only [List.mem_cons, List.not_mem_nil, or_false] at hw hm
  have e2 : cOp2 fAdd (cOp2 fAdd (cOp2 fRep (cLst (caCons (cTup (caCons (cC (.str "say")) (caCons (cVar 0) caNil))) caNil)) (cOp2 fAdd (cC (.int 1)) (cVar 5))) (cOp2 fRep (cLst (caCons (cTup (caCons (cC (.str "tick")) caNil)) caNil)) (cVar 1))) (cLst (caCons (cTup (caCons (cC (.str "say")) (caCons (cVar 0) caNil))) caNil))
      [.fz (.str name), .fz (.int w), .fz (.bl renew), .fz (.bl ahead), .fz (.bl atend), .fz (.int m), .fz R, .un, .un, .un] = .ret (.lst ((csA w m).map (Sg.t (fN name)))) := by
    rcases hw with rfl | rfl | rfl <;> rcases hm with rfl | rfl | rfl | rfl <;> kernel_rfl
  have e3 : cOp2 fAdd (cOp2 fAdd (cLst (caCons (cTup (caCons (cC (.str "line")) (caCons (cVar 0) caNil))) caNil)) (cOp2 fRep (cLst (caCons (cTup (caCons (cC (.str "tick")) caNil)) caNil)) (cOp2 fSubI (cVar 1) (cC (.int 1))))) (cOp2 fRep (cLst (caCons (cTup (caCons (cC (.str "again")) (caCons (cVar 0) (caCons (cVar 5) caNil)))) caNil)) (cCall fInt (caCons (cAndV (cVar 4) (cOp2 (fII fun i j => .bl (decide (j < i))) (cVar 5) (cC (.int 0)))) caNil)))
      [.fz (.str name), .fz (.int w), .fz (.bl renew), .fz (.bl ahead), .fz (.bl atend), .fz (.int m), .fz R, .fz (.lst ((csA w m).map (Sg.t (fN name)))), .un, .un] = .ret (.lst ((dueA1 w m atend).map (Ln.t (fN name)))) := by
    rcases hw with rfl | rfl | rfl <;> rcases hm with rfl | rfl | rfl | rfl <;> cases atend <;> kernel_rfl
  have e4 : cOp2 fAdd (cOp2 fAdd (cOp2 fAdd (cVar 8) (cLst (caCons (cTup (caCons (cC (.str "tick")) caNil)) caNil))) (cOp2 fRep (cLst (caCons (cTup (caCons (cC (.str "again")) (caCons (cVar 0) (caCons (cVar 5) caNil)))) caNil)) (cCall fInt (caCons (cAndV (cVar 3) (cAndV (cNotV (cVar 4)) (cOp2 (fII fun i j => .bl (decide (j < i))) (cVar 5) (cC (.int 0))))) caNil)))) (cLst (caCons (cTup (caCons (cC (.str "line")) (caCons (cVar 0) caNil))) caNil))
      [.fz (.str name), .fz (.int w), .fz (.bl renew), .fz (.bl ahead), .fz (.bl atend), .fz (.int m), .fz R, .fz (.lst ((csA w m).map (Sg.t (fN name)))), .fz (.lst ((dueA1 w m atend).map (Ln.t (fN name)))), .un] = .ret (.lst ((dueA w m ahead atend).map (Ln.t (fN name)))) := by
    rcases hw with rfl | rfl | rfl <;> rcases hm with rfl | rfl | rfl | rfl <;> cases atend <;> cases ahead <;> kernel_rfl
  rw [seq_nx (set_eq e2)]
  simp only [List.set_cons_succ, List.set_cons_zero]
  rw [seq_nx (set_eq e3)]
  simp only [List.set_cons_succ, List.set_cons_zero]
  rw [seq_nx (set_eq e4)]
  simp only [List.set_cons_succ, List.set_cons_zero]
  have e5 : cIf (cAndT (cNotT (cB (cVar 3))) (cNotT (cB (cVar 4)))) (cVar 5) (cC (.int 0)) [.fz (.str name), .fz (.int w), .fz (.bl renew), .fz (.bl ahead), .fz (.bl atend), .fz (.int m), .fz R, .fz (.lst ((csA w m).map (Sg.t (fN name)))), .fz (.lst ((dueA w m ahead atend).map (Ln.t (fN name)))), .un] = .ret (.int (lostA m ahead atend)) := by
    cases atend <;> cases ahead <;> kernel_rfl
  rw [seq_nx (set_eq e5)]
  simp only [List.set_cons_succ, List.set_cons_zero]
  have e7 : cIfS (cB (cOp2 fNe (cCall (runR c_log_of 2) (caCons (cVar 6) (caCons (cVar 7) caNil))) (cVar 8))) (cRet (cC (.bl false))) (fun r => .ret (.nx r)) [.fz (.str name), .fz (.int w), .fz (.bl renew), .fz (.bl ahead), .fz (.bl atend), .fz (.int m), .fz R, .fz (.lst ((csA w m).map (Sg.t (fN name)))), .fz (.lst ((dueA w m ahead atend).map (Ln.t (fN name)))), .fz (.int (lostA m ahead atend))] =
      .ret (.nx [.fz (.str name), .fz (.int w), .fz (.bl renew), .fz (.bl ahead), .fz (.bl atend), .fz (.int m), .fz R, .fz (.lst ((csA w m).map (Sg.t (fN name)))), .fz (.lst ((dueA w m ahead atend).map (Ln.t (fN name)))), .fz (.int (lostA m ahead atend))]) :=
    (ifNe_eq qro (by omega) ((call_eq (cons_eq (var_eq rfl) (cons_eq (var_eq rfl) rfl))).trans qL) (var_eq rfl)).trans rfl
  rw [seq_nx e7]
  have e8 : cDisp (((cVar 0), (cTup (caCons (cOp2 fAdd (cC (.int 2)) (cVar 5)) (caCons (cC (.int 2)) (caCons (cOp2 fSubI (cVar 5) (cVar 9)) (caCons (cVar 9) (caCons (cC (.int 0)) caNil))))))) :: []) [.fz (.str name), .fz (.int w), .fz (.bl renew), .fz (.bl ahead), .fz (.bl atend), .fz (.int m), .fz R, .fz (.lst ((csA w m).map (Sg.t (fN name)))), .fz (.lst ((dueA w m ahead atend).map (Ln.t (fN name)))), .fz (.int (lostA m ahead atend))] =
      .ret (.dic [(.str name, .tup [.int (2 + m), .int 2, .int (m - lostA m ahead atend), .int (lostA m ahead atend), .int 0])]) := by kernel_rfl
  rw [ret_eq ((op2_eq ((call_eq (cons_eq (var_eq rfl) (cons_eq (var_eq rfl) rfl))).trans qT) e8).trans e6)]
  rfl
end
end LW
end s_M11n
section s_M11o
set_option Elab.async false
set_option linter.all false
set_option maxRecDepth 100000
set_option maxHeartbeats 4000000
/-! k11: windows renewed, each second saying -/
namespace LW
open PySem PySem.Spec PyProof.Rows L2 TL
section
variable {name : Str}
def RB (w : Int) (renew : Bool) : Ru := ⟨1, some w, renew, 0, false, true, 3, false, none, false⟩
theorem rb_ok {w : Int} (h : 1 ≤ w ∧ w ≤ 3) {renew : Bool} : (RB w renew).ok := ⟨.inl rfl, fun i e => by cases e; exact h, .inl rfl, ⟨show (1 : Int) ≤ 3 by decide, show (3 : Int) ≤ 3 by decide⟩, fun i e => by cases e⟩
theorem tenB {w : Int} {renew : Bool} : runR c__law_ten 2 [.dic [(.str "window", .int w), (.str "renew", .bl renew), (.str "atend", .bl true)]] = .ret (RB w renew).m := by
  unfold c__law_ten
  kernel_rfl
def csB (w : Nat) : List (Sg U) := [.say ()] ++ List.replicate (w - 1) .tick ++ [.say (), .tick, .say ()]
def dueB1 (w : Nat) : List (Ln U) := [.line ()] ++ List.replicate w .tick
def dueB (w : Nat) (renew : Bool) : List (Ln U) := bif renew then dueB1 w else (dueB1 w).dropLast ++ [.again () 1, .tick, .line ()]
theorem logB : ∀ w ∈ [2, 3], ∀ (renew : Bool), pLog (RB (w : Nat) renew) [] (csB w) = dueB w renew := by decide +kernel
theorem renewA (hn : KeyOk name) (w : Nat) (renew : Bool) (hw : w ∈ [2, 3]) : runB c__law_renew_right 6 [.str name, .int w, .bl renew] = .ret (.bl true) := by
  have K := kx1 hn
  have hr : (RB w renew).ok := rb_ok (by simp at hw; omega)
  have l1 := logB w hw renew
  have hlen : (csB w).length ≤ 1000 := by simp at hw; simp [csB]; omega
  have qL := logOf_eq K hr (csB w) (.inl rfl) hlen
  obtain ⟨dd, mm, qro⟩ := log_ro K hr (csB w)
  rw [l1] at qL qro
  have e1 : cCall (runR c__law_rule 3) (caCons (cCall (runR c__law_ten 2) (caCons (cDisp (((cC (.str "window")), (cVar 1)) :: (((cC (.str "renew")), (cVar 2)) :: (((cC (.str "atend")), (cC (.bl true))) :: [])))) caNil)) caNil)
      [.fz (.str name), .fz (.int w), .fz (.bl renew), .un, .un, .un] = .ret (RB w renew).t :=
    (call_eq (cons_eq ((call_eq (ts := [.dic [(.str "window", .int w), (.str "renew", .bl renew), (.str "atend", .bl true)]]) (cons_eq (by kernel_rfl) rfl)).trans tenB) rfl)).trans (rule_ru hr)
  unfold runB c__law_renew_right
  show (cSeq _ _ [.fz (.str name), .fz (.int w), .fz (.bl renew), .un, .un, .un] >>= _) = _
  rw [seq_nx (set_eq e1)]
  simp only [List.set_cons_succ, List.set_cons_zero]
  generalize (RB w renew).t = R at qL
  clear e1
  simp only [List.mem_cons, List.not_mem_nil, or_false] at hw
  have e2 : cOp2 fAdd (cOp2 fAdd (cLst (caCons (cTup (caCons (cC (.str "say")) (caCons (cVar 0) caNil))) caNil)) (cOp2 fRep (cLst (caCons (cTup (caCons (cC (.str "tick")) caNil)) caNil)) (cOp2 fSubI (cVar 1) (cC (.int 1))))) (cLst (caCons (cTup (caCons (cC (.str "say")) (caCons (cVar 0) caNil))) (caCons (cTup (caCons (cC (.str "tick")) caNil)) (caCons (cTup (caCons (cC (.str "say")) (caCons (cVar 0) caNil))) caNil))))
      [.fz (.str name), .fz (.int w), .fz (.bl renew), .fz R, .un, .un] = .ret (.lst ((csB w).map (Sg.t (fN name)))) := by
    rcases hw with rfl | rfl <;> kernel_rfl
  have e3 : cOp2 fAdd (cLst (caCons (cTup (caCons (cC (.str "line")) (caCons (cVar 0) caNil))) caNil)) (cOp2 fRep (cLst (caCons (cTup (caCons (cC (.str "tick")) caNil)) caNil)) (cVar 1))
      [.fz (.str name), .fz (.int w), .fz (.bl renew), .fz R, .fz (.lst ((csB w).map (Sg.t (fN name)))), .un] = .ret (.lst ((dueB1 w).map (Ln.t (fN name)))) := by
    rcases hw with rfl | rfl <;> kernel_rfl
  have e4 : cIfS (cNotT (cB (cVar 2))) (cSet 5 (cOp2 fAdd (cSl (cVar 5) coNone (coSome (cOp1 (fI1 fun i => .int (-i)) (cC (.int 1))))) (cLst (caCons (cTup (caCons (cC (.str "again")) (caCons (cVar 0) (caCons (cC (.int 1)) caNil)))) (caCons (cTup (caCons (cC (.str "tick")) caNil)) (caCons (cTup (caCons (cC (.str "line")) (caCons (cVar 0) caNil))) caNil))))))
      (fun r => .ret (.nx r)) [.fz (.str name), .fz (.int w), .fz (.bl renew), .fz R, .fz (.lst ((csB w).map (Sg.t (fN name)))), .fz (.lst ((dueB1 w).map (Ln.t (fN name))))] =
      .ret (.nx [.fz (.str name), .fz (.int w), .fz (.bl renew), .fz R, .fz (.lst ((csB w).map (Sg.t (fN name)))), .fz (.lst ((dueB w renew).map (Ln.t (fN name))))]) := by
    rcases hw with rfl | rfl <;> cases renew <;> kernel_rfl
  rw [seq_nx (set_eq e2)]
  simp only [List.set_cons_succ, List.set_cons_zero]
  rw [seq_nx (set_eq e3)]
  simp only [List.set_cons_succ, List.set_cons_zero]
  rw [seq_nx e4]
  rw [ret_eq ((op2_eq ((call_eq (cons_eq (var_eq rfl) (cons_eq (var_eq rfl) rfl))).trans qL) (var_eq rfl)).trans (eqRefl (neg := false) qro (by omega)))]
  rfl
def oW : Option Nat → Option Int
  | none => none
  | some w => some w
def RC (a : Int) (n : Int) (ahead : Bool) (w : Option Nat) : Ru := ⟨a, oW w, false, n, ahead, false, 3, false, none, false⟩
theorem rc_ok {a n : Int} {w : Option Nat} (ha : a = 1 ∨ a = 2) (hn : n = 1 ∨ n = 2) (h : w ∈ [none, some 1, some 2, some 3]) {ahead : Bool} : (RC a n ahead w).ok := by
  refine ⟨ha, fun i e => ?_, .inr hn, ⟨show (1 : Int) ≤ 3 by decide, show (3 : Int) ≤ 3 by decide⟩, fun i e => by cases e⟩
  simp only [List.mem_cons, List.not_mem_nil, or_false] at h
  rcases h with rfl | rfl | rfl | rfl <;> cases e <;> decide
theorem tenC {a n : Int} {ahead : Bool} {w : Option Nat} : runR c__law_ten 2 [.dic [(.str "first", .int a), (.str "nth", .int n), (.str "ahead", .bl ahead), (.str "window", oiT (oW w))]] = .ret (RC a n ahead w).m := by
  unfold c__law_ten
  kernel_rfl
def csC (a : Nat) : List (Sg U) := List.replicate (a + 4) (.say ())
def dueC (a : Nat) (ahead : Bool) : List (Ln U) := List.replicate a (.line ()) ++ ((bif ahead then [Ln.again () 1] else []) ++ [.line ()] ++ ((bif ahead then [Ln.again () 1] else []) ++ [.line ()]))
def dueD (a : Nat) : List (Ln U) := List.replicate (a + 4) (.line ())
theorem logC : ∀ a ∈ [1, 2], ∀ (ahead : Bool), ∀ w ∈ [none, some 1, some 2, some 3], pLog (RC (a : Nat) 2 ahead w) [] (csC a) = dueC a ahead ∧ pEnd (RC (a : Nat) 2 ahead w) [] (csC a) = [⟨(), 0, a, bif ahead then 0 else 2⟩] ∧ pLog (RC (a : Nat) 1 ahead w) [] (csC a) = dueD a := by
  decide +kernel
theorem nthA (hn : KeyOk name) (a : Nat) (ahead : Bool) (w : Option Nat) (ha : a ∈ [1, 2]) (hw : w ∈ [none, some 1, some 2, some 3]) : runB c__law_nth_right 8 [.str name, .int a, .bl ahead, oiT (oW w)] = .ret (.bl true) := by
  have K := kx1 hn
  have ha' : ((a : Nat) : Int) = 1 ∨ ((a : Nat) : Int) = 2 := by simp at ha; omega
  have hr : (RC a 2 ahead w).ok := rc_ok ha' (.inr rfl) hw
  have hr1 : (RC a 1 ahead w).ok := rc_ok ha' (.inl rfl) hw
  obtain ⟨l1, l2, l3⟩ := logC a ha ahead w hw
  have hlen : (csC a).length ≤ 1000 := by simp at ha; simp [csC]; omega
  have qL := logOf_eq K hr (csC a) (.inl rfl) hlen
  have qL1 := logOf_eq K hr1 (csC a) (.inl rfl) hlen
  have qM := memoryBehind_eq K hr (csC a) (.inl rfl) hlen
  obtain ⟨dd, mm, qro⟩ := log_ro K hr (csC a)
  obtain ⟨dd1, mm1, qro1⟩ := log_ro K hr1 (csC a)
  obtain ⟨dd2, mm2, qro2⟩ := mem_ro K hr (pEnd_ok K hr (csC a) (mok_nil hr))
  rw [l1] at qL qro
  rw [l3] at qL1 qro1
  rw [l2] at qM qro2
  have e1 : ∀ (n : Int), (RC a n ahead w).ok → ∀ x4 x5 x6 x7 : Sl, cCall (runR c__law_rule 3) (caCons (cCall (runR c__law_ten 2) (caCons (cDisp (((cC (.str "first")), (cVar 1)) :: (((cC (.str "nth")), (cC (.int n))) :: (((cC (.str "ahead")), (cVar 2)) :: (((cC (.str "window")), (cVar 3)) :: []))))) caNil)) caNil)
      [.fz (.str name), .fz (.int a), .fz (.bl ahead), .fz (oiT (oW w)), x4, x5, x6, x7] = .ret (RC a n ahead w).t := fun n hr x4 x5 x6 x7 =>
    (call_eq (cons_eq ((call_eq (ts := [.dic [(.str "first", .int a), (.str "nth", .int n), (.str "ahead", .bl ahead), (.str "window", oiT (oW w))]]) (cons_eq (by kernel_rfl) rfl)).trans tenC) rfl)).trans (rule_ru hr)
  unfold runB c__law_nth_right
  show (cSeq _ _ [.fz (.str name), .fz (.int a), .fz (.bl ahead), .fz (oiT (oW w)), .un, .un, .un, .un] >>= _) = _
  rw [seq_nx (set_eq (e1 2 hr _ _ _ _))]
  simp only [List.set_cons_succ, List.set_cons_zero]
  generalize (RC a 2 ahead w).t = R at qL qM
  generalize hO : oiT (oW w) = O at e1
  simp only [List.mem_cons, List.not_mem_nil, or_false] at ha
  have e2 : cOp2 fRep (cLst (caCons (cTup (caCons (cC (.str "say")) (caCons (cVar 0) caNil))) caNil)) (cOp2 fAdd (cVar 1) (cC (.int 4)))
      [.fz (.str name), .fz (.int a), .fz (.bl ahead), .fz O, .fz R, .un, .un, .un] = .ret (.lst ((csC a).map (Sg.t (fN name)))) := by
    rcases ha with rfl | rfl <;> kernel_rfl
  have e3 : cOp2 fAdd (cOp2 fRep (cLst (caCons (cTup (caCons (cC (.str "line")) (caCons (cVar 0) caNil))) caNil)) (cVar 1)) (cOp2 fRep (cOp2 fAdd (cOp2 fRep (cLst (caCons (cTup (caCons (cC (.str "again")) (caCons (cVar 0) (caCons (cC (.int 1)) caNil)))) caNil)) (cCall fInt (caCons (cVar 2) caNil))) (cLst (caCons (cTup (caCons (cC (.str "line")) (caCons (cVar 0) caNil))) caNil))) (cC (.int 2)))
      [.fz (.str name), .fz (.int a), .fz (.bl ahead), .fz O, .fz R, .fz (.lst ((csC a).map (Sg.t (fN name)))), .un, .un] = .ret (.lst ((dueC a ahead).map (Ln.t (fN name)))) := by
    rcases ha with rfl | rfl <;> cases ahead <;> kernel_rfl
  rw [seq_nx (set_eq e2)]
  simp only [List.set_cons_succ, List.set_cons_zero]
  rw [seq_nx (set_eq e3)]
  simp only [List.set_cons_succ, List.set_cons_zero]
  have e4 : cTup (caCons (cTup (caCons (cVar 0) (caCons (cC (.int 0)) (caCons (cVar 1) (caCons (cIf (cB (cVar 2)) (cC (.int 0)) (cC (.int 2))) caNil))))) caNil)
      [.fz (.str name), .fz (.int a), .fz (.bl ahead), .fz O, .fz R, .fz (.lst ((csC a).map (Sg.t (fN name)))), .fz (.lst ((dueC a ahead).map (Ln.t (fN name)))), .un] = .ret (memT ([⟨(), 0, a, bif ahead then 0 else 2⟩].map (PEn.of (fN name)))) := by
    cases ahead <;> kernel_rfl
  have e5 : cIfS (cOrT (cB (cOp2 fNe (cCall (runR c_log_of 2) (caCons (cVar 4) (caCons (cVar 5) caNil))) (cVar 6))) (cB (cOp2 fNe (cCall (runB c_memory_behind 3) (caCons (cVar 4) (caCons (cVar 5) caNil))) (cTup (caCons (cTup (caCons (cVar 0) (caCons (cC (.int 0)) (caCons (cVar 1) (caCons (cIf (cB (cVar 2)) (cC (.int 0)) (cC (.int 2))) caNil))))) caNil))))) (cRet (cC (.bl false)))
      (fun r => .ret (.nx r)) [.fz (.str name), .fz (.int a), .fz (.bl ahead), .fz O, .fz R, .fz (.lst ((csC a).map (Sg.t (fN name)))), .fz (.lst ((dueC a ahead).map (Ln.t (fN name)))), .un] = .ret (.nx [.fz (.str name), .fz (.int a), .fz (.bl ahead), .fz O, .fz R, .fz (.lst ((csC a).map (Sg.t (fN name)))), .fz (.lst ((dueC a ahead).map (Ln.t (fN name)))), .un]) := by
    refine (ifS_f ((orT_f (b_eq ((op2_eq ((call_eq (cons_eq (var_eq rfl) (cons_eq (var_eq rfl) rfl))).trans qL) (var_eq rfl)).trans (eqRefl (neg := true) qro (by omega))))).trans ?_)).trans rfl
    exact b_eq ((op2_eq ((call_eq (cons_eq (var_eq rfl) (cons_eq (var_eq rfl) rfl))).trans qM) e4).trans (eqRefl (neg := true) qro2 (by omega)))
  rw [seq_nx e5]
  have e1' := e1 1 hr1 (.fz R) (.fz (.lst ((csC a).map (Sg.t (fN name))))) (.fz (.lst ((dueC a ahead).map (Ln.t (fN name))))) .un
  rw [seq_nx (set_eq e1')]
  simp only [List.set_cons_succ, List.set_cons_zero]
  generalize (RC a 1 ahead w).t = R1 at qL1
  have e6 : cOp2 fRep (cLst (caCons (cTup (caCons (cC (.str "line")) (caCons (cVar 0) caNil))) caNil)) (cOp2 fAdd (cVar 1) (cC (.int 4)))
      [.fz (.str name), .fz (.int a), .fz (.bl ahead), .fz O, .fz R, .fz (.lst ((csC a).map (Sg.t (fN name)))), .fz (.lst ((dueC a ahead).map (Ln.t (fN name)))), .fz R1] = .ret (.lst ((dueD a).map (Ln.t (fN name)))) := by
    rcases ha with rfl | rfl <;> kernel_rfl
  rw [ret_eq ((op2_eq ((call_eq (cons_eq (var_eq rfl) (cons_eq (var_eq rfl) rfl))).trans qL1) e6).trans (eqRefl (neg := false) qro1 (by omega)))]
  rfl
end
end LW
end s_M11o
section s_M11p
set_option Elab.async false
set_option linter.all false
set_option maxRecDepth 100000
set_option maxHeartbeats 4000000
/-! k11: the law -/
namespace LW
open PySem PySem.Spec PyProof.Rows L2 TL
section
variable {ca : EC} {cs : List Sl → G (List T)} {ρ : List Sl} {t : T} {Q : List T → Prop} {Qc : Ctl → Prop} {E : T → Prop} {F : List T → G T} {c d : SC}
theorem consR_wp (h : ca ρ = .ret t) (h2 : (cs ρ).wp (fun ts => Q (t :: ts)) E) : (caCons ca cs ρ).wp Q E := by
  unfold caCons
  rw [h, G.ret_bind]
  exact G.wp_bind.mpr h2
theorem consW_wp (h : (ca ρ).wp (fun t => (cs ρ).wp (fun ts => Q (t :: ts)) E) E) : (caCons ca cs ρ).wp Q E := by
  unfold caCons
  exact G.wp_bind.mpr (G.wp_mono h (fun t ht => G.wp_bind.mpr ht) fun _ x => x)
theorem nilW_wp (h : Q []) : (caNil ρ).wp Q E := h
theorem takeR_wp {i : Nat} {n : Int} {Q : T → Prop} (hn : 1 ≤ n ∧ n < 1073741824) (hd : ρ[i]? = some (.fz .drw)) (h : ∀ j : Nat, j < n.toNat → Q (.int j)) : (cCall fTake (caCons (cVar i) (caCons (cC (.int n)) caNil)) ρ).wp Q E := by
  rw [call_eq (cons_eq (var_eq hd) (cons_eq (t := .int n) rfl rfl))]
  exact take_wp hn h
theorem addTake_wp {i : Nat} {a n : Int} {Q : T → Prop} (hn : 1 ≤ n ∧ n < 1073741824) (hd : ρ[i]? = some (.fz .drw)) (h : ∀ j : Nat, j < n.toNat → Q (.int (a + j))) : (cOp2 fAdd (cC (.int a)) (cCall fTake (caCons (cVar i) (caCons (cC (.int n)) caNil))) ρ).wp Q E := by
  show ((cCall fTake (caCons (cVar i) (caCons (cC (.int n)) caNil)) ρ) >>= fun b => fAdd (.int a) b).wp Q E
  exact G.wp_bind.mpr (takeR_wp hn hd fun j hj => h j hj)
theorem pickR_wp {i : Nat} {xs : List T} {cx : List Sl → G (List T)} {Q : T → Prop} (hd : ρ[i]? = some (.fz .drw)) (hc : cx ρ = .ret xs) (hn : 1 ≤ xs.length ∧ xs.length < 1073741824) (h : ∀ x ∈ xs, Q x) : (cCall (runB c_law_pick 2) (caCons (cVar i) (caCons (cLst cx) caNil)) ρ).wp Q E := by
  rw [call_eq (cons_eq (var_eq hd) (cons_eq (lst_eq hc) rfl))]
  exact pick_wp hn h
theorem ifNot_wp (h : (cs ρ).wp (fun ts => F ts = .ret (.bl true)) (fun _ => False)) (hd : (d ρ).wp Qc (fun _ => False)) : (cIfS (cNotT (cB (cCall F cs))) c d ρ).wp Qc (fun _ => False) := by
  unfold cIfS cNotT cB cCall
  refine G.wp_bind.mpr (G.wp_bind.mpr (G.wp_bind.mpr (G.wp_bind.mpr (G.wp_mono h (fun ts hts => ?_) fun _ x => x))))
  rw [hts]
  exact hd
end
section
variable {s0 s2 s3 s4 s5 s6 : Sl}
theorem marks_wp {ρ : List Sl} (h : ρ[1]? = some (.fz .drw)) (h2 : ∀ t, ((wipeR ρ [6]).set 6 (.fz t))[1]? = some (.fz .drw)) : (cComp (fun r => (caCons (cC (.int 3)) caNil) r >>= rgOf) (gcName 6) (fun _ => .ret true) (cOp2 fEq (cCall fTake (caCons (cVar 1) (caCons (cC (.int 2)) caNil))) (cC (.int 0))) [6] ρ).wp
    (fun t => ∃ a b c : Bool, t = .lst [.bl a, .bl b, .bl c]) (fun _ => False) := by
  unfold cComp
  show (((caCons (cC (.int 3)) caNil) ρ >>= rgOf) >>= _).wp _ _
  rw [show ((caCons (cC (.int 3)) caNil) ρ >>= rgOf) = .ret (rngT 0 3) from rgOf_eq (n := 3) (by omega) (by omega), G.ret_bind]
  refine G.wp_bind.mpr (G.wp_mono (compG_wp (P := fun _ y => ∃ b : Bool, y = .bl b) (rngT 0 3) fun t ht => ?_) (fun ys hys => ?_) fun _ x => x)
  · show ((cCall fTake (caCons (cVar 1) (caCons (cC (.int 2)) caNil)) ((wipeR ρ [6]).set 6 (.fz t))) >>= fun a => fEq a (.int 0)).wp _ _
    refine G.wp_bind.mpr (takeR_wp (by omega) (h2 t) fun j hj => ?_)
    rw [show fEq (.int (j : Int)) (.int 0) = .ret (.bl (decide (j = 0))) from eq0 j]
    exact ⟨_, rfl⟩
  · obtain ⟨hl, hp⟩ := hys
    match ys, hl with
    | [y0, y1, y2], _ =>
      obtain ⟨a, rfl⟩ := hp (.int 0, y0) (by simp [rngT])
      obtain ⟨b, rfl⟩ := hp (.int 1, y1) (by simp [rngT])
      obtain ⟨c, rfl⟩ := hp (.int 2, y2) (by simp [rngT])
      exact ⟨a, b, c, rfl⟩
theorem b1_wp : (c_law_b1 [s0, .fz .drw, s2, s3, s4, s5, s6]).wp (fun k => ∃ y3 y4 y5 y6, k = .nx [s0, .fz .drw, s2, y3, y4, y5, y6]) (fun _ => False) := by
  unfold c_law_b1
  have e1 : cOp2 fIx (cCall (runR c__law_names 10) (caCons (cVar 1) (caCons (cC (.int 1)) caNil))) (cC (.int 0)) [s0, .fz .drw, s2, s3, s4, s5, s6] = (runR c__law_names 10 [.drw, .int 1] >>= fun t => fIx t (.int 0)) := rfl
  refine nx_wp (G.wp_bind.mpr ?_)
  simp only [cMany, e1]
  rw [G.bind_assoc]
  refine G.wp_bind.mpr (G.wp_mono (names_wp (n := 1) (by omega) (by omega)) (fun t ht => ?_) fun _ x => x)
  obtain ⟨F, hF, hFl, rfl⟩ := ht
  match F, hFl with
  | [name], _ =>
    have hn : KeyOk name := hF.k name (by simp)
    have e2 : fIx (.lst ([name].map T.str)) (.int 0) = .ret (.str name) := by kernel_rfl
    rw [e2, G.ret_bind]
    refine G.wp_bind.mpr (G.wp_bind.mpr (addTake_wp (by omega) rfl fun j hj => ?_))
    refine ⟨[s0, .fz .drw, s2, .fz (.str name), .fz (.int (1 + (j : Int))), s5, s6], rfl, ?_⟩
    obtain ⟨w, hw, ew⟩ : ∃ w : Nat, w ∈ [1, 2, 3] ∧ (1 + (j : Int)) = (w : Int) := ⟨1 + j, by simp at hj ⊢; omega, by omega⟩
    rw [ew]
    refine nx_wp ?_
    unfold cSeqFrz
    refine G.wp_bind.mpr (setO_wp (G.wp_mono (marks_wp rfl fun t => rfl) (fun t ht => ?_) fun _ x => x))
    obtain ⟨a, b, c, rfl⟩ := ht
    refine ⟨[s0, .fz .drw, s2, .fz (.str name), .fz (.int w), .fz (.lst [.bl a, .bl b, .bl c]), s6], rfl, ?_⟩
    have i0 : fIx (.lst [.bl a, .bl b, .bl c]) (.int 0) = .ret (.bl a) := by kernel_rfl
    have i1 : fIx (.lst [.bl a, .bl b, .bl c]) (.int 1) = .ret (.bl b) := by kernel_rfl
    have i2 : fIx (.lst [.bl a, .bl b, .bl c]) (.int 2) = .ret (.bl c) := by kernel_rfl
    refine nx_wp (ifNot_wp (consR_wp (var_eq rfl) (consR_wp (var_eq rfl) (consR_wp ((op2_eq (var_eq rfl) rfl).trans i0) (consR_wp ((op2_eq (var_eq rfl) rfl).trans i1) (consR_wp ((op2_eq (var_eq rfl) rfl).trans i2) (consW_wp (takeR_wp (by omega) rfl fun m hm => nilW_wp ?_))))))) ?_)
    · exact endA hn w m a b c hw (by simp at hm ⊢; omega)
    refine ⟨_, rfl, ?_⟩
    refine nx_wp (ifNot_wp (consR_wp (var_eq rfl) (consW_wp (addTake_wp (by omega) rfl fun m hm => consR_wp ((op2_eq (var_eq rfl) rfl).trans i0) (nilW_wp ?_)))) ?_)
    · obtain ⟨w2, hw2, e⟩ : ∃ w2 : Nat, w2 ∈ [2, 3] ∧ (2 + (m : Int)) = (w2 : Int) := ⟨2 + m, by simp at hm ⊢; omega, by omega⟩
      rw [e]
      exact renewA hn w2 a hw2
    refine ⟨_, rfl, ?_⟩
    refine ifNot_wp (consR_wp (var_eq rfl) (consW_wp (addTake_wp (by omega) rfl fun m hm => consR_wp ((op2_eq (var_eq rfl) rfl).trans i1) (consW_wp ?_)))) ⟨_, _, _, _, rfl⟩
    obtain ⟨f2, hf2, e⟩ : ∃ f2 : Nat, f2 ∈ [1, 2] ∧ (1 + (m : Int)) = (f2 : Int) := ⟨1 + m, by simp at hm ⊢; omega, by omega⟩
    refine pickR_wp rfl (xs := [.non, .int w]) rfl ⟨by simp, by simp⟩ fun x hx => nilW_wp ?_
    rw [e]
    simp only [List.mem_cons, List.not_mem_nil, or_false] at hx
    rcases hx with rfl | rfl
    · exact nthA hn f2 b none hf2 (by simp)
    · exact nthA hn f2 b (some w) hf2 (by simp at hw ⊢; exact hw)
end
theorem rng_eq (ns : List Int) {r : List Sl} (hr : r[0]? = some (.fz (.scr ns))) : ∃ ts, (fun r => (caCons (cOp2 fAdd (cC (.int 1)) (cCall fMin2 (caCons (cCall fLen (caCons (cVar 0) caNil)) (caCons (cC (.int 1)) caNil)))) caNil) r >>= rgOf) r = .ret ts := by
  have h : (caCons (cOp2 fAdd (cC (.int 1)) (cCall fMin2 (caCons (cCall fLen (caCons (cVar 0) caNil)) (caCons (cC (.int 1)) caNil)))) caNil) r = .ret [.int (1 + (if (1 : Int) < (ns.length : Int) then (1 : Int) else (ns.length : Int)))] := by
    simp only [caCons, caNil, cOp2, cCall, cVar, cC, hr, fLen, fMin2, fAdd, G.ret_bind]
  have h2 := rgOf_eq (n := 1 + (if (1 : Int) < (ns.length : Int) then (1 : Int) else (ns.length : Int))) (by split <;> omega) (by split <;> omega)
  refine ⟨_, Eq.trans ?_ h2⟩
  show (caCons (cOp2 fAdd (cC (.int 1)) (cCall fMin2 (caCons (cCall fLen (caCons (cVar 0) caNil)) (caCons (cC (.int 1)) caNil)))) caNil r >>= rgOf) = _
  rw [h]
  rfl
theorem body_wp (ns : List Int) {ci : List Sl → G (List T)} {ts : List T} (hc : ci [.fz (.scr ns), .fz .drw, .un, .un, .un, .un, .un] = .ret ts) :
    (cSeq (cFor ci (gcName 2) c_law_b1) (cRet (cC (.bl true))) [.fz (.scr ns), .fz .drw, .un, .un, .un, .un, .un]).wp (fun k => k = .rt (.bl true)) (fun _ => False) := by
  refine nx_wp (G.wp_bind.mpr (wp_eq hc ?_))
  refine G.wp_mono (forG_inv (I := fun r => ∃ t2 t3 t4 t5 t6, r = [.fz (.scr ns), .fz .drw, t2, t3, t4, t5, t6]) (fun t ht r hr => ?_) ⟨_, _, _, _, _, rfl⟩) (fun k hk => ?_) fun _ x => x
  · obtain ⟨t2, t3, t4, t5, t6, rfl⟩ := hr
    refine wp_eq (a := [.fz (.scr ns), .fz .drw, .fz t, t3, t4, t5, t6]) rfl (G.wp_mono b1_wp (fun k hk => ?_) fun _ x => x)
    obtain ⟨u3, u4, u5, u6, rfl⟩ := hk
    exact ⟨_, .inl rfl, _, _, _, _, _, rfl⟩
  · obtain ⟨r', rfl, _⟩ := hk
    exact ⟨r', rfl, rfl⟩
theorem begin_eq {c : SC} (ns : List Int) (h : (c [.fz (.scr ns), .fz .drw, .un, .un, .un, .un, .un]).wp (fun k => k = .rt (.bl true)) (fun _ => False)) :
    (runB (cBegin 1 0 c) 7 [.scr ns]).wp (fun t => t = .bl true) fun _ => False := by
  refine G.wp_bind.mpr ?_
  have e : cBegin 1 0 c (List.map Sl.fz [T.scr ns] ++ List.replicate (7 - [T.scr ns].length) Sl.un) = ((c [.fz (.scr ns), .fz .drw, .un, .un, .un, .un, .un]).nox >>= fun k => (match k with | .rt (.bl b) => .ret (.rt (.bl b)) | _ => .stuck)) := rfl
  rw [e]
  refine G.wp_bind.mpr (nox_wp (G.wp_mono h (fun k hk => ?_) fun _ x => x))
  subst hk
  rfl
theorem sem (ns : List Int) : (runB c_law 7 [.scr ns]).wp (fun t => t = .bl true) fun _ => False := by
  obtain ⟨ts, h⟩ := rng_eq ns (r := [.fz (.scr ns), .fz .drw, .un, .un, .un, .un, .un]) rfl
  unfold c_law
  exact begin_eq ns (body_wp ns h)
end LW
end s_M11p
theorem PySem.Challenge.cw_saidagain_k11_windows_by_hand_holds : PySem.Challenge.rw_saidagain_k11_windows_by_hand.Holds := by
  exact LW.holds_of LW.sem
