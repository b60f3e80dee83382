import PyProof.Rows.All
import Wide.All
import OpenK.AllK
import Wide.FinOn
import PySem.Challenge.RW_saidagain_k01_errors_by_hand
import KE.KDictKeyed
import HandS.ForMost
import HandS.ForExc
import HandS.Lambda
import HandS.NoneIn
import HandS.TupAny
import HandS.Deep
import HandS.Style
import HandS.IsInst
import HandS.Star
import HandS.TupLen
import HandS.Property
import KE.GoesZip
import KE.GoesMore
import KE.KDictList
import HandS.Small
import HandS.Ends
import PyProof.ReprRoads
import PyProof.CallFns
import HandS.Conv
import KE.KDictZip
import PyProof.P3Eq
import HandS.Defaults
import HandS.DictComp
import HandS.Text
import HandS.More
import HandS.DeepEq
import HandS.SetFor
import HandS.Strs
import HandS.Sort
import PyProof.ListRange
import KE.KListLetter
import HandS.Set
import PyProof.CollectWalk
import PyProof.ListStr
import PyProof.SeqRoads2
import KE.KIndexOf
import HandS.Finally
import PyProof.Rows.DictMade
import KE.KxIndex
import KE.KDictDisplayH
import HandS.ExcInit
import KE.KExcSuper
import HandS.ExcOwn
import KE.KExcIs
import HandS.EndTab
import HandS.NestedK
import PyProof.TableCode
import PyProof.Rows.IntBool
import HandS.RaiseMore
import HandS.CallLocal
import HandS.Iter
import KE.SortData
import PyProof.NeData
import KE.KTupSum
import HandS.OwnEq
import PyProof.EqKinds
import PyProof.NeKinds
import KE.KIsAll
import KE.KExcStr
import HandS.ExcValue
import KE.RegKIsAll
section s_TL1
set_option Elab.async false
set_option linter.all false
set_option maxRecDepth 100000
set_option maxHeartbeats 4000000
/-! TL1: trees, computations, what a tree is in a heap -/
namespace TL
open PySem PySem.Spec PyProof.Rows L2

/-- data as trees -/
inductive T where
  | non | bl (b : Bool) | int (i : Int) | str (x : Str) | ty (n : String)
  | tup (xs : List T) | lst (xs : List T) | dic (kvs : List (T × T))
  /-- a dict keyed by nested tuples -/
  | dn (kvs : List (T × T))
  /-- a thing that is known by its address alone -/
  | adr (a : Addr)
  | ins (c : Str) (fs : List (Str × T)) | exc (c : Str) (fs : List (Str × T)) | fn (x : Str) | drw | scr (ns : List Int)
  /-- the j-th lambda of a def -/
  | clo (j : Nat)
  deriving Inhabited

/-- computations: draws are left open -/
inductive G (α : Type) where
  | ret (a : α) | exc (e : T) | stuck | pick (n : Nat) (k : Nat → G α) | any (k : List Nat → G α)

namespace G
def bind {α β : Type} : G α → (α → G β) → G β
  | .ret a, f => f a
  | .exc e, _ => .exc e
  | .stuck, _ => .stuck
  | .pick n k, f => .pick n fun i => (k i).bind f
  | .any k, f => .any fun l => (k l).bind f
instance : Monad G where
  pure := .ret
  bind := G.bind
def wp {α : Type} : G α → (α → Prop) → (T → Prop) → Prop
  | .ret a, Q, _ => Q a
  | .exc e, _, E => E e
  | .stuck, _, _ => False
  | .pick n k, Q, E => ∀ i, i < n → (k i).wp Q E
  | .any k, Q, E => ∀ l, (k l).wp Q E
variable {α β : Type}
@[simp] theorem ret_bind (a : α) (f : α → G β) : (G.ret a >>= f) = f a := rfl
@[simp] theorem pure_bind' (a : α) (f : α → G β) : ((pure a : G α) >>= f) = f a := rfl
@[simp] theorem exc_bind (e : T) (f : α → G β) : (G.exc e >>= f) = G.exc e := rfl
@[simp] theorem stuck_bind (f : α → G β) : ((G.stuck : G α) >>= f) = G.stuck := rfl
@[simp] theorem pick_bind (n : Nat) (k : Nat → G α) (f : α → G β) : (G.pick n k >>= f) = G.pick n fun i => k i >>= f := rfl
@[simp] theorem any_bind (k : List Nat → G α) (f : α → G β) : (G.any k >>= f) = G.any fun l => k l >>= f := rfl
@[simp] theorem pure_eq (a : α) : (pure a : G α) = G.ret a := rfl
theorem bind_assoc {γ : Type} (m : G α) (f : α → G β) (g : β → G γ) : ((m >>= f) >>= g) = (m >>= fun a => f a >>= g) := by
  induction m with
  | ret a => rfl
  | exc e => rfl
  | stuck => rfl
  | pick n k ih => show G.pick n _ = G.pick n _; congr 1; funext i; exact ih i
  | any k ih => show G.any _ = G.any _; congr 1; funext i; exact ih i
theorem wp_bind {m : G α} {f : α → G β} {Q : β → Prop} {E : T → Prop} : (m >>= f).wp Q E ↔ m.wp (fun a => (f a).wp Q E) E := by
  induction m with
  | ret a => exact Iff.rfl
  | exc e => exact Iff.rfl
  | stuck => exact Iff.rfl
  | pick n k ih => exact forall_congr' fun i => forall_congr' fun _ => ih i
  | any k ih => exact forall_congr' fun l => ih l
theorem wp_mono {m : G α} {Q Q' : α → Prop} {E E' : T → Prop} (h : m.wp Q E) (hQ : ∀ a, Q a → Q' a) (hE : ∀ e, E e → E' e) : m.wp Q' E' := by
  induction m with
  | ret a => exact hQ a h
  | exc e => exact hE e h
  | stuck => exact h
  | pick n k ih => exact fun i hi => ih i (h i hi)
  | any k ih => exact fun l => ih l (h l)
end G

/-- the draws' dict and its two lists -/
def DrI (d g c : Addr) (cs : List Nat) (H : Hp) : Prop := d ≠ g ∧ d ≠ c ∧ g ≠ c ∧ cs.length ≤ 1000 ∧ ∃ (gs : List Nat) (rest turn : Nat), gs.length ≤ 1000 ∧
  H d = some (.dK [(.inr "great", .ref g), (.inr "rest", .int rest), (.inr "cells", .ref c), (.inr "turn", .int turn)]) ∧ H g = some (.lst (gs.map fun n : Nat => V.int (n : Int))) ∧ H c = some (.lst (cs.map fun n : Nat => V.int (n : Int)))
/-- more is known -/
def Sub (Z Z' : Hp) : Prop := ∀ a o, Z a = some o → Z' a = some o
/-- the tables of code objects; the code objects are known -/
def TabI (tb : List (Addr × Str)) (H Z : Hp) : Prop := ∀ p ∈ tb, ∃ ps : Array Value, H p.1 = some (.tbl ps) ∧ TriplesOk ps.toList ∧ ∀ (pos : Pos) (cv : Value), codeAmong pos ps.toList = some cv → ∃ c, cv = .ref c ∧ Z c = some (LamX.CodeO c p.2)
/-- the draws' objects and what is true of them; tables of code objects -/
structure Wd where
  dr : List Addr
  tb : List (Addr × Str) := []
  WD : Hp → Prop
  ld : ∀ H H', (∀ a ∈ dr, H' a = H a) → WD H → WD H'
  td : ∀ H, WD H → ∀ a ∈ dr, H a ≠ none
  ok : ∀ a r, dr = a :: r → ∃ g c cs, r = [g, c] ∧ ∀ H, WD H ↔ DrI a g c cs H
  /-- self -/
  me : Addr := 0
  /-- the program and its world -/
  wo : Program × World
  /-- the heap at which what is called was handed over -/
  home : Option (Hp × Hp) := none
  /-- a def that answers a new thing may answer None -/
  opt : Bool := false
  /-- the def's lambdas -/
  clo : Nat → Addr → Addr → HO × HO := fun _ _ _ => (.rng 0 0, .rng 0 0)
def Wd.W (w : Wd) : List Addr := w.dr ++ w.tb.map (·.1)
def Wd.WI (w : Wd) (H Z : Hp) : Prop := w.WD H ∧ TabI w.tb H Z
theorem TabI.mono {tb : List (Addr × Str)} {H H' Z Z' : Hp} (h : TabI tb H Z) (s : Sub Z Z') (e : ∀ p ∈ tb, H' p.1 = H p.1) : TabI tb H' Z' := fun p hp => by
  obtain ⟨ps, h1, h2, h3⟩ := h p hp
  refine ⟨ps, by rw [e p hp]; exact h1, h2, fun pos cv hc => ?_⟩
  obtain ⟨c, e1, e2⟩ := h3 pos cv hc
  exact ⟨c, e1, s _ _ e2⟩
theorem Wd.loc (w : Wd) {H H' Z Z' : Hp} (h : ∀ a ∈ w.W, H' a = H a) (s : Sub Z Z') (i : w.WI H Z) : w.WI H' Z' :=
  ⟨w.ld H H' (fun a ha => h a (List.mem_append_left _ ha)) i.1, i.2.mono s fun p hp => h p.1 (List.mem_append_right _ (List.mem_map_of_mem hp))⟩
theorem Wd.tr (w : Wd) {H Z : Hp} (i : w.WI H Z) : ∀ a ∈ w.W, H a ≠ none := fun a ha => by
  rcases List.mem_append.mp ha with h | h
  · exact w.td H i.1 a h
  · obtain ⟨p, hp, rfl⟩ := List.mem_map.mp h
    obtain ⟨ps, e, _⟩ := i.2 p hp
    rw [e]; simp
/-- without tables -/
def Wd.nt (w : Wd) : Wd := { w with tb := [], home := none }
theorem Wd.nt_W (w : Wd) : w.nt.W = w.dr := by
  show w.dr ++ [] = w.dr
  rw [List.append_nil]
/-- a world without draws -/
def Wd.base (pw : Program × World) (tb : List (Addr × Str)) : Wd := { dr := [], tb := tb, WD := fun _ => True, ld := fun _ _ _ h => h, td := fun _ _ a ha => (nomatch ha), ok := fun a r e => (nomatch e), wo := pw }
/-- an exception of the class at C, its dict at d -/
def excV (C : Addr) (d : Option Addr) (a : Addr) : HO := .ext fun h => ∃ (oe : Obj) (vs : Array Value), h.get? a = some oe ∧ Zc (.ref C) d oe ∧ oe.data = .fields vs

/-- an exception of the class at C without a dict, its arguments at t0 -/
def excSV (C t0 : Addr) (a : Addr) : HO := .ext fun h => ∃ (oe : Obj) (vs : Array Value), h.get? a = some oe ∧ Zc (.ref C) none oe ∧ oe.data = .fields vs ∧ vs[0]? = some (.ref t0)

/-- an int or text as a key -/
def keyT : T → Option Key
  | .int i => some (.inl i)
  | .str x => some (.inr x)
  | _ => none

mutual
def nkT : T → Option NestedKey
  | .non => some .none
  | .bl b => some (.num (if b = true then 1 else 0))
  | .int i => some (.num i)
  | .str x => some (.text x)
  | .tup ds => (nkTs ds).map .tup
  | _ => none
def nkTs : List T → Option (List NestedKey)
  | [] => some []
  | d :: ds => (nkT d).bind fun k => (nkTs ds).map fun ks => k :: ks
end
/-- the entries: the key, its tuple's address, the value -/
abbrev NE := NestedKey × Addr × V
def RelN : List NE → List (NestedKey × Addr × Value) → Prop
  | [], [] => True
  | x :: xs, y :: ys => x.1 = y.1 ∧ x.2.1 = y.2.1 ∧ RelV x.2.2 y.2.2 ∧ RelN xs ys
  | _, _ => False
/-- the dict's object at d -/
def dnO (P : Program) (w : World) (d : Addr) (ep : Nat) (xs : List NE) : HO := .ext fun h => (d == sysModules) = false ∧ ∃ o es us, h.get? d = some o ∧ o.ExactDict ∧ o.data = .dict es ep ∧ RelN xs us ∧ es.toList = us.map (entryOfKey (nestedKind P w))
abbrev dnOp (pw : Program × World) (d : Addr) (ep : Nat) (xs : List NE) : HO := dnO pw.1 pw.2 d ep xs
/-- a dict with these entries stands at d -/
def AtN (pw : Program × World) (Z : Hp) (d : Addr) (xs : List NE) : Prop := ∃ ep, Z d = some (dnOp pw d ep xs)
/-- a dict that is frozen stands locked -/
def Lk (Z : Hp) (p : Addr) (kvs : List (Key × V)) : Prop := ∃ o, Z p = some (.frz o (.dK kvs))
theorem Lk.rd {Z : Hp} {p : Addr} {kvs : List (Key × V)} (h : Lk Z p kvs) : Rd Z p (.dK kvs) := .inr h
section
variable (K : PySem.W.Frag) (mg : Str → Option Value) (w : Wd)
mutual
inductive Tr : Hp → T → V → Prop
  | non {Z} : Tr Z .non .non
  | bl {Z} (b : Bool) : Tr Z (.bl b) (.bl b)
  | int {Z} (i : Int) : Tr Z (.int i) (.int i)
  | str {Z} (x : Str) : Tr Z (.str x) (.str x)
  | ty {Z} (n : String) : Tr Z (.ty n) (.ty n)
  | tup {Z : Hp} {ts : List T} {p : Addr} {vs : List V} : SqT K Z p vs → vs.length ≤ sizeLine → Trs Z ts vs → Tr Z (.tup ts) (.ref p)
  | lst {Z : Hp} {ts : List T} {p : Addr} {vs : List V} : Z p = some (.lst vs) → vs.length ≤ sizeLine → Trs Z ts vs → Tr Z (.lst ts) (.ref p)
  | dic {Z : Hp} {kts : List (T × T)} {p : Addr} {kvs : List (Key × V)} : Lk Z p kvs → kvs.length ≤ sizeLine → Trd Z kts kvs → Tr Z (.dic kts) (.ref p)
  | dn {Z : Hp} {kts : List (T × T)} {p : Addr} {xs : List NE} : AtN w.wo Z p xs → xs.length ≤ 16000000 → (xs.map (·.1)).Nodup → Trn Z kts xs → Tr Z (.dn kts) (.ref p)
  | ins {Z : Hp} {c : Str} {fs : List (Str × T)} {C p dx : Addr} {gs : List (Str × V)} : mg c = some (.ref C) → Z p = some (.ins C dx gs) → Z dx = some (.own p) → Trf Z fs gs → Tr Z (.ins c fs) (.ref p)
  | adr {Z} (a : Addr) : Tr Z (.adr a) (.ref a)
  | fn {Z} {x : Str} {a : Addr} : mg x = some (.ref a) → Tr Z (.fn x) (.ref a)
  | drw {Z} {a : Addr} {r : List Addr} : w.dr = a :: r → Tr Z .drw (.ref a)
  | exc0 {Z : Hp} {c : Str} {C a : Addr} : mg c = some (.ref C) → Z a = some (excV C none a) → Tr Z (.exc c []) (.ref a)
  | excD {Z : Hp} {c : Str} {fs : List (Str × T)} {C a d : Addr} {gs : List (Str × V)} : mg c = some (.ref C) → Z a = some (excV C (some d) a) → Z d = some (.xd gs) → Trf Z fs gs → Tr Z (.exc c fs) (.ref a)
  | excS {Z : Hp} {c m : Str} {C a t0 : Addr} : mg c = some (.ref C) → Z a = some (excSV C t0 a) → Z t0 = some (.tup [.str m]) → Tr Z (.exc c [("%", .dic [(.non, .str m)])]) (.ref a)
  | clo {Z : Hp} {j : Nat} {f c' : Addr} : Z f = some (w.clo j f c').1 → Z c' = some (w.clo j f c').2 → Tr Z (.clo j) (.ref f)
  | scr {Z : Hp} {ns : List Int} {p : Addr} : SqL K Z p (ns.map V.int) → ns.length ≤ 1000 → Tr Z (.scr ns) (.ref p)
inductive Trs : Hp → List T → List V → Prop
  | nil {Z} : Trs Z [] []
  | cons {Z t v ts vs} : Tr Z t v → Trs Z ts vs → Trs Z (t :: ts) (v :: vs)
inductive Trd : Hp → List (T × T) → List (Key × V) → Prop
  | nil {Z} : Trd Z [] []
  | cons {Z} {k : T} {key : Key} {t : T} {v : V} {kts kvs} : keyT k = some key → Tr Z t v → Trd Z kts kvs → Trd Z ((k, t) :: kts) ((key, v) :: kvs)
inductive Trn : Hp → List (T × T) → List NE → Prop
  | nil {Z} : Trn Z [] []
  | cons {Z} {k : T} {key : NestedKey} {a : Addr} {t : T} {v : V} {kts xs} : nkT k = some key → key.depth ≤ 8 → Tr Z k (.ref a) → Tr Z t v → Trn Z kts xs → Trn Z ((k, t) :: kts) ((key, a, v) :: xs)
inductive Trf : Hp → List (Str × T) → List (Str × V) → Prop
  | nil {Z} : Trf Z [] []
  | cons {Z} {f : Str} {t : T} {v : V} {fs gs} : Tr Z t v → Trf Z fs gs → Trf Z ((f, t) :: fs) ((f, v) :: gs)
end
end

section
variable {K : PySem.W.Frag} {mg : Str → Option Value} {w : Wd}
theorem Sub.refl (Z : Hp) : Sub Z Z := fun _ _ h => h
theorem AtN.mono {Z Z' : Hp} (s : Sub Z Z') {pw : Program × World} {d : Addr} {xs : List NE} (h : AtN pw Z d xs) : AtN pw Z' d xs := let ⟨ep, e⟩ := h; ⟨ep, s _ _ e⟩
theorem Sub.trans {Z Z1 Z2 : Hp} (a : Sub Z Z1) (b : Sub Z1 Z2) : Sub Z Z2 := fun p o h => b p o (a p o h)
theorem Sub.rd {Z Z' : Hp} (s : Sub Z Z') {a : Addr} {u : HO} (r : Rd Z a u) : Rd Z' a u := r.elim (fun h => .inl (s _ _ h)) fun ⟨o, h⟩ => .inr ⟨o, s _ _ h⟩
theorem Lk.mono {Z Z' : Hp} (s : Sub Z Z') {p : Addr} {kvs : List (Key × V)} (h : Lk Z p kvs) : Lk Z' p kvs := let ⟨o, e⟩ := h; ⟨o, s _ _ e⟩
theorem Sub.sqL {Z Z' : Hp} (s : Sub Z Z') {a : Addr} {xs : List V} (h : SqL K Z a xs) : SqL K Z' a xs := h.elim (fun h => .inl (s.rd h)) .inr
theorem Sub.sqT {Z Z' : Hp} (s : Sub Z Z') {a : Addr} {xs : List V} (h : SqT K Z a xs) : SqT K Z' a xs := h.elim (fun h => .inl (s.rd h)) .inr
theorem Sub.upd {Z : Hp} {p : Addr} {o : HO} (h : Z p = none) : Sub Z (upd Z p o) := fun a u e => by rw [upd_ne (ne_of_none e h)]; exact e
mutual
theorem Tr.mono {Z Z' : Hp} (s : Sub Z Z') : ∀ {t : T} {v : V}, Tr K mg w Z t v → Tr K mg w Z' t v
  | _, _, .non => .non
  | _, _, .bl b => .bl b
  | _, _, .int i => .int i
  | _, _, .str x => .str x
  | _, _, .ty n => .ty n
  | _, _, .tup h l r => .tup (s.sqT h) l (Trs.mono s r)
  | _, _, .lst h l r => .lst (s _ _ h) l (Trs.mono s r)
  | _, _, .dic h l r => .dic (h.mono s) l (Trd.mono s r)
  | _, _, .dn h l n r => .dn (h.mono s) l n (Trn.mono s r)
  | _, _, .ins a h d r => .ins a (s _ _ h) (s _ _ d) (Trf.mono s r)
  | _, _, .adr a => .adr a
  | _, _, .fn h => .fn h
  | _, _, .drw h => .drw h
  | _, _, .exc0 h e => .exc0 h (s _ _ e)
  | _, _, .excD h e d r => .excD h (s _ _ e) (s _ _ d) (Trf.mono s r)
  | _, _, .excS h e d => .excS h (s _ _ e) (s _ _ d)
  | _, _, .clo e e' => .clo (s _ _ e) (s _ _ e')
  | _, _, .scr h l => .scr (s.sqL h) l
theorem Trs.mono {Z Z' : Hp} (s : Sub Z Z') : ∀ {ts : List T} {vs : List V}, Trs K mg w Z ts vs → Trs K mg w Z' ts vs
  | _, _, .nil => .nil
  | _, _, .cons a b => .cons (Tr.mono s a) (Trs.mono s b)
theorem Trd.mono {Z Z' : Hp} (s : Sub Z Z') : ∀ {ts : List (T × T)} {vs : List (Key × V)}, Trd K mg w Z ts vs → Trd K mg w Z' ts vs
  | _, _, .nil => .nil
  | _, _, .cons k a b => .cons k (Tr.mono s a) (Trd.mono s b)
theorem Trn.mono {Z Z' : Hp} (s : Sub Z Z') : ∀ {ts : List (T × T)} {vs : List NE}, Trn K mg w Z ts vs → Trn K mg w Z' ts vs
  | _, _, .nil => .nil
  | _, _, .cons k d q a b => .cons k d (Tr.mono s q) (Tr.mono s a) (Trn.mono s b)
theorem Trf.mono {Z Z' : Hp} (s : Sub Z Z') : ∀ {ts : List (Str × T)} {vs : List (Str × V)}, Trf K mg w Z ts vs → Trf K mg w Z' ts vs
  | _, _, .nil => .nil
  | _, _, .cons a b => .cons (Tr.mono s a) (Trf.mono s b)
end
theorem Trs.length {Z : Hp} : ∀ {ts : List T} {vs : List V}, Trs K mg w Z ts vs → ts.length = vs.length
  | _, _, .nil => rfl
  | _, _, .cons _ b => by rw [List.length_cons, List.length_cons, Trs.length b]
theorem Trs.get {Z : Hp} : ∀ {ts : List T} {vs : List V} {i : Nat} {t : T}, Trs K mg w Z ts vs → ts[i]? = some t → ∃ v, vs[i]? = some v ∧ Tr K mg w Z t v
  | _, _, _, _, .nil, e => by simp at e
  | _, _, 0, _, .cons a _, e => by simp at e; subst e; exact ⟨_, rfl, a⟩
  | _, _, i + 1, t, .cons _ b, e => by
    obtain ⟨v, h1, h2⟩ := Trs.get (i := i) (t := t) b (by simpa using e)
    exact ⟨v, by simpa using h1, h2⟩
theorem Trs.append {Z : Hp} : ∀ {ts us : List T} {vs ws : List V}, Trs K mg w Z ts vs → Trs K mg w Z us ws → Trs K mg w Z (ts ++ us) (vs ++ ws)
  | _, _, _, _, .nil, s => s
  | _, _, _, _, .cons a b, s => .cons a (Trs.append b s)
theorem Trs.take {Z : Hp} : ∀ {ts : List T} {vs : List V} (n : Nat), Trs K mg w Z ts vs → Trs K mg w Z (ts.take n) (vs.take n)
  | _, _, 0, _ => .nil
  | _, _, _ + 1, .nil => .nil
  | _, _, n + 1, .cons a b => .cons a (Trs.take n b)
theorem Trs.drop {Z : Hp} : ∀ {ts : List T} {vs : List V} (n : Nat), Trs K mg w Z ts vs → Trs K mg w Z (ts.drop n) (vs.drop n)
  | _, _, 0, r => r
  | _, _, _ + 1, .nil => .nil
  | _, _, n + 1, .cons _ b => Trs.drop n b
theorem Trs.set {Z : Hp} {t : T} {v : V} (h : Tr K mg w Z t v) : ∀ {ts : List T} {vs : List V} (n : Nat), Trs K mg w Z ts vs → Trs K mg w Z (ts.set n t) (vs.set n v)
  | _, _, _, .nil => .nil
  | _, _, 0, .cons _ b => .cons h b
  | _, _, n + 1, .cons a b => .cons a (Trs.set h n b)
theorem Trs.reverse {Z : Hp} : ∀ {ts : List T} {vs : List V}, Trs K mg w Z ts vs → Trs K mg w Z ts.reverse vs.reverse
  | _, _, .nil => .nil
  | _, _, .cons a b => by rw [List.reverse_cons, List.reverse_cons]; exact (Trs.reverse b).append (.cons a .nil)
theorem Trs.dropLast {Z : Hp} : ∀ {ts : List T} {vs : List V}, Trs K mg w Z ts vs → Trs K mg w Z ts.dropLast vs.dropLast
  | _, _, .nil => .nil
  | _, _, .cons _ .nil => .nil
  | _, _, .cons a (.cons b r) => .cons a (Trs.dropLast (.cons b r))
theorem Trs.eraseIdx {Z : Hp} : ∀ {ts : List T} {vs : List V} (i : Nat), Trs K mg w Z ts vs → Trs K mg w Z (ts.eraseIdx i) (vs.eraseIdx i)
  | _, _, _, .nil => .nil
  | _, _, 0, .cons _ b => b
  | _, _, i + 1, .cons a b => .cons a (Trs.eraseIdx i b)

/-! ### how the heap grows -/
structure Good (w : Wd) (H Z : Hp) : Prop where
  zh : Sub Z H
  zw : ∀ a ∈ w.W, Z a = none
  wi : w.WI H Z
structure Grow (w : Wd) (H Z H' Z' : Hp) : Prop where
  good : Good w H' Z'
  zz : Sub Z Z'
  new : ∀ a o, Z' a = some o → Z a = some o ∨ H a = none
  hh : ∀ a o, H a = some o → a ∉ w.W → H' a = some o
theorem Grow.refl {H Z : Hp} (g : Good w H Z) : Grow w H Z H Z := ⟨g, Sub.refl _, fun _ _ h => .inl h, fun _ _ h _ => h⟩
theorem Grow.trans {H Z H1 Z1 H2 Z2 : Hp} (a : Grow w H Z H1 Z1) (b : Grow w H1 Z1 H2 Z2) : Grow w H Z H2 Z2 := by
  refine ⟨b.good, a.zz.trans b.zz, fun p o h => ?_, fun p o h hw => b.hh p o (a.hh p o h hw) hw⟩
  by_cases hw : p ∈ w.W
  · rw [b.good.zw p hw] at h; cases h
  · rcases b.new p o h with q | q
    · exact a.new p o q
    · cases e : H p with
      | none => exact .inr rfl
      | some u => rw [a.hh p u e hw] at q; cases q
/-- a frozen thing's address is tracked -/
theorem Good.tracked {H Z : Hp} (g : Good w H Z) {a : Addr} (h : H a = none) : Z a = none := by
  cases e : Z a with
  | none => rfl
  | some o =>
    have r := g.zh a o e
    rw [h] at r; cases r
theorem Good.nw {H Z : Hp} (g : Good w H Z) {p : Addr} (h : H p = none) : ∀ a ∈ w.W, a ≠ p := fun a ha e => by
  subst e; exact w.tr g.wi a ha h
/-- a new object, not frozen -/
theorem Good.laid {H Z : Hp} (g : Good w H Z) {p : Addr} {o : HO} (hp : H p = none) : Good w (upd H p o) Z :=
  ⟨fun a u e => by
    have ne : a ≠ p := fun z => by rw [z, g.tracked hp] at e; cases e
    rw [upd_ne ne]; exact g.zh a u e, g.zw, w.loc (fun a ha => upd_ne (g.nw hp a ha)) (Sub.refl _) g.wi⟩
theorem Grow.laid {H Z : Hp} (g : Good w H Z) {p : Addr} {o : HO} (hp : H p = none) : Grow w H Z (upd H p o) Z :=
  ⟨g.laid hp, Sub.refl _, fun _ _ h => .inl h, fun a u e _ => by rw [upd_ne (ne_of_none e hp)]; exact e⟩
/-- a new object, frozen at once -/
theorem Grow.laidF {H Z : Hp} (g : Good w H Z) {p : Addr} {o : HO} (hp : H p = none) : Grow w H Z (upd H p o) (upd Z p o) :=
  ⟨⟨fun a u e => by
      by_cases ne : a = p
      · subst ne; rw [upd_same] at e; cases e; exact upd_same
      · rw [upd_ne ne] at e
        exact (g.laid hp).zh a u e, fun a ha => by rw [upd_ne (g.nw hp a ha)]; exact g.zw a ha, w.loc (fun _ _ => rfl) (Sub.upd (g.tracked hp)) (g.laid hp).wi⟩,
    Sub.upd (g.tracked hp), fun a u e => by
      by_cases ne : a = p
      · subst ne; exact .inr hp
      · rw [upd_ne ne] at e; exact .inl e, fun a u e _ => by rw [upd_ne (ne_of_none e hp)]; exact e⟩
end
end TL
end s_TL1
section s_TL2
set_option Elab.async false
set_option linter.all false
set_option maxRecDepth 100000
set_option maxHeartbeats 4000000
/-! TL2: slots, readings, the judgements, expressions -/
namespace TL
open PySem PySem.Spec PyProof.Rows L2

/-- a slot: nothing known, a frozen tree, a tree whose root is this slot's own -/
structure QE where
  k : T
  a : Addr
  t : List (T × T)
  z : Bool
/-- kinds of things of a slot's own -/
inductive DKd where
  | lst | dic (ks : List T) | dn (ks : List T) | ins (c : Str) (fs : List Str)
  /-- a list at an address that is told; self -/
  | lstA (a : Addr) | me (c : Str) (fs : List Str)
/-- a thing of a slot's own, and what in it is its own in turn -/
inductive DT where
  | fz (t : T) | nd (k : DKd) (ds : List DT)
inductive Sl where
  | un | fz (t : T) | ow (t : T) | me (t : T)
  /-- a dict of the slot's own whose values are lists of its own -/
  | dp (kts : List (T × T))
  /-- a dict of the slot's own whose values are dicts at addresses that are told: of its own, or frozen -/
  | dq (l : List QE)
  /-- a thing of the slot's own, with things of its own in it -/
  | dd (d : DT)
abbrev EC := List Sl → G T

section
variable (K : PySem.W.Frag) (mg : Str → Option Value) (w : Wd)
def RootP (Z H : Hp) (a : T) (bs : List T) (p : Addr) (o : List Addr) : Prop := ∃ q va vs, o = [q] ∧ SqT K Z p [va, .ref q] ∧ Tr K mg w Z a va ∧ H q = some (.lst vs) ∧ vs.length ≤ sizeLine ∧ Trs K mg w Z bs vs
/-- a pair whose second item is a list of its own: the pair itself is frozen -/
def RootT (Z H : Hp) (p : Addr) (o : List Addr) : List T → Prop
  | [a, .lst bs] => RootP K mg w Z H a bs p o
  | _ => False
def Root (Z H : Hp) (t : T) (p : Addr) (o : List Addr) : Prop := match t with
  | .tup ts => RootT K mg w Z H p o ts
  | .lst ts => o = [p] ∧ ∃ vs, H p = some (.lst vs) ∧ vs.length ≤ sizeLine ∧ Trs K mg w Z ts vs
  | .dic kts => o = [p] ∧ ∃ kvs, H p = some (.dK kvs) ∧ kvs.length ≤ sizeLine ∧ Trd K mg w Z kts kvs
  | .dn kts => o = [p] ∧ ∃ xs, AtN w.wo H p xs ∧ xs.length ≤ 16000000 ∧ (xs.map (·.1)).Nodup ∧ Trn K mg w Z kts xs
  | .ins c fs => ∃ C dx gs, o = [p, dx] ∧ dx ≠ p ∧ mg c = some (.ref C) ∧ H p = some (.ins C dx gs) ∧ H dx = some (.own p) ∧ Trf K mg w Z fs gs
  | _ => False
inductive TrD : Hp → Hp → List (T × T) → List (Key × V) → List Addr → Prop
  | nil {Z H} : TrD Z H [] [] []
  | cons {Z H : Hp} {k : T} {key : Key} {q : Addr} {ts : List T} {vs : List V} {kts kvs qs} : keyT k = some key → H q = some (.lst vs) → vs.length ≤ sizeLine → Trs K mg w Z ts vs → TrD Z H kts kvs qs → TrD Z H ((k, .lst ts) :: kts) ((key, .ref q) :: kvs) (q :: qs)
def RootD (Z H : Hp) (kts : List (T × T)) (p : Addr) (o : List Addr) : Prop := ∃ qs kvs, o = p :: qs ∧ (p :: qs).Nodup ∧ H p = some (.dK kvs) ∧ kvs.length ≤ sizeLine ∧ TrD K mg w Z H kts kvs qs
inductive TrQ : Hp → Hp → List QE → List (Key × V) → List Addr → Prop
  | nil {Z H} : TrQ Z H [] [] []
  | own {Z H : Hp} {k : T} {key : Key} {a : Addr} {t : List (T × T)} {vs : List (Key × V)} {l kvs qs} : keyT k = some key → H a = some (.dK vs) → vs.length ≤ sizeLine → Trd K mg w Z t vs → TrQ Z H l kvs qs → TrQ Z H (⟨k, a, t, false⟩ :: l) ((key, .ref a) :: kvs) (a :: qs)
  | frz {Z H : Hp} {k : T} {key : Key} {a : Addr} {t : List (T × T)} {l kvs qs} : keyT k = some key → Tr K mg w Z (.dic t) (.ref a) → TrQ Z H l kvs qs → TrQ Z H (⟨k, a, t, true⟩ :: l) ((key, .ref a) :: kvs) qs
def RootQ (Z H : Hp) (l : List QE) (p : Addr) (o : List Addr) : Prop := ∃ qs kvs, o = p :: qs ∧ (p :: qs).Nodup ∧ H p = some (.dK kvs) ∧ kvs.length ≤ sizeLine ∧ (kvs.map (·.1)).Nodup ∧ TrQ K mg w Z H l kvs qs
inductive KysN : Hp → List T → List NE → Prop
  | nil {Z} : KysN Z [] []
  | cons {Z : Hp} {k : T} {key : NestedKey} {a : Addr} {v : V} {ks xs} : nkT k = some key → key.depth ≤ 8 → Tr K mg w Z k (.ref a) → KysN Z ks xs → KysN Z (k :: ks) ((key, a, v) :: xs)
def NodeR (Z H : Hp) (k : DKd) (p : Addr) (vs : List V) (own : List Addr) : Prop := match k with
  | .lst => own = [p] ∧ H p = some (.lst vs) ∧ vs.length ≤ sizeLine
  | .dic ks => own = [p] ∧ ∃ kvs : List (Key × V), H p = some (.dK kvs) ∧ kvs.length ≤ sizeLine ∧ kvs.map (·.2) = vs ∧ ks.map keyT = kvs.map (fun q => some q.1) ∧ (kvs.map (·.1)).Nodup
  | .dn ks => own = [p] ∧ ∃ xs, AtN w.wo H p xs ∧ xs.length ≤ 16000000 ∧ (xs.map (·.1)).Nodup ∧ xs.map (·.2.2) = vs ∧ KysN K mg w Z ks xs
  | .ins c fs => ∃ (C dx : Addr) (gs : List (Str × V)), own = [p, dx] ∧ dx ≠ p ∧ mg c = some (.ref C) ∧ H p = some (.ins C dx gs) ∧ H dx = some (.own p) ∧ gs.map (·.1) = fs ∧ gs.map (·.2) = vs
  | .lstA a => p = a ∧ own = [p] ∧ H p = some (.lst vs) ∧ vs.length ≤ sizeLine
  | .me c fs => p = w.me ∧ ∃ (C dx : Addr) (gs : List (Str × V)), own = [p, dx] ∧ dx ≠ p ∧ mg c = some (.ref C) ∧ H p = some (.ins C dx gs) ∧ H dx = some (.own p) ∧ gs.map (·.1) = fs ∧ gs.map (·.2) = vs
mutual
inductive DR : Hp → Hp → DT → V → List Addr → Prop
  | fz {Z H t v} : Tr K mg w Z t v → DR Z H (.fz t) v []
  | nd {Z H k ds p vs own os} : NodeR K mg w Z H k p vs own → DRs Z H ds vs os → (∀ a ∈ own, a ∉ os) → DR Z H (.nd k ds) (.ref p) (own ++ os)
inductive DRs : Hp → Hp → List DT → List V → List Addr → Prop
  | nil {Z H} : DRs Z H [] [] []
  | cons {Z H d v o1 ds vs os} : DR Z H d v o1 → DRs Z H ds vs os → (∀ a ∈ o1, a ∉ os) → DRs Z H (d :: ds) (v :: vs) (o1 ++ os)
end
def SlR (Z H : Hp) (s : Sl) (x : Option V) (o : List Addr) : Prop := match s with
  | .un => o = []
  | .fz t => o = [] ∧ ∃ v, x = some v ∧ Tr K mg w Z t v
  | .ow t => ∃ p, x = some (.ref p) ∧ Root K mg w Z H t p o
  | .me t => x = some (.ref w.me) ∧ Root K mg w Z H t w.me o
  | .dp kts => ∃ p, x = some (.ref p) ∧ RootD K mg w Z H kts p o
  | .dq l => ∃ p, x = some (.ref p) ∧ RootQ K mg w Z H l p o
  | .dd d => ∃ v, x = some v ∧ DR K mg w Z H d v o
end

section
variable {K : PySem.W.Frag} {mg : Str → Option Value} {w : Wd} {Z Z' H H' : Hp} {t : T} {p : Addr} {o : List Addr}
theorem RootT.ex {ts : List T} (r : RootT K mg w Z H p o ts) : ∃ a bs, ts = [a, .lst bs] ∧ RootP K mg w Z H a bs p o := by
  unfold RootT at r
  split at r
  · exact ⟨_, _, rfl, r⟩
  · exact r.elim
theorem Root.tracked (r : Root K mg w Z H t p o) : ∀ a ∈ o, H a ≠ none := fun a ha => by
  cases t <;> try exact r.elim
  case tup ts => obtain ⟨a, bs, rfl, q, va, vs, rfl, _, _, h, _⟩ := r.ex; simp at ha; subst ha; rw [h]; simp
  case lst ts => obtain ⟨rfl, vs, h, _⟩ := r; simp at ha; subst ha; rw [h]; simp
  case dic ts => obtain ⟨rfl, vs, h, _⟩ := r; simp at ha; subst ha; rw [h]; simp
  case dn ts => obtain ⟨rfl, vs, ⟨ep, h⟩, _⟩ := r; simp at ha; subst ha; rw [h]; simp
  case ins c fs =>
    obtain ⟨C, dx, gs, rfl, _, _, h, h2, _⟩ := r
    simp at ha
    rcases ha with rfl | rfl
    · rw [h]; simp
    · rw [h2]; simp
theorem Root.move (r : Root K mg w Z H t p o) (s : Sub Z Z') (h : ∀ a ∈ o, ∀ u, H a = some u → H' a = some u) : Root K mg w Z' H' t p o := by
  cases t <;> try exact r.elim
  case tup ts => obtain ⟨a, bs, rfl, q, va, vs, rfl, h1, h2, h3, h4, h5⟩ := r.ex; exact ⟨q, va, vs, rfl, s.sqT h1, h2.mono s, h _ (by simp) _ h3, h4, h5.mono s⟩
  case lst ts => obtain ⟨rfl, vs, e, l, q⟩ := r; exact ⟨rfl, vs, h _ (by simp) _ e, l, q.mono s⟩
  case dic ts => obtain ⟨rfl, vs, e, l, q⟩ := r; exact ⟨rfl, vs, h _ (by simp) _ e, l, q.mono s⟩
  case dn ts => obtain ⟨rfl, vs, ⟨ep, e⟩, l, n, q⟩ := r; exact ⟨rfl, vs, ⟨ep, h _ (by simp) _ e⟩, l, n, q.mono s⟩
  case ins c fs =>
    obtain ⟨C, dx, gs, rfl, ne, m, e, e2, q⟩ := r
    exact ⟨C, dx, gs, rfl, ne, m, h _ (by simp) _ e, h _ (by simp) _ e2, q.mono s⟩
theorem TrD.move (s : Sub Z Z') : ∀ {kts : List (T × T)} {kvs : List (Key × V)} {qs : List Addr}, TrD K mg w Z H kts kvs qs → (∀ a ∈ qs, ∀ u, H a = some u → H' a = some u) → TrD K mg w Z' H' kts kvs qs
  | _, _, _, .nil, _ => .nil
  | _, _, _, .cons k h l t r, f => .cons k (f _ (by simp) _ h) l (t.mono s) (TrD.move s r fun a ha => f a (by simp [ha]))
theorem TrD.tracked : ∀ {kts : List (T × T)} {kvs : List (Key × V)} {qs : List Addr}, TrD K mg w Z H kts kvs qs → ∀ a ∈ qs, H a ≠ none
  | _, _, _, .nil, a, ha => (nomatch ha)
  | _, _, _, .cons k h l t r, a, ha => by
    rcases List.mem_cons.mp ha with e | e
    · subst e; rw [h]; simp
    · exact TrD.tracked r a e
theorem TrD.length : ∀ {kts : List (T × T)} {kvs : List (Key × V)} {qs : List Addr}, TrD K mg w Z H kts kvs qs → kts.length = kvs.length ∧ kts.length = qs.length
  | _, _, _, .nil => ⟨rfl, rfl⟩
  | _, _, _, .cons _ _ _ _ r => by have := TrD.length r; simp only [List.length_cons]; omega
theorem RootD.move {kts : List (T × T)} (r : RootD K mg w Z H kts p o) (s : Sub Z Z') (h : ∀ a ∈ o, ∀ u, H a = some u → H' a = some u) : RootD K mg w Z' H' kts p o := by
  obtain ⟨qs, kvs, rfl, nd, hp, hl, tr⟩ := r
  exact ⟨qs, kvs, rfl, nd, h _ (by simp) _ hp, hl, tr.move s fun a ha => h a (by simp [ha])⟩
theorem RootD.tracked {kts : List (T × T)} (r : RootD K mg w Z H kts p o) : ∀ a ∈ o, H a ≠ none := fun a ha => by
  obtain ⟨qs, kvs, rfl, nd, hp, hl, tr⟩ := r
  rcases List.mem_cons.mp ha with e | e
  · subst e; rw [hp]; simp
  · exact tr.tracked a e
theorem TrQ.move (s : Sub Z Z') : ∀ {l : List QE} {kvs : List (Key × V)} {qs : List Addr}, TrQ K mg w Z H l kvs qs → (∀ a ∈ qs, ∀ u, H a = some u → H' a = some u) → TrQ K mg w Z' H' l kvs qs
  | _, _, _, .nil, _ => .nil
  | _, _, _, .own k h l t r, f => .own k (f _ (by simp) _ h) l (t.mono s) (TrQ.move s r fun a ha => f a (by simp [ha]))
  | _, _, _, .frz k t r, f => .frz k (t.mono s) (TrQ.move s r f)
theorem TrQ.tracked : ∀ {l : List QE} {kvs : List (Key × V)} {qs : List Addr}, TrQ K mg w Z H l kvs qs → ∀ a ∈ qs, H a ≠ none
  | _, _, _, .nil, a, ha => (nomatch ha)
  | _, _, _, .own k h l t r, a, ha => by
    rcases List.mem_cons.mp ha with e | e
    · subst e; rw [h]; simp
    · exact TrQ.tracked r a e
  | _, _, _, .frz k t r, a, ha => TrQ.tracked r a ha
theorem RootQ.move {l : List QE} (r : RootQ K mg w Z H l p o) (s : Sub Z Z') (h : ∀ a ∈ o, ∀ u, H a = some u → H' a = some u) : RootQ K mg w Z' H' l p o := by
  obtain ⟨qs, kvs, rfl, nd, hp, hl, kn, tr⟩ := r
  exact ⟨qs, kvs, rfl, nd, h _ (by simp) _ hp, hl, kn, tr.move s fun a ha => h a (by simp [ha])⟩
theorem RootQ.tracked {l : List QE} (r : RootQ K mg w Z H l p o) : ∀ a ∈ o, H a ≠ none := fun a ha => by
  obtain ⟨qs, kvs, rfl, nd, hp, hl, kn, tr⟩ := r
  rcases List.mem_cons.mp ha with e | e
  · subst e; rw [hp]; simp
  · exact tr.tracked a e
theorem KysN.mono (s : Sub Z Z') : ∀ {ks : List T} {xs : List NE}, KysN K mg w Z ks xs → KysN K mg w Z' ks xs
  | _, _, .nil => .nil
  | _, _, .cons h d t r => .cons h d (t.mono s) (r.mono s)
theorem NodeR.move {k : DKd} {vs : List V} {own : List Addr} (r : NodeR K mg w Z H k p vs own) (s : Sub Z Z') (h : ∀ a ∈ own, ∀ u, H a = some u → H' a = some u) : NodeR K mg w Z' H' k p vs own := by
  cases k with
  | lst => obtain ⟨rfl, e, l⟩ := r; exact ⟨rfl, h _ (by simp) _ e, l⟩
  | dic ks => obtain ⟨rfl, kvs, e, l, q⟩ := r; exact ⟨rfl, kvs, h _ (by simp) _ e, l, q⟩
  | dn ks => obtain ⟨rfl, xs, ⟨ep, e⟩, l, n, q, kn⟩ := r; exact ⟨rfl, xs, ⟨ep, h _ (by simp) _ e⟩, l, n, q, kn.mono s⟩
  | ins c fs => obtain ⟨C, dx, gs, rfl, ne, m, e, e2, q⟩ := r; exact ⟨C, dx, gs, rfl, ne, m, h _ (by simp) _ e, h _ (by simp) _ e2, q⟩
  | lstA a => obtain ⟨e0, rfl, e, l⟩ := r; exact ⟨e0, rfl, h _ (by simp) _ e, l⟩
  | me c fs => obtain ⟨e0, C, dx, gs, rfl, ne, m, e, e2, q⟩ := r; exact ⟨e0, C, dx, gs, rfl, ne, m, h _ (by simp) _ e, h _ (by simp) _ e2, q⟩
theorem NodeR.tracked {k : DKd} {vs : List V} {own : List Addr} (r : NodeR K mg w Z H k p vs own) : ∀ a ∈ own, H a ≠ none := fun a ha => by
  cases k with
  | lst => obtain ⟨rfl, e, l⟩ := r; simp at ha; subst ha; rw [e]; simp
  | dic ks => obtain ⟨rfl, kvs, e, l, q⟩ := r; simp at ha; subst ha; rw [e]; simp
  | dn ks => obtain ⟨rfl, xs, ⟨ep, e⟩, l⟩ := r; simp at ha; subst ha; rw [e]; simp
  | ins c fs =>
    obtain ⟨C, dx, gs, rfl, ne, m, e, e2, q⟩ := r
    simp at ha
    rcases ha with rfl | rfl
    · rw [e]; simp
    · rw [e2]; simp
  | lstA a => obtain ⟨_, rfl, e, l⟩ := r; simp at ha; subst ha; rw [e]; simp
  | me c fs =>
    obtain ⟨_, C, dx, gs, rfl, ne, m, e, e2, q⟩ := r
    simp at ha
    rcases ha with rfl | rfl
    · rw [e]; simp
    · rw [e2]; simp
mutual
theorem DR.move (s : Sub Z Z') : ∀ {d : DT} {v : V} {o : List Addr}, DR K mg w Z H d v o → (∀ a ∈ o, ∀ u, H a = some u → H' a = some u) → DR K mg w Z' H' d v o
  | _, _, _, .fz t, _ => .fz (t.mono s)
  | _, _, _, .nd n r dj, h => .nd (n.move s fun a ha => h a (List.mem_append_left _ ha)) (DRs.move s r fun a ha => h a (List.mem_append_right _ ha)) dj
theorem DRs.move (s : Sub Z Z') : ∀ {ds : List DT} {vs : List V} {o : List Addr}, DRs K mg w Z H ds vs o → (∀ a ∈ o, ∀ u, H a = some u → H' a = some u) → DRs K mg w Z' H' ds vs o
  | _, _, _, .nil, _ => .nil
  | _, _, _, .cons d r dj, h => .cons (DR.move s d fun a ha => h a (List.mem_append_left _ ha)) (DRs.move s r fun a ha => h a (List.mem_append_right _ ha)) dj
end
mutual
theorem DR.tracked : ∀ {d : DT} {v : V} {o : List Addr}, DR K mg w Z H d v o → ∀ a ∈ o, H a ≠ none
  | _, _, _, .fz _, a, ha => (nomatch ha)
  | _, _, _, .nd n r _, a, ha => (List.mem_append.mp ha).elim (fun h => n.tracked a h) fun h => DRs.tracked r a h
theorem DRs.tracked : ∀ {ds : List DT} {vs : List V} {o : List Addr}, DRs K mg w Z H ds vs o → ∀ a ∈ o, H a ≠ none
  | _, _, _, .nil, a, ha => (nomatch ha)
  | _, _, _, .cons d r _, a, ha => (List.mem_append.mp ha).elim (fun h => DR.tracked d a h) fun h => DRs.tracked r a h
end
theorem SlR.move {s : Sl} {x : Option V} (r : SlR K mg w Z H s x o) (sb : Sub Z Z') (h : ∀ a ∈ o, ∀ u, H a = some u → H' a = some u) : SlR K mg w Z' H' s x o := by
  cases s with
  | un => exact r
  | fz t => obtain ⟨a, v, e, q⟩ := r; exact ⟨a, v, e, q.mono sb⟩
  | ow t => obtain ⟨p, e, q⟩ := r; exact ⟨p, e, q.move sb h⟩
  | me t => obtain ⟨e, q⟩ := r; exact ⟨e, q.move sb h⟩
  | dp kts => obtain ⟨p, e, q⟩ := r; exact ⟨p, e, q.move sb h⟩
  | dq l => obtain ⟨p, e, q⟩ := r; exact ⟨p, e, q.move sb h⟩
  | dd d => obtain ⟨p, e, q⟩ := r; exact ⟨p, e, q.move sb h⟩
theorem SlR.tracked {s : Sl} {x : Option V} (r : SlR K mg w Z H s x o) : ∀ a ∈ o, H a ≠ none := fun a ha => by
  cases s with
  | un => rw [show o = [] from r] at ha; cases ha
  | fz t => obtain ⟨e, _⟩ := r; rw [e] at ha; cases ha
  | ow t => obtain ⟨p, e, q⟩ := r; exact q.tracked a ha
  | me t => obtain ⟨e, q⟩ := r; exact q.tracked a ha
  | dp kts => obtain ⟨p, e, q⟩ := r; exact q.tracked a ha
  | dq l => obtain ⟨p, e, q⟩ := r; exact q.tracked a ha
  | dd d => obtain ⟨p, e, q⟩ := r; exact q.tracked a ha
end

/-- what of a context the trees lean on -/
structure Km where
  K : PySem.W.Frag
  mg : Str → Option Value
  pw : Program × World
abbrev Km.km (X : Km) : Km := X
end TL
abbrev L2.Cx.km (X : L2.Cx) : TL.Km := ⟨X.K, X.mg, (X.prog, X.w)⟩
namespace TL
open PySem PySem.Spec PyProof.Rows L2

/-- the state of a body: entry heap and frozen part, slots, heap and frozen part now, the slots' own addresses -/
structure EnvR (X : Km) (w : Wd) (H0 Z0 : Hp) (r : List Sl) (σ : L2.St) (H Z : Hp) (o : Nat → List Addr) : Prop where
  gr : Grow w H0 Z0 H Z
  len : r.length = σ.length
  sl : ∀ (i : Nat) s x, r[i]? = some s → σ[i]? = some x → SlR X.K X.mg w Z H s x (o i)
  out : ∀ i, r.length ≤ i → o i = []
  dis : ∀ i j a, a ∈ o i → a ∈ o j → i = j
  fr : ∀ i a, a ∈ o i → H0 a = none ∧ Z a = none ∧ a ∉ w.W
  wo : w.wo = X.pw ∧ ∀ p, w.home = some p → Grow w p.1 p.2 H0 Z0
section
variable {X : Km} {w : Wd} {H0 Z0 H Z H' Z' : Hp} {r : List Sl} {σ : L2.St} {o : Nat → List Addr}
theorem EnvR.tr (R : EnvR X.km w H0 Z0 r σ H Z o) : ∀ i a, a ∈ o i → H a ≠ none := fun i a ha => by
  by_cases hi : i < r.length
  · have hj : i < σ.length := R.len ▸ hi
    exact (R.sl i _ _ (List.getElem?_eq_getElem hi) (List.getElem?_eq_getElem hj)).tracked a ha
  · rw [R.out i (by omega)] at ha; cases ha
theorem EnvR.grow (R : EnvR X.km w H0 Z0 r σ H Z o) (g : Grow w H Z H' Z') : EnvR X.km w H0 Z0 r σ H' Z' o :=
  ⟨R.gr.trans g, R.len, fun i s x h1 h2 => (R.sl i s x h1 h2).move g.zz fun a ha u e => g.hh a u e (R.fr i a ha).2.2, R.out, R.dis, fun i a ha => ⟨(R.fr i a ha).1, by
    cases e : Z' a with
    | none => rfl
    | some u =>
      rcases g.new a u e with q | q
      · rw [(R.fr i a ha).2.1] at q; cases q
      · exact absurd q (R.tr i a ha), (R.fr i a ha).2.2⟩, R.wo⟩
theorem EnvR.hw (R : EnvR X.km w H0 Z0 r σ H Z o) : w.wo = X.pw ∧ ∀ p, w.home = some p → Grow w p.1 p.2 H Z := ⟨R.wo.1, fun p hp => (R.wo.2 p hp).trans R.gr⟩
theorem EnvR.good (R : EnvR X.km w H0 Z0 r σ H Z o) : Good w H Z := R.gr.good
end

/-- an exception's tree -/
def ExR (K : PySem.W.Frag) (mg : Str → Option Value) (w : Wd) (Z H : Hp) (e : T) (cls : Value) (d : Option Addr) : Prop := ∃ c fs C, e = .exc c fs ∧ mg c = some (.ref C) ∧ cls = .ref C ∧
  ((fs = [] ∧ d = none) ∨ ∃ a gs, d = some a ∧ Z a = some (.xd gs) ∧ Trf K mg w Z fs gs)

section
variable (X : Km) (w : Wd) (E : XK)
def Post (H Z : Hp) (Q : VK) : T → Prop := fun t => ∀ v H' Z', Grow w H Z H' Z' → Tr X.K X.mg w Z' t v → Q v H'
def PostX (H0 Z0 : Hp) : T → Prop := fun e => ∀ cls d H' Z', Grow w H0 Z0 H' Z' → ExR X.K X.mg w Z' H' e cls d → E cls d H'
/-- an expression's reading by a computation -/
def EvE (c : EC) : TE := fun σ H Q => ∃ H0 Z0 r Z o, EnvR X.km w H0 Z0 r σ H Z o ∧ (c r).wp (Post X.km w H Z Q) (PostX X.km w E H0 Z0)
def PostB (H Z : Hp) (Q : Bool → Hp → Prop) : Bool → Prop := fun b => ∀ H' Z', Grow w H Z H' Z' → Q b H'
def EvT (c : List Sl → G Bool) : TT := fun σ H Q => ∃ H0 Z0 r Z o, EnvR X.km w H0 Z0 r σ H Z o ∧ (c r).wp (PostB w H Z Q) (PostX X.km w E H0 Z0)
def PostA (H Z : Hp) (Q : List V → Hp → Prop) : List T → Prop := fun ts => ∀ vs H' Z', Grow w H Z H' Z' → Trs X.K X.mg w Z' ts vs → Q vs H'
def EvA (c : List Sl → G (List T)) : TA := fun σ H Q => ∃ H0 Z0 r Z o, EnvR X.km w H0 Z0 r σ H Z o ∧ (c r).wp (PostA X.km w H Z Q) (PostX X.km w E H0 Z0)
end
section
variable (X : Cx) (w : Wd) (E : XK)
structure CE (e : Expr) (c : EC) : Prop where
  pe : PE X e (EvE X.km w E c)
structure CT (e : Expr) (c : List Sl → G Bool) : Prop where
  pt : PT X e (EvT X.km w E c)
structure CA (es : List Expr) (c : List Sl → G (List T)) : Prop where
  pa : PA X es (EvA X.km w E c)
end

section
variable {X : Cx} {w : Wd} {E : XK} {e : Expr} {pos : Pos}
theorem peImp {t t' : TE} (h : PE X e t) (f : ∀ σ H Q, t' σ H Q → t σ H Q) : PE X e t' := ⟨fun pins s σ H Q I hw => h.run pins s σ H Q I (f σ H Q hw)⟩
theorem ptImp {t t' : TT} (h : PT X e t) (f : ∀ σ H Q, t' σ H Q → t σ H Q) : PT X e t' := ⟨fun pins s σ H Q I hw => h.run pins s σ H Q I (f σ H Q hw)⟩
theorem paImp {es : List Expr} {t t' : TA} (h : PA X es t) (f : ∀ σ H Q, t' σ H Q → t σ H Q) : PA X es t' := ⟨fun pos pins s σ H Q I hw => h.run pos pins s σ H Q I (f σ H Q hw)⟩
variable {H0 Z0 H Z H1 Z1 : Hp} {r : List Sl} {σ : L2.St} {o : Nat → List Addr}
theorem Post.weak {Q : VK} {t : T} (g : Grow w H Z H1 Z1) (h : Post X.km w H Z Q t) : Post X.km w H1 Z1 Q t := fun v H' Z' g' tr => h v H' Z' (g.trans g') tr
theorem PostB.weak {Q : Bool → Hp → Prop} {b : Bool} (g : Grow w H Z H1 Z1) (h : PostB w H Z Q b) : PostB w H1 Z1 Q b := fun H' Z' g' => h H' Z' (g.trans g')
theorem PostA.weak {Q : List V → Hp → Prop} {ts : List T} (g : Grow w H Z H1 Z1) (h : PostA X.km w H Z Q ts) : PostA X.km w H1 Z1 Q ts := fun v H' Z' g' tr => h v H' Z' (g.trans g') tr

/-- one expression is evaluated, the rest of the computation is left -/
theorem evSeq {β : Type} {c : EC} {k : T → G β} {P : Hp → Hp → β → Prop} {PX : T → Prop} {Q : VK} (R : EnvR X.km w H0 Z0 r σ H Z o) (hP : ∀ {H1 Z1 b}, Grow w H Z H1 Z1 → P H Z b → P H1 Z1 b)
    (h : (c r >>= k).wp (P H Z) (PostX X.km w E H0 Z0))
    (fin : ∀ x H1 Z1 a, EnvR X.km w H0 Z0 r σ H1 Z1 o → Grow w H Z H1 Z1 → Tr X.K X.mg w Z1 a x → (k a).wp (P H1 Z1) (PostX X.km w E H0 Z0) → Q x H1) : EvE X.km w E c σ H Q :=
  ⟨H0, Z0, r, Z, o, R, G.wp_mono (G.wp_bind.mp h) (fun a ha v H' Z' g t => fin v H' Z' a (R.grow g) g t (G.wp_mono ha (fun b hb => hP g hb) fun _ x => x)) fun _ x => x⟩
theorem evSeqT {β : Type} {c : List Sl → G Bool} {k : Bool → G β} {P : Hp → Hp → β → Prop} {Q : Bool → Hp → Prop} (R : EnvR X.km w H0 Z0 r σ H Z o) (hP : ∀ {H1 Z1 b}, Grow w H Z H1 Z1 → P H Z b → P H1 Z1 b)
    (h : (c r >>= k).wp (P H Z) (PostX X.km w E H0 Z0))
    (fin : ∀ H1 Z1 a, EnvR X.km w H0 Z0 r σ H1 Z1 o → Grow w H Z H1 Z1 → (k a).wp (P H1 Z1) (PostX X.km w E H0 Z0) → Q a H1) : EvT X.km w E c σ H Q :=
  ⟨H0, Z0, r, Z, o, R, G.wp_mono (G.wp_bind.mp h) (fun a ha H' Z' g => fin H' Z' a (R.grow g) g (G.wp_mono ha (fun b hb => hP g hb) fun _ x => x)) fun _ x => x⟩
theorem evSeqA {β : Type} {c : List Sl → G (List T)} {k : List T → G β} {P : Hp → Hp → β → Prop} {Q : List V → Hp → Prop} (R : EnvR X.km w H0 Z0 r σ H Z o) (hP : ∀ {H1 Z1 b}, Grow w H Z H1 Z1 → P H Z b → P H1 Z1 b)
    (h : (c r >>= k).wp (P H Z) (PostX X.km w E H0 Z0))
    (fin : ∀ x H1 Z1 a, EnvR X.km w H0 Z0 r σ H1 Z1 o → Grow w H Z H1 Z1 → Trs X.K X.mg w Z1 a x → (k a).wp (P H1 Z1) (PostX X.km w E H0 Z0) → Q x H1) : EvA X.km w E c σ H Q :=
  ⟨H0, Z0, r, Z, o, R, G.wp_mono (G.wp_bind.mp h) (fun a ha v H' Z' g t => fin v H' Z' a (R.grow g) g t (G.wp_mono ha (fun b hb => hP g hb) fun _ x => x)) fun _ x => x⟩

/-! ### names and constants -/
def cVar (i : Nat) : EC := fun r => match r[i]? with
  | some (.fz t) => .ret t
  | _ => .stuck
def cC (t : T) : EC := fun _ => .ret t
theorem ce_var (i : Nat) {x : Str} (hN : X.N[i]? = some x := by rfl) (hv : Vis X.env.scope x := by first | exact Or.inl rfl | exact Or.inr (Or.inl rfl) | exact Or.inr (Or.inr rfl)) (hd : (x == ("__debug__" : Str)) = false := by decide)
    (hcd : (x == ("__classdict__" : Str)) = false := by decide) : CE X w E (.Name x pos) (cVar i) := by
  refine ⟨peImp (pe_var hN hv hd hcd) fun σ H Q h => ?_⟩
  obtain ⟨H0, Z0, r, Z, o, R, h⟩ := h
  unfold cVar at h
  cases e : r[i]? with
  | none => rw [e] at h; exact h.elim
  | some s =>
    rw [e] at h
    cases s with
    | un => exact h.elim
    | ow t => exact h.elim
    | me t => exact h.elim
    | dp t => exact h.elim
    | dq t => exact h.elim
    | dd t => exact h.elim
    | fz t =>
      have hi : i < σ.length := by
        have := (List.getElem?_eq_some_iff.mp e).1
        rw [R.len] at this; exact this
      obtain ⟨_, v, ev, tr⟩ := R.sl i _ _ e (List.getElem?_eq_getElem hi)
      exact ⟨v, (List.getElem?_eq_getElem hi).trans (congrArg some ev), h v H Z (Grow.refl R.good) tr⟩
theorem ceC {t : T} {v : V} (h : PE X e (tC v)) (ht : ∀ Z, Tr X.K X.mg w Z t v) : CE X w E e (cC t) :=
  ⟨peImp h fun σ H Q ⟨H0, Z0, r, Z, o, R, h⟩ => h v H Z (Grow.refl R.good) (ht Z)⟩
theorem ce_int {i j} : CE X w E (.Constant (.int i) j pos) (cC (.int i)) := ceC pe_int fun _ => .int i
theorem ce_bl {b j} : CE X w E (.Constant (.bool b) j pos) (cC (.bl b)) := ceC pe_bl fun _ => .bl b
theorem ce_non {j} : CE X w E (.Constant .none j pos) (cC .non) := ceC pe_non fun _ => .non
theorem ce_str {x j} : CE X w E (.Constant (.str x) j pos) (cC (.str x)) := ceC pe_str fun _ => .str x
/-! ### two values -/
def cOp2 (f : T → T → G T) (ca cb : EC) : EC := fun r => ca r >>= fun a => cb r >>= fun b => f a b
/-- what is asked of two values is had by their trees -/
def T2 (X : Km) (w : Wd) (E : XK) (rd : R2) (f : T → T → G T) : Prop := ∀ H0 Z0 r σ H Z o (_ : EnvR X.km w H0 Z0 r σ H Z o) a b x y (Q : VK), Tr X.K X.mg w Z a x → Tr X.K X.mg w Z b y →
  (f a b).wp (Post X.km w H Z Q) (PostX X.km w E H0 Z0) → rd x y H Q
theorem ev2 {f : T → T → G T} {ca cb : EC} {rd : R2} (hf : T2 X.km w E rd f) {σ : L2.St} {H : Hp} {Q : VK} (h : EvE X.km w E (cOp2 f ca cb) σ H Q) : tOp rd (EvE X.km w E ca) (EvE X.km w E cb) σ H Q := by
  obtain ⟨H0, Z0, r, Z, o, R, h⟩ := h
  refine evSeq (P := fun H Z => Post X.km w H Z Q) (PX := fun _ => True) R (fun g => Post.weak g) h fun x H1 Z1 a R1 g1 t1 h1 => ?_
  refine evSeq (P := fun H Z => Post X.km w H Z Q) (PX := fun _ => True) R1 (fun g => Post.weak g) h1 fun y H2 Z2 b R2 g2 t2 h2 => ?_
  exact hf H0 Z0 r σ H2 Z2 o R2 a b x y Q (t1.mono g2.zz) t2 h2
variable {a b : Expr} {ca cb : EC}
theorem ce_op {op : Operator} {rd : R2} {f : T → T → G T} (ho : OpR X (binaryOp op) rd) (hf : T2 X.km w E rd f) (ha : CE X w E a ca) (hb : CE X w E b cb) : CE X w E (.BinOp a op b pos) (cOp2 f ca cb) :=
  ⟨peImp (pe_op ho ha.pe hb.pe) fun _ _ _ h => ev2 hf h⟩
theorem ce_cmp {op : CmpOp} {rd : R2} {f : T → T → G T} (ho : OpR X (compareOp op) rd) (hf : T2 X.km w E rd f) (ha : CE X w E a ca) (hb : CE X w E b cb) (hm : behindInMarks op b = false := by first | exact nomark _ | rfl) : CE X w E (.Compare a [op] [b] pos) (cOp2 f ca cb) :=
  ⟨peImp (pe_cmpR ho ha.pe hb.pe hm) fun _ _ _ h => ev2 hf h⟩
theorem ce_ix {rd : R2} {f : T → T → G T} (ho : IxR X rd) (hf : T2 X.km w E rd f) (ha : CE X w E a ca) (hb : CE X w E b cb) (hs : PlainIx b := by exact fun _ _ => rfl) : CE X w E (.Subscript a b pos) (cOp2 f ca cb) :=
  ⟨peImp (pe_ix ho ha.pe hb.pe hs) fun _ _ _ h => ev2 hf h⟩
/-- ints -/
def fII (g : Int → Int → T) : T → T → G T
  | .int i, .int j => .ret (g i j)
  | _, _ => .stuck
theorem t2_int {g : Int → Int → V} {f : Int → Int → T} (h : ∀ Z i j, Tr X.K X.mg w Z (f i j) (g i j)) : T2 X.km w E (rI0 g) (fII f) := fun H0 Z0 r σ H Z o R a b x y Q ta tb hw => by
  cases ta <;> try exact hw.elim
  cases tb <;> try exact hw.elim
  exact ⟨_, _, rfl, rfl, hw _ H Z (Grow.refl R.good) (h _ _ _)⟩
end
section
variable {K : PySem.W.Frag} {mg : Str → Option Value} {w w' : Wd}
mutual
theorem Tr.conv (hw : w.dr = w'.dr ∧ w.wo = w'.wo ∧ w.clo = w'.clo) {Z : Hp} : ∀ {t : T} {v : V}, Tr K mg w Z t v → Tr K mg w' Z t v
  | _, _, .non => .non
  | _, _, .bl b => .bl b
  | _, _, .int i => .int i
  | _, _, .str x => .str x
  | _, _, .ty n => .ty n
  | _, _, .tup h l r => .tup h l (Trs.conv hw r)
  | _, _, .lst h l r => .lst h l (Trs.conv hw r)
  | _, _, .dic h l r => .dic h l (Trd.conv hw r)
  | _, _, .dn h l n r => .dn (hw.2.1 ▸ h) l n (Trn.conv hw r)
  | _, _, .ins a h d r => .ins a h d (Trf.conv hw r)
  | _, _, .adr a => .adr a
  | _, _, .fn h => .fn h
  | _, _, .drw h => .drw (hw.1 ▸ h)
  | _, _, .exc0 h e => .exc0 h e
  | _, _, .excD h e d r => .excD h e d (Trf.conv hw r)
  | _, _, .excS h e d => .excS h e d
  | _, _, .clo e e' => .clo (hw.2.2 ▸ e) (hw.2.2 ▸ e')
  | _, _, .scr h l => .scr h l
theorem Trs.conv (hw : w.dr = w'.dr ∧ w.wo = w'.wo ∧ w.clo = w'.clo) {Z : Hp} : ∀ {ts : List T} {vs : List V}, Trs K mg w Z ts vs → Trs K mg w' Z ts vs
  | _, _, .nil => .nil
  | _, _, .cons a b => .cons (Tr.conv hw a) (Trs.conv hw b)
theorem Trd.conv (hw : w.dr = w'.dr ∧ w.wo = w'.wo ∧ w.clo = w'.clo) {Z : Hp} : ∀ {ts : List (T × T)} {vs : List (Key × V)}, Trd K mg w Z ts vs → Trd K mg w' Z ts vs
  | _, _, .nil => .nil
  | _, _, .cons k a b => .cons k (Tr.conv hw a) (Trd.conv hw b)
theorem Trn.conv (hw : w.dr = w'.dr ∧ w.wo = w'.wo ∧ w.clo = w'.clo) {Z : Hp} : ∀ {ts : List (T × T)} {vs : List NE}, Trn K mg w Z ts vs → Trn K mg w' Z ts vs
  | _, _, .nil => .nil
  | _, _, .cons k d q a b => .cons k d (Tr.conv hw q) (Tr.conv hw a) (Trn.conv hw b)
theorem Trf.conv (hw : w.dr = w'.dr ∧ w.wo = w'.wo ∧ w.clo = w'.clo) {Z : Hp} : ∀ {ts : List (Str × T)} {vs : List (Str × V)}, Trf K mg w Z ts vs → Trf K mg w' Z ts vs
  | _, _, .nil => .nil
  | _, _, .cons a b => .cons (Tr.conv hw a) (Trf.conv hw b)
end
theorem Root.conv (hw : w.dr = w'.dr ∧ w.wo = w'.wo ∧ w.clo = w'.clo) {Z H : Hp} {t : T} {p : Addr} {o : List Addr} (r : Root K mg w Z H t p o) : Root K mg w' Z H t p o := by
  cases t <;> try exact False.elim r
  case tup ts => obtain ⟨a, bs, rfl, q, va, vs, e, h1, h2, h3, h4, h5⟩ := r.ex; exact ⟨q, va, vs, e, h1, h2.conv hw, h3, h4, h5.conv hw⟩
  case lst ts => obtain ⟨e, vs, h, l, q⟩ := r; exact ⟨e, vs, h, l, q.conv hw⟩
  case dic ts => obtain ⟨e, vs, h, l, q⟩ := r; exact ⟨e, vs, h, l, q.conv hw⟩
  case dn ts => obtain ⟨e, vs, h, l, n, q⟩ := r; exact ⟨e, vs, hw.2.1 ▸ h, l, n, q.conv hw⟩
  case ins c fs => obtain ⟨C, dx, gs, e, n, m, h, d, q⟩ := r; exact ⟨C, dx, gs, e, n, m, h, d, q.conv hw⟩
theorem KysN.conv (hw : w.dr = w'.dr ∧ w.wo = w'.wo ∧ w.clo = w'.clo) {Z : Hp} : ∀ {ks : List T} {xs : List NE}, KysN K mg w Z ks xs → KysN K mg w' Z ks xs
  | _, _, .nil => .nil
  | _, _, .cons h d t r => .cons h d (t.conv hw) (r.conv hw)
theorem NodeR.conv (hw : w.dr = w'.dr ∧ w.wo = w'.wo ∧ w.clo = w'.clo) (hm : w.me = w'.me) {Z H : Hp} {k : DKd} {p : Addr} {vs : List V} {own : List Addr} (r : NodeR K mg w Z H k p vs own) : NodeR K mg w' Z H k p vs own := by
  cases k with
  | lst => exact r
  | dic ks => exact r
  | dn ks => obtain ⟨e0, xs, e, l, n, q, kn⟩ := r; exact ⟨e0, xs, hw.2.1 ▸ e, l, n, q, kn.conv hw⟩
  | ins c fs => exact r
  | lstA a => exact r
  | me c fs => exact ⟨hm ▸ r.1, r.2⟩
mutual
theorem DR.conv (hw : w.dr = w'.dr ∧ w.wo = w'.wo ∧ w.clo = w'.clo) (hm : w.me = w'.me) {Z H : Hp} : ∀ {d : DT} {v : V} {o : List Addr}, DR K mg w Z H d v o → DR K mg w' Z H d v o
  | _, _, _, .fz t => .fz (t.conv hw)
  | _, _, _, .nd n r dj => .nd (n.conv hw hm) (DRs.conv hw hm r) dj
theorem DRs.conv (hw : w.dr = w'.dr ∧ w.wo = w'.wo ∧ w.clo = w'.clo) (hm : w.me = w'.me) {Z H : Hp} : ∀ {ds : List DT} {vs : List V} {o : List Addr}, DRs K mg w Z H ds vs o → DRs K mg w' Z H ds vs o
  | _, _, _, .nil => .nil
  | _, _, _, .cons d r dj => .cons (DR.conv hw hm d) (DRs.conv hw hm r) dj
end
theorem ExR.conv (hw : w.dr = w'.dr ∧ w.wo = w'.wo ∧ w.clo = w'.clo) {Z H : Hp} {e : T} {c : Value} {d : Option Addr} (r : ExR K mg w Z H e c d) : ExR K mg w' Z H e c d := by
  obtain ⟨n, fs, C, h1, h2, h3, h4⟩ := r
  refine ⟨n, fs, C, h1, h2, h3, h4.imp id fun ⟨a, gs, q1, q2, q3⟩ => ⟨a, gs, q1, q2, q3.conv hw⟩⟩
end
/-- whether a def that answers a new thing may answer None -/
def Wd.op (w : Wd) (b : Bool) : Wd := { w with opt := b }
section
variable {w : Wd} {H Z H' Z' : Hp} {b : Bool}
theorem Good.op (g : Good w H Z) : Good (w.op b) H Z := ⟨g.zh, g.zw, g.wi⟩
theorem Grow.op (g : Grow w H Z H' Z') : Grow (w.op b) H Z H' Z' := ⟨g.good.op, g.zz, g.new, g.hh⟩
end
end TL
end s_TL2
section s_TL3
set_option Elab.async false
set_option linter.all false
set_option maxRecDepth 100000
set_option maxHeartbeats 4000000
/-! TL3: tests, fresh expressions, arguments, calls -/
namespace TL
open PySem PySem.Spec PyProof.Rows L2
section
variable {X : Cx} {w : Wd} {E : XK} {e a b c : Expr} {es rest : List Expr} {pos : Pos} {ca cb cc : EC} {ta tb tc : List Sl → G Bool}

/-! ### tests -/
structure CW (X : Cx) (w : Wd) (E : XK) (e : Expr) (c : List Sl → G Bool) : Prop where
  pw : PW X e (EvT X.km w E c)
theorem CW.ct (h : CW X w E e ta) : CT X w E e ta := ⟨h.pw.pt⟩
def asB : T → G Bool
  | .bl b => .ret b
  | _ => .stuck
def cB (c : EC) : List Sl → G Bool := fun r => c r >>= asB
theorem evB {σ : L2.St} {H : Hp} {Q : Bool → Hp → Prop} (h : EvT X.km w E (cB ca) σ H Q) : EvE X.km w E ca σ H fun x H1 => ∃ k, x = .bl k ∧ Q k H1 := by
  obtain ⟨H0, Z0, r, Z, o, R, h⟩ := h
  refine evSeq (P := fun H Z => PostB w H Z Q) (PX := fun _ => True) R (fun g => PostB.weak g) h fun x H1 Z1 a R1 g1 t1 h1 => ?_
  cases t1 <;> try exact h1.elim
  exact ⟨_, rfl, h1 H1 Z1 (Grow.refl R1.good)⟩
theorem ct_val (h : CE X w E e ca) (he : ∀ whole, isTrue e X.env whole = (do let v ← whole; standAt e.pos; holding [v] (truthy v)) := by intro _; rfl) : CT X w E e (cB ca) :=
  ⟨ptImp (pt_val h.pe he) fun _ _ _ h => evB h⟩
theorem ct_cmp {op : CmpOp} {rd : R2} {f : T → T → G T} (ho : OpR X (compareOp op) rd) (hf : T2 X.km w E rd f) (ha : CE X w E a ca) (hb : CE X w E b cb) (hm : behindInMarks op b = false := by first | exact nomark _ | rfl) : CT X w E (.Compare a [op] [b] pos) (cB (cOp2 f ca cb)) := by
  refine ⟨ptImp (pt_cmpR ho ha.pe hb.pe hm) fun σ H Q h => ?_⟩
  obtain ⟨H0, Z0, r, Z, o, R, h⟩ := h
  have h' : EvE X.km w E (cOp2 f ca cb) σ H fun x H1 => ∃ k, x = .bl k ∧ Q k H1 := evB ⟨H0, Z0, r, Z, o, R, h⟩
  exact ev2 hf h'
def cAndT (ta tb : List Sl → G Bool) : List Sl → G Bool := fun r => ta r >>= fun p => if p then tb r else .ret false
def cOrT (ta tb : List Sl → G Bool) : List Sl → G Bool := fun r => ta r >>= fun p => if p then .ret true else tb r
def cNotT (ta : List Sl → G Bool) : List Sl → G Bool := fun r => ta r >>= fun p => .ret !p
theorem cw_and1 (ha : CT X w E a ta) : CW X w E (.BoolOp .And [a] pos) ta := ⟨pw_and1 ha.pt⟩
theorem cw_or1 (ha : CT X w E a ta) : CW X w E (.BoolOp .Or [a] pos) ta := ⟨pw_or1 ha.pt⟩
theorem pwImp {t t' : TT} (h : PW X e t) (f : ∀ σ H Q, t' σ H Q → t σ H Q) : PW X e t' := ⟨fun wh pins s σ H Q I hw => h.run wh pins s σ H Q I (f σ H Q hw)⟩
theorem cw_and (ha : CT X w E a ta) (hb : CW X w E (.BoolOp .And (b :: rest) pos) tb) : CW X w E (.BoolOp .And (a :: b :: rest) pos) (cAndT ta tb) := by
  refine ⟨pwImp (pw_and ha.pt hb.pw) fun σ H Q h => ?_⟩
  obtain ⟨H0, Z0, r, Z, o, R, h⟩ := h
  refine evSeqT (P := fun H Z => PostB w H Z Q) R (fun g => PostB.weak g) h fun H1 Z1 p R1 g1 h1 => ?_
  cases p with
  | false => exact iteF (h1 H1 Z1 (Grow.refl R1.good))
  | true => exact iteT ⟨H0, Z0, r, Z1, o, R1, h1⟩
theorem cw_or (ha : CT X w E a ta) (hb : CW X w E (.BoolOp .Or (b :: rest) pos) tb) : CW X w E (.BoolOp .Or (a :: b :: rest) pos) (cOrT ta tb) := by
  refine ⟨pwImp (pw_or ha.pt hb.pw) fun σ H Q h => ?_⟩
  obtain ⟨H0, Z0, r, Z, o, R, h⟩ := h
  refine evSeqT (P := fun H Z => PostB w H Z Q) R (fun g => PostB.weak g) h fun H1 Z1 p R1 g1 h1 => ?_
  cases p with
  | false => exact iteF ⟨H0, Z0, r, Z1, o, R1, h1⟩
  | true => exact iteT (h1 H1 Z1 (Grow.refl R1.good))
theorem ct_not (ha : CT X w E a ta) : CT X w E (.UnaryOp .Not a pos) (cNotT ta) := by
  refine ⟨ptImp (pt_not ha.pt) fun σ H Q h => ?_⟩
  obtain ⟨H0, Z0, r, Z, o, R, h⟩ := h
  exact evSeqT (P := fun H Z => PostB w H Z Q) R (fun g => PostB.weak g) h fun H1 Z1 p R1 g1 h1 => h1 H1 Z1 (Grow.refl R1.good)

/-! ### and, or, not, if as values -/
def cAndV (ca cb : EC) : EC := fun r => ca r >>= asB >>= fun p => if p then cb r else .ret (.bl false)
def cOrV (ca cb : EC) : EC := fun r => ca r >>= asB >>= fun p => if p then .ret (.bl true) else cb r
def cNotV (ca : EC) : EC := fun r => ca r >>= asB >>= fun p => .ret (.bl !p)
theorem ce_one {op} (h : CE X w E a ca) : CE X w E (.BoolOp op [a] pos) ca := ⟨pe_one h.pe⟩
/-- a bool first, then the rest -/
theorem evB2 {k : Bool → G T} {σ : L2.St} {H H0 Z0 Z : Hp} {r : List Sl} {o : Nat → List Addr} {Q : VK} {Q' : VK} (R : EnvR X.km w H0 Z0 r σ H Z o) (h : (ca r >>= asB >>= k).wp (Post X.km w H Z Q) (PostX X.km w E H0 Z0))
    (fin : ∀ p H1 Z1, EnvR X.km w H0 Z0 r σ H1 Z1 o → (k p).wp (Post X.km w H1 Z1 Q) (PostX X.km w E H0 Z0) → Q' (.bl p) H1) : EvE X.km w E ca σ H Q' := by
  rw [G.bind_assoc] at h
  refine evSeq (P := fun H Z => Post X.km w H Z Q) (PX := fun _ => True) R (fun g => Post.weak g) h fun x H1 Z1 a R1 g1 t1 h1 => ?_
  cases t1 <;> try exact h1.elim
  exact fin _ H1 Z1 R1 h1
theorem ce_and (ha : CE X w E a ca) (hb : CE X w E (.BoolOp .And (b :: rest) pos) cb) : CE X w E (.BoolOp .And (a :: b :: rest) pos) (cAndV ca cb) := by
  refine ⟨peImp (pe_and ha.pe hb.pe) fun σ H Q h => ?_⟩
  obtain ⟨H0, Z0, r, Z, o, R, h⟩ := h
  refine evB2 R h fun p H1 Z1 R1 h1 => ⟨p, rfl, ?_⟩
  cases p with
  | false => exact iteF (h1 _ H1 Z1 (Grow.refl R1.good) (.bl _))
  | true => exact iteT ⟨H0, Z0, r, Z1, o, R1, h1⟩
def cIf (tc : List Sl → G Bool) (ca cb : EC) : EC := fun r => tc r >>= fun p => if p then ca r else cb r
/-! ### one value -/
def cOp1 (f : T → G T) (ca : EC) : EC := fun r => ca r >>= f
def T1 (X : Km) (w : Wd) (E : XK) (rd : V → Hp → VK → Prop) (f : T → G T) : Prop := ∀ H0 Z0 r σ H Z o (_ : EnvR X.km w H0 Z0 r σ H Z o) a x (Q : VK), Tr X.K X.mg w Z a x → (f a).wp (Post X.km w H Z Q) (PostX X.km w E H0 Z0) → rd x H Q
def fI1 (g : Int → T) : T → G T
  | .int i => .ret (g i)
  | _ => .stuck
/-- is None, is not None -/
def fIsN : T → G T
  | .non => .ret (.bl true)
  | .bl _ | .int _ | .str _ | .tup _ | .lst _ | .dic _ | .dn _ | .ins _ _ | .exc _ _ => .ret (.bl false)
  | _ => .stuck
def fNotN : T → G T
  | .non => .ret (.bl false)
  | .bl _ | .int _ | .str _ | .tup _ | .lst _ | .dic _ | .dn _ | .ins _ _ | .exc _ _ => .ret (.bl true)
  | _ => .stuck
/-! ### arguments -/
def caNil : List Sl → G (List T) := fun _ => .ret []
def caCons (c : EC) (cs : List Sl → G (List T)) : List Sl → G (List T) := fun r => c r >>= fun t => cs r >>= fun ts => .ret (t :: ts)
variable {cs : List Sl → G (List T)}
theorem ca_nil : CA X w E [] caNil := ⟨paImp pa_nil fun σ H Q ⟨H0, Z0, r, Z, o, R, h⟩ => h [] H Z (Grow.refl R.good) .nil⟩
theorem ca_cons (ha : CE X w E e ca) (hr : CA X w E es cs) (hs : starEach (e :: es) X.env = (false, eval e X.env) :: starEach es X.env := by rfl) : CA X w E (e :: es) (caCons ca cs) := by
  refine ⟨paImp (pa_cons ha.pe hr.pa hs) fun σ H Q h => ?_⟩
  obtain ⟨H0, Z0, r, Z, o, R, h⟩ := h
  refine evSeq (P := fun H Z => PostA X.km w H Z Q) (PX := fun _ => True) R (fun g => PostA.weak g) h fun x H1 Z1 a R1 g1 t1 h1 => ?_
  refine evSeqA (P := fun H Z => PostA X.km w H Z Q) R1 (fun g => PostA.weak g) h1 fun xs H2 Z2 ts R2 g2 t2 h2 => ?_
  exact h2 _ H2 Z2 (Grow.refl R2.good) (.cons (t1.mono g2.zz) t2)
/-- no star: as many as are written -/
def Len (cs : List Sl → G (List T)) (n : Nat) : Prop := ∀ r Q E, (cs r).wp Q E → (cs r).wp (fun ts => ts.length = n ∧ Q ts) E
theorem len_nil : Len caNil 0 := fun r Q E h => ⟨rfl, h⟩
theorem len_cons {n : Nat} (h : Len cs n) : Len (caCons ca cs) (n + 1) := fun r Q E hw => by
  refine G.wp_bind.mpr (G.wp_mono (G.wp_bind.mp hw) (fun t ht => ?_) fun _ x => x)
  exact G.wp_bind.mpr (G.wp_mono (h r _ E (G.wp_bind.mp ht)) (fun ts q => ⟨by simp [q.1], q.2⟩) fun _ x => x)

/-! ### fresh things -/
def Fresh (w : Wd) (H Z' : Hp) (o : List Addr) : Prop := ∀ a ∈ o, H a = none ∧ Z' a = none ∧ a ∉ w.W
def PostF (X : Km) (w : Wd) (H Z : Hp) (Q : VK) : T → Prop := fun t => ∀ p o H' Z', Grow w H Z H' Z' → Root X.K X.mg w Z' H' t p o → Fresh w H Z' o → Q (.ref p) H'
def EvF (X : Km) (w : Wd) (E : XK) (c : EC) : TE := fun σ H Q => ∃ H0 Z0 r Z o, EnvR X.km w H0 Z0 r σ H Z o ∧ (c r).wp (PostF X.km w H Z Q) (PostX X.km w E H0 Z0)
structure CF (X : Cx) (w : Wd) (E : XK) (e : Expr) (c : EC) : Prop where
  pe : PE X e (EvF X.km w E c)
theorem PostF.weak {H Z H1 Z1 : Hp} {Q : VK} {t : T} (g : Grow w H Z H1 Z1) (h : PostF X.km w H Z Q t) : PostF X.km w H1 Z1 Q t := by
  intro p o H' Z' g' r f
  refine h p o H' Z' (g.trans g') r fun a ha => ⟨?_, (f a ha).2⟩
  cases q : H a with
  | none => rfl
  | some u =>
    have z := (f a ha).1
    rw [g.hh a u q (f a ha).2.2] at z
    cases z
theorem Grow.frz {H Z H' Z' : Hp} (g : Grow w H Z H' Z') {a : Addr} {u : HO} (h : H a = none) (hz : Z' a = none) (hw : a ∉ w.W) (hu : H' a = some u) : Grow w H Z H' (upd Z' a u) :=
  ⟨⟨fun b v e => by
      by_cases ne : b = a
      · subst ne; rw [upd_same] at e; cases e; exact hu
      · rw [upd_ne ne] at e; exact g.good.zh b v e, fun b hb => by rw [upd_ne (fun z => hw (by rw [← z]; exact hb))]; exact g.good.zw b hb, w.loc (fun _ _ => rfl) (Sub.upd hz) g.good.wi⟩,
    g.zz.trans (Sub.upd hz), fun b v e => by
      by_cases ne : b = a
      · subst ne; exact .inr h
      · rw [upd_ne ne] at e; exact g.new b v e, g.hh⟩
/-- a thing may be locked first -/
def Fz (P : Hp → Prop) (H : Hp) : Prop := P H ∨ ∃ d u, H d = some u ∧ Mut (some u) ∧ ∀ od, P (upd H d (.frz od u))
theorem Fz.imp {P P' : Hp → Prop} {H : Hp} (h : Fz P H) (f : ∀ H', P H' → P' H')   : Fz P' H := Or.imp (f _) (fun ⟨d, u, e, m, q⟩ => ⟨d, u, e, m, fun od => f _ (q od)⟩) h
theorem pe_lk {t : TE} (h : PE X e t) : PE X e (fun σ H Q => t σ H fun v H1 => Fz (Q v) H1) := by
  refine ⟨fun pins s σ H Q I hw => ?_⟩
  refine thn (h.run pins s σ H _ I hw) fun v s1 ⟨x, H1, I1, r, q⟩ => ?_
  rcases q with q | ⟨d, u, hd, mu, q⟩
  · exact ⟨x, H1, I1, r, q⟩
  · obtain ⟨od, I2⟩ := I1.lock hd mu
    exact ⟨x, _, I2, r, q od⟩
/-- a fresh thing is frozen -/
theorem Grow.frozen {X : Km} {H Z H' Z' : Hp} {t : T} {p : Addr} {o : List Addr} (g : Grow w H Z H' Z') (r : Root X.K X.mg w Z' H' t p o) (f : Fresh w H Z' o) :
    Fz (fun H2 => ∃ Z2, Grow w H Z H2 Z2 ∧ Sub Z' Z2 ∧ Tr X.K X.mg w Z2 t (.ref p) ∧ (∀ a, a ∉ o → Z2 a = Z' a) ∧ ∀ a, a ∉ o → H2 a = H' a) H' := by
  cases t <;> try exact r.elim
  case tup ts =>
    obtain ⟨a, bs, rfl, q, va, vs, rfl, h1, h2, h3, h4, h5⟩ := r.ex
    obtain ⟨f1, f2, f3⟩ := f q (by simp)
    have s := Sub.upd (o := HO.lst vs) f2
    exact .inl ⟨_, g.frz f1 f2 f3 h3, s, .tup (s.sqT h1) (Nat.le_of_lt (small1000 (show [va, V.ref q].length ≤ 1000 from by show 2 ≤ 1000; decide))) (.cons (h2.mono s) (.cons (.lst upd_same h4 (h5.mono s)) .nil)), fun a ha => upd_ne (by simpa using ha), fun a _ => rfl⟩
  case lst ts =>
    obtain ⟨rfl, vs, h, l, tr⟩ := r
    obtain ⟨f1, f2, f3⟩ := f p (by simp)
    exact .inl ⟨_, g.frz f1 f2 f3 h, Sub.upd f2, .lst upd_same l (tr.mono (Sub.upd f2)), fun a ha => upd_ne (by simpa using ha), fun a _ => rfl⟩
  case dic ts =>
    obtain ⟨rfl, vs, h, l, tr⟩ := r
    obtain ⟨f1, f2, f3⟩ := f p (by simp)
    refine .inr ⟨p, _, h, True.intro, fun od => ?_⟩
    have hs : Sub Z' (upd H' p (.frz od (.dK vs))) := fun b v e => by
      have ne : b ≠ p := fun q => by rw [q, f2] at e; cases e
      rw [upd_ne ne]; exact g.good.zh b v e
    have g2 : Grow w H Z (upd H' p (.frz od (.dK vs))) Z' := ⟨⟨hs, g.good.zw, w.loc (fun b hb => upd_ne (fun q => f3 (q ▸ hb))) (Sub.refl _) g.good.wi⟩, g.zz, g.new, fun b v e hb => by
      have ne : b ≠ p := fun q => by rw [q, f1] at e; cases e
      rw [upd_ne ne]; exact g.hh b v e hb⟩
    exact ⟨_, g2.frz f1 f2 f3 upd_same, Sub.upd f2, .dic ⟨od, upd_same⟩ l (tr.mono (Sub.upd f2)), fun a ha => upd_ne (by simpa using ha), fun a ha => upd_ne (by simpa using ha)⟩
  case dn ts =>
    obtain ⟨rfl, vs, ⟨ep, h⟩, l, n, tr⟩ := r
    obtain ⟨f1, f2, f3⟩ := f p (by simp)
    exact .inl ⟨_, g.frz f1 f2 f3 h, Sub.upd f2, .dn ⟨ep, upd_same⟩ l n (tr.mono (Sub.upd f2)), fun a ha => upd_ne (by simpa using ha), fun a _ => rfl⟩
  case ins c fs =>
    obtain ⟨C, dx, gs, rfl, ne, m, h, h2, tr⟩ := r
    obtain ⟨f1, f2, f3⟩ := f p (by simp)
    obtain ⟨k1, k2, k3⟩ := f dx (by simp)
    have s1 : Sub Z' (upd Z' p (.ins C dx gs)) := Sub.upd f2
    have z2 : upd Z' p (.ins C dx gs) dx = none := by rw [upd_ne ne]; exact k2
    refine .inl ⟨_, (g.frz f1 f2 f3 h).frz k1 z2 k3 h2, s1.trans (Sub.upd z2), .ins m (by rw [upd_ne (Ne.symm ne)]; exact upd_same) upd_same (tr.mono (s1.trans (Sub.upd z2))), fun a ha => ?_, fun a _ => rfl⟩
    simp at ha
    rw [upd_ne ha.2, upd_ne ha.1]
theorem CF.ce (h : CF X w E e ca) : CE X w E e ca := ⟨peImp (pe_lk h.pe) fun σ H Q ⟨H0, Z0, r, Z, o, R, h⟩ => ⟨H0, Z0, r, Z, o, R, G.wp_mono h (fun t ht p o H' Z' g rt f =>
  (g.frozen rt f).imp fun H2 ⟨Z2, g2, _, tr, _⟩ => ht _ H2 Z2 g2 tr) fun _ x => x⟩⟩
theorem Grow.newRoot {H Z : Hp} (g : Good w H Z) {p : Addr} (hp : H p = none) : Fresh w H Z [p] := fun a ha => by
  simp at ha; subst ha
  exact ⟨hp, g.tracked hp, fun hw => g.nw hp a hw rfl⟩
/-- displays -/
def cTup (cs : List Sl → G (List T)) : EC := fun r => cs r >>= fun ts => .ret (.tup ts)
def cLst (cs : List Sl → G (List T)) : EC := fun r => cs r >>= fun ts => .ret (.lst ts)
theorem ce_tup {x1} {n : Nat} (h : CA X w E es cs) (hl : Len cs n) (hn : n ≤ 1000 := by decide) : CE X w E (.Tuple es x1 pos) (cTup cs) := by
  refine ⟨peImp (pe_tup h.pa) fun σ H Q h => ?_⟩
  obtain ⟨H0, Z0, r, Z, o, R, h⟩ := h
  have h' : (cs r >>= fun ts => if ts.length = n then G.ret (T.tup ts) else .stuck).wp (Post X.km w H Z Q) (PostX X.km w E H0 Z0) :=
    G.wp_bind.mpr (G.wp_mono (hl r _ _ (G.wp_bind.mp h)) (fun ts q => by rw [if_pos q.1]; exact q.2) fun _ x => x)
  refine evSeqA (P := fun H Z => Post X.km w H Z Q) R (fun g => Post.weak g) h' fun xs H1 Z1 ts R1 g1 t1 h1 => ?_
  by_cases e : ts.length = n
  · rw [if_pos e] at h1
    have hz : xs.length ≤ sizeLine := Nat.le_of_lt (small1000 (by rw [← t1.length, e]; exact hn))
    refine ⟨hz, fun p hp => ?_⟩
    exact h1 _ _ (upd Z1 p (.tup xs)) (Grow.laidF R1.good hp) (.tup (SqT.of upd_same) hz (t1.mono (Sub.upd (R1.good.tracked hp))))
  · rw [if_neg e] at h1; exact h1.elim
theorem cf_lst {n : Nat} (h : CA X w E es cs) (hl : Len cs n) (hn : n ≤ 1000 := by decide) : CF X w E (.List es pos) (cLst cs) := by
  refine ⟨peImp (pe_lst h.pa) fun σ H Q h => ?_⟩
  obtain ⟨H0, Z0, r, Z, o, R, h⟩ := h
  have h' : (cs r >>= fun ts => if ts.length = n then G.ret (T.lst ts) else .stuck).wp (PostF X.km w H Z Q) (PostX X.km w E H0 Z0) :=
    G.wp_bind.mpr (G.wp_mono (hl r _ _ (G.wp_bind.mp h)) (fun ts q => by rw [if_pos q.1]; exact q.2) fun _ x => x)
  refine evSeqA (P := fun H Z => PostF X.km w H Z Q) R (fun g => PostF.weak g) h' fun xs H1 Z1 ts R1 g1 t1 h1 => ?_
  by_cases e : ts.length = n
  · rw [if_pos e] at h1
    have hz : xs.length ≤ sizeLine := Nat.le_of_lt (small1000 (by rw [← t1.length, e]; exact hn))
    refine ⟨hz, fun p hp => ?_⟩
    exact h1 p [p] _ Z1 (Grow.laid R1.good hp) ⟨rfl, xs, upd_same, hz, t1⟩ (Grow.newRoot R1.good hp)
  · rw [if_neg e] at h1; exact h1.elim

/-! ### built-ins by name -/
def cCall (F : List T → G T) (cs : List Sl → G (List T)) : EC := fun r => cs r >>= F
def TN (X : Km) (w : Wd) (E : XK) (rd : List V → Hp → VK → Prop) (F : List T → G T) : Prop := ∀ H0 Z0 r σ H Z o (_ : EnvR X.km w H0 Z0 r σ H Z o) ts vs (Q : VK), Trs X.K X.mg w Z ts vs → (F ts).wp (Post X.km w H Z Q) (PostX X.km w E H0 Z0) → rd vs H Q
/-- .. that make a new thing -/
def TNF (X : Km) (w : Wd) (E : XK) (rd : List V → Hp → VK → Prop) (F : List T → G T) : Prop := ∀ H0 Z0 r σ H Z o (_ : EnvR X.km w H0 Z0 r σ H Z o) ts vs (Q : VK), Trs X.K X.mg w Z ts vs → (F ts).wp (PostF X.km w H Z Q) (PostX X.km w E H0 Z0) → rd vs H Q
theorem evN {F : List T → G T} {rd : List V → Hp → VK → Prop} (hf : TN X.km w E rd F) {σ : L2.St} {H : Hp} {Q : VK} (h : EvE X.km w E (cCall F cs) σ H Q) : EvA X.km w E cs σ H fun xs H1 => rd xs H1 Q := by
  obtain ⟨H0, Z0, r, Z, o, R, h⟩ := h
  exact evSeqA (P := fun H Z => Post X.km w H Z Q) R (fun g => Post.weak g) h fun xs H1 Z1 ts R1 g1 t1 h1 => hf H0 Z0 r σ H1 Z1 o R1 ts xs Q t1 h1
variable {x : Str} {p : Pos} {id Ty : String} {rd : List V → Hp → VK → Prop} {F : List T → G T}
theorem ce_callB (hc : CallR X (.builtin id) rd) (hf : TN X.km w E rd F) (hg : Gl X x) (hm : X.mg x = none) (hv : bootBuiltins x = some (.builtin id)) (ha : CA X w E (e :: es) cs) (hn : x ≠ "__name__" := by decide) (hdb : (x == ("__debug__" : Str)) = false := by decide)
    (he : starEach (e :: es) X.env = (false, eval e X.env) :: starEach es X.env := by rfl) (hpl : (backTo pos (starEach es X.env)).any (·.1) = false := by rfl) : CE X w E (.Call (.Name x p) (e :: es) [] pos) (cCall F cs) :=
  ⟨peImp (pe_callB hc hg hm hv ha.pa hn hdb he hpl) fun _ _ _ h => evN hf h⟩
theorem ce_callTy (hc : CallR X (.type Ty) rd) (hf : TN X.km w E rd F) (hg : Gl X x) (hm : X.mg x = none) (hv : bootBuiltins x = some (.type Ty)) (ha : CA X w E (e :: es) cs) (hn : x ≠ "__name__" := by decide) (hdb : (x == ("__debug__" : Str)) = false := by decide)
    (he : starEach (e :: es) X.env = (false, eval e X.env) :: starEach es X.env := by rfl) (hpl : (backTo pos (starEach es X.env)).any (·.1) = false := by rfl) : CE X w E (.Call (.Name x p) (e :: es) [] pos) (cCall F cs) :=
  ⟨peImp (pe_callTy hc hg hm hv ha.pa hn hdb he hpl) fun _ _ _ h => evN hf h⟩
/-! ### defs -/
/-- a def's promise by its computation: a frozen answer -/
def SpT (pw : Program × World) (K : PySem.W.Frag) (mg : Str → Option Value) (n : Nat) (F : List T → G T) : Sp := fun vs H Q E => ∃ (w : Wd) (ts : List T) (Z : Hp), (w.wo = pw ∧ ∀ p, w.home = some p → Grow w p.1 p.2 H Z) ∧ vs.length = n ∧ Good w H Z ∧ Trs K mg w Z ts vs ∧
  (F ts).wp (fun t => ∀ v H' Z', Grow w H Z H' Z' → Tr K mg w Z' t v → Q v H') (fun e => ∀ cls d H' Z', Grow w H Z H' Z' → ExR K mg w Z' H' e cls d → E cls d H')
/-- .. an answer that is new -/
def SpF (pw : Program × World) (K : PySem.W.Frag) (mg : Str → Option Value) (n : Nat) (F : List T → G T) : Sp := fun vs H Q E => ∃ (w : Wd) (ts : List T) (Z : Hp), (w.wo = pw ∧ ∀ p, w.home = some p → Grow w p.1 p.2 H Z) ∧ vs.length = n ∧ Good w H Z ∧ Trs K mg w Z ts vs ∧
  (F ts).wp (fun t => ∀ p o H' Z', Grow w H Z H' Z' → Root K mg w Z' H' t p o → Fresh w H Z' o → Q (.ref p) H') (fun e => ∀ cls d H' Z', Grow w H Z H' Z' → ExR K mg w Z' H' e cls d → E cls d H')
variable {CX : CXT} {k n : Nat} {f : Addr} {fd : FuncData} {ps : List Str}
end
end TL
end s_TL3
section s_TL4
set_option Elab.async false
set_option linter.all false
set_option maxRecDepth 100000
set_option maxHeartbeats 4000000
/-! TL4: statements, targets, loops -/
namespace TL
open PySem PySem.Spec PyProof.Rows L2

inductive Ctl where
  | nx (r : List Sl) | rt (t : T) | bk (r : List Sl) | ct (r : List Sl)
  /-- return, the slots known -/
  | rm (t : T) (r : List Sl)
abbrev SC := List Sl → G Ctl

section
variable (X : Km) (w : Wd) (E : XK) (fr : Bool)
/-- what is wanted behind a statement; fr: the def answers a new thing -/
def PostR (H0 Z0 : Hp) (t : T) (Q : VK) : Prop := if fr = true then (w.opt = true → t = .non → ∀ H Z, Grow w H0 Z0 H Z → Q .non H) ∧ ∀ p o H Z, Grow w H0 Z0 H Z → Root X.K X.mg w Z H t p o → Fresh w H0 Z o → Q (.ref p) H else ∀ v H Z, Grow w H0 Z0 H Z → Tr X.K X.mg w Z t v → Q v H
/-- an answer, the slots known -/
def Ans (fr : Bool) (H0 Z H : Hp) (o : Nat → List Addr) (t : T) (v : V) : Prop := if fr = true then ∃ p oo, v = .ref p ∧ Root X.K X.mg w Z H t p oo ∧ (∀ a ∈ oo, H0 a = none ∧ Z a = none ∧ a ∉ w.W) ∧ ∀ j a, a ∈ o j → a ∉ oo else Tr X.K X.mg w Z t v
def PostS (H0 Z0 Z : Hp) (D : Ends) : Ctl → Prop
  | .rm t r => ∀ σ H Z' o v, EnvR X.km w H0 Z0 r σ H Z' o → Sub Z Z' → Ans X.km w fr H0 Z' H o t v → D.rt v H
  | .nx r => ∀ σ H Z' o, EnvR X.km w H0 Z0 r σ H Z' o → Sub Z Z' → D.nx σ H
  | .bk r => ∀ σ H Z' o, EnvR X.km w H0 Z0 r σ H Z' o → Sub Z Z' → D.bk σ H
  | .ct r => ∀ σ H Z' o, EnvR X.km w H0 Z0 r σ H Z' o → Sub Z Z' → D.ct σ H
  | .rt t => PostR X.km w fr H0 Z0 t D.rt
def EvS (c : SC) : TS := fun D σ H => ∃ H0 Z0 r Z o, EnvR X.km w H0 Z0 r σ H Z o ∧ (c r).wp (PostS X.km w fr H0 Z0 Z D) (PostX X.km w E H0 Z0)
end
section
variable (X : Cx) (w : Wd) (E : XK) (fr : Bool)
structure CS (st : Stmt) (c : SC) : Prop where
  ps : PS X st (EvS X.km w E fr c)
structure CSs (sts : List Stmt) (c : SC) : Prop where
  ps : PSs X sts (EvS X.km w E fr c)
end

section
variable {X : Cx} {w : Wd} {E : XK} {fr : Bool} {st : Stmt} {sts rest : List Stmt} {c d : SC} {e : Expr} {pos : Pos} {ca : EC}
theorem psImp {t t' : TS} (h : PS X st t) (f : ∀ D σ H, t' D σ H → t D σ H) : PS X st t' := ⟨fun pins s σ H D I hw => h.run pins s σ H D I (f D σ H hw)⟩
theorem pssImp {t t' : TS} (h : PSs X sts t) (f : ∀ D σ H, t' D σ H → t D σ H) : PSs X sts t' := ⟨fun pins s σ H D I hw => h.run pins s σ H D I (f D σ H hw)⟩
variable {H0 Z0 H Z Z1 : Hp} {r : List Sl} {σ : L2.St} {o : Nat → List Addr} {D : Ends}
theorem PostS.weak {k : Ctl} (s : Sub Z Z1) (h : PostS X.km w fr H0 Z0 Z D k) : PostS X.km w fr H0 Z0 Z1 D k := by
  cases k with
  | nx r => exact fun σ H Z' o R s' => h σ H Z' o R (s.trans s')
  | bk r => exact fun σ H Z' o R s' => h σ H Z' o R (s.trans s')
  | ct r => exact fun σ H Z' o R s' => h σ H Z' o R (s.trans s')
  | rt t => exact h
  | rm t r => exact fun σ H Z' o v R s' => h σ H Z' o v R (s.trans s')
/-- one statement, then the rest -/
def cSeq (c d : SC) : SC := fun r => c r >>= fun k => match k with
  | .nx r' => d r'
  | k => .ret k
theorem css_nil : CSs X w E fr [] (fun r => .ret (.nx r)) := ⟨pssImp pss_nil fun D σ H ⟨H0, Z0, r, Z, o, R, h⟩ => h σ H Z o R (Sub.refl _)⟩
theorem css_cons (h1 : CS X w E fr st c) (h2 : CSs X w E fr rest d) : CSs X w E fr (st :: rest) (cSeq c d) := by
  refine ⟨pssImp (pss_cons h1.ps h2.ps) fun D σ H h => ?_⟩
  obtain ⟨H0, Z0, r, Z, o, R, h⟩ := h
  refine ⟨H0, Z0, r, Z, o, R, G.wp_mono (G.wp_bind.mp h) (fun k hk => ?_) fun _ x => x⟩
  cases k with
  | nx r' => exact fun σ' H' Z' o' R' s' => ⟨H0, Z0, r', Z', o', R', G.wp_mono hk (fun k q => PostS.weak s' q) fun _ x => x⟩
  | bk r' => exact hk
  | ct r' => exact hk
  | rt t => exact hk
  | rm t r => exact hk
theorem css_one (h1 : CS X w E fr st c) : CSs X w E fr [st] c := ⟨pss_one h1.ps⟩
/-- an expression first, in a statement -/
theorem evSeqS {k : T → G Ctl} {Q : VK} (R : EnvR X.km w H0 Z0 r σ H Z o) (h : (ca r >>= k).wp (PostS X.km w fr H0 Z0 Z D) (PostX X.km w E H0 Z0))
    (fin : ∀ x H1 Z1 a, EnvR X.km w H0 Z0 r σ H1 Z1 o → Grow w H Z H1 Z1 → Tr X.K X.mg w Z1 a x → (k a).wp (PostS X.km w fr H0 Z0 Z1 D) (PostX X.km w E H0 Z0) → Q x H1) : EvE X.km w E ca σ H Q :=
  evSeq (P := fun _ Z => PostS X.km w fr H0 Z0 Z D) (PX := fun _ => True) R (fun g => PostS.weak g.zz) h fin
theorem evSeqST {tc : List Sl → G Bool} {k : Bool → G Ctl} {Q : Bool → Hp → Prop} (R : EnvR X.km w H0 Z0 r σ H Z o) (h : (tc r >>= k).wp (PostS X.km w fr H0 Z0 Z D) (PostX X.km w E H0 Z0))
    (fin : ∀ H1 Z1 a, EnvR X.km w H0 Z0 r σ H1 Z1 o → Grow w H Z H1 Z1 → (k a).wp (PostS X.km w fr H0 Z0 Z1 D) (PostX X.km w E H0 Z0) → Q a H1) : EvT X.km w E tc σ H Q :=
  evSeqT (P := fun _ Z => PostS X.km w fr H0 Z0 Z D) R (fun g => PostS.weak g.zz) h fin

/-- an expression whose value is dropped -/
def cDrop (ca : EC) : SC := fun r => ca r >>= fun _ => .ret (.nx r)
/-- return -/
def cRet (ca : EC) : SC := fun r => ca r >>= fun t => .ret (.rt t)
theorem cs_ret (he : CE X w E e ca) : CS X w E false (.Return (some e) pos) (cRet ca) := by
  refine ⟨psImp (ps_ret he.pe) fun D σ H h => ?_⟩
  obtain ⟨H0, Z0, r, Z, o, R, h⟩ := h
  refine evSeqS R h fun x H1 Z1 a R1 g1 t1 h1 => ?_
  have q : PostR X.km w false H0 Z0 a D.rt := h1
  exact q x H1 Z1 R1.gr t1
/-- return x, x's root its own -/
def cRetO (i : Nat) : SC := fun r => match r[i]? with
  | some (.ow t) => .ret (.rt t)
  | _ => .stuck
/-- if -/
def cIfS (tc : List Sl → G Bool) (c d : SC) : SC := fun r => tc r >>= fun p => if p then c r else d r
theorem cs_if {ce : Expr} {s1 s2 : List Stmt} {tc : List Sl → G Bool} (hc : CT X w E ce tc) (h1 : CSs X w E fr s1 c) (h2 : CSs X w E fr s2 d) : CS X w E fr (.If ce s1 s2 pos) (cIfS tc c d) := by
  refine ⟨psImp (ps_if hc.pt h1.ps h2.ps) fun D σ H h => ?_⟩
  obtain ⟨H0, Z0, r, Z, o, R, h⟩ := h
  refine evSeqST R h fun H1 Z1 p R1 g1 h1 => ?_
  cases p with
  | false => exact iteF ⟨H0, Z0, r, Z1, o, R1, h1⟩
  | true => exact iteT ⟨H0, Z0, r, Z1, o, R1, h1⟩

/-! ### stores -/
theorem EnvR.setF (R : EnvR X.km w H0 Z0 r σ H Z o) (i : Nat) {t : T} {v : V} (h : Tr X.K X.mg w Z t v) : EnvR X.km w H0 Z0 (r.set i (.fz t)) (σ.set i (some v)) H Z (fun j => if j = i then [] else o j) := by
  refine ⟨R.gr, by rw [List.length_set, List.length_set]; exact R.len, fun j s x h1 h2 => ?_, fun j hj => ?_, fun j k a h1 h2 => ?_, fun j a ha => ?_, R.wo⟩
  · by_cases e : j = i
    · subst e
      have hj : j < r.length := by
        have := (List.getElem?_eq_some_iff.mp h1).1
        rwa [List.length_set] at this
      rw [List.getElem?_set_self hj] at h1
      rw [List.getElem?_set_self (R.len ▸ hj)] at h2
      cases h1; cases h2
      exact ⟨if_pos rfl, v, rfl, h⟩
    · rw [List.getElem?_set_ne (Ne.symm e)] at h1 h2
      simp only [if_neg e]
      exact R.sl j s x h1 h2
  · by_cases e : j = i
    · simp [e]
    · rw [List.length_set] at hj; simp only [if_neg e]; exact R.out j hj
  · by_cases e1 : j = i
    · simp [e1] at h1
    · by_cases e2 : k = i
      · simp [e2] at h2
      · simp only [if_neg e1] at h1; simp only [if_neg e2] at h2; exact R.dis j k a h1 h2
  · by_cases e1 : j = i
    · simp [e1] at ha
    · simp only [if_neg e1] at ha; exact R.fr j a ha
theorem EnvR.setO (R : EnvR X.km w H0 Z0 r σ H Z o) (i : Nat) {t : T} {p : Addr} {oo : List Addr} (hi : i < r.length) (h : Root X.K X.mg w Z H t p oo) (f : ∀ a ∈ oo, H0 a = none ∧ Z a = none ∧ a ∉ w.W) (dj : ∀ j a, a ∈ o j → a ∉ oo) :
    EnvR X.km w H0 Z0 (r.set i (.ow t)) (σ.set i (some (.ref p))) H Z (fun j => if j = i then oo else o j) := by
  refine ⟨R.gr, by rw [List.length_set, List.length_set]; exact R.len, fun j s x h1 h2 => ?_, fun j hj => ?_, fun j k a h1 h2 => ?_, fun j a ha => ?_, R.wo⟩
  · by_cases e : j = i
    · subst e
      have hj : j < r.length := by
        have := (List.getElem?_eq_some_iff.mp h1).1
        rwa [List.length_set] at this
      rw [List.getElem?_set_self hj] at h1
      rw [List.getElem?_set_self (R.len ▸ hj)] at h2
      cases h1; cases h2
      exact ⟨p, rfl, by simpa using h⟩
    · rw [List.getElem?_set_ne (Ne.symm e)] at h1 h2
      simp only [if_neg e]
      exact R.sl j s x h1 h2
  · rw [List.length_set] at hj
    have e : j ≠ i := by omega
    simp only [if_neg e]; exact R.out j hj
  · by_cases e1 : j = i <;> by_cases e2 : k = i
    · rw [e1, e2]
    · rw [e1] at h1; simp only [if_true] at h1; simp only [if_neg e2] at h2; exact absurd h1 (dj k a h2)
    · rw [e2] at h2; simp only [if_true] at h2; simp only [if_neg e1] at h1; exact absurd h2 (dj j a h1)
    · simp only [if_neg e1] at h1; simp only [if_neg e2] at h2; exact R.dis j k a h1 h2
  · by_cases e1 : j = i
    · rw [e1] at ha; simp only [if_true] at ha; exact f a ha
    · simp only [if_neg e1] at ha; exact R.fr j a ha
theorem Fresh.env {Z' : Hp} {oo : List Addr} (R : EnvR X.km w H0 Z0 r σ H Z o) (f : Fresh w H Z' oo) : (∀ a ∈ oo, H0 a = none ∧ Z' a = none ∧ a ∉ w.W) ∧ ∀ j a, a ∈ o j → a ∉ oo := by
  refine ⟨fun a ha => ⟨?_, (f a ha).2⟩, fun j a ha hb => R.tr j a ha (f a hb).1⟩
  cases e : H0 a with
  | none => rfl
  | some u =>
    have z := (f a ha).1
    rw [R.gr.hh a u e (f a ha).2.2] at z
    cases z
/-- x = e -/
def cSet (i : Nat) (ca : EC) : SC := fun r => ca r >>= fun t => .ret (.nx (r.set i (.fz t)))
def cSetO (i : Nat) (ca : EC) : SC := fun r => ca r >>= fun t => .ret (.nx (r.set i (.ow t)))
theorem cs_set (i : Nat) {x : Str} {p' : Pos} (hN : X.N.Nodup) (he : CE X w E e ca) (hi : X.N[i]? = some x := by rfl) (hx : Loc X.env.scope x := by first | exact Or.inl rfl | exact Or.inr rfl)
    (hs : swapsWith e (some (.Name x p')) pos.line X.env = pure false := by rfl) (hf : X.fn x = true ∨ X.env.scope.names.lookup x = some .local := by first | exact .inl rfl | exact .inr rfl | assumption) : CS X w E fr (.Assign [.Name x p'] e pos) (cSet i ca) := by
  refine ⟨psImp (ps_set hN hi hx he.pe hs hf) fun D σ H h => ?_⟩
  obtain ⟨H0, Z0, r, Z, o, R, h⟩ := h
  exact evSeqS R h fun x H1 Z1 a R1 g1 t1 h1 => h1 _ H1 Z1 _ (R1.setF i t1) (Sub.refl _)
/-! ### a slot's own thing is frozen -/
def frzS (i : Nat) (r : List Sl) : List Sl := match r[i]? with
  | some (.ow t) => r.set i (.fz t)
  | some (.dp kts) => r.set i (.fz (.dic kts))
  | _ => r
theorem EnvR.frzTo (R : EnvR X.km w H0 Z0 r σ H Z o) {i : Nat} (hr : i < r.length) {p : Addr} (ev : σ[i]'(R.len ▸ hr) = some (.ref p)) {t : T}
    (F : Fz (fun H2 => ∃ Z2, Grow w H0 Z0 H2 Z2 ∧ Sub Z Z2 ∧ Tr X.K X.mg w Z2 t (.ref p) ∧ (∀ a, a ∉ o i → Z2 a = Z a) ∧ ∀ a, a ∉ o i → H2 a = H a) H) :
    Fz (fun H2 => ∃ Z' o', EnvR X.km w H0 Z0 (r.set i (.fz t)) σ H2 Z' o' ∧ Sub Z Z' ∧ ∀ a ∈ w.W, H2 a = H a) H := by
  have hi : i < σ.length := R.len ▸ hr
  refine F.imp fun H2 ⟨Z2, g2, s2, tr, out, outH⟩ => ?_
  have keep : ∀ j a, a ∈ o j → j ≠ i → Z2 a = none := fun j a ha ne => by
    rw [out a (fun hb => ne (R.dis j i a ha hb))]
    exact (R.fr j a ha).2.1
  refine ⟨Z2, fun j => if j = i then [] else o j, ?_, s2, fun a ha => outH a (fun hb => (R.fr i a hb).2.2 ha)⟩
  refine ⟨g2, by rw [List.length_set]; exact R.len, fun j s x h1 h2 => ?_, fun j hj => ?_, fun j k a h1 h2 => ?_, fun j a ha => ?_, R.wo⟩
  · by_cases q : j = i
    · subst q
      rw [List.getElem?_set_self hr] at h1
      rw [List.getElem?_eq_getElem hi] at h2
      cases h1; cases h2
      exact ⟨if_pos rfl, _, ev, tr⟩
    · rw [List.getElem?_set_ne (Ne.symm q)] at h1
      simp only [if_neg q]
      exact (R.sl j s x h1 h2).move s2 fun a ha u h => by rw [outH a (fun hb => q (R.dis j i a ha hb))]; exact h
  · by_cases q : j = i
    · simp [q]
    · rw [List.length_set] at hj; simp only [if_neg q]; exact R.out j hj
  · by_cases e1 : j = i
    · simp [e1] at h1
    · by_cases e2 : k = i
      · simp [e2] at h2
      · simp only [if_neg e1] at h1; simp only [if_neg e2] at h2; exact R.dis j k a h1 h2
  · by_cases e1 : j = i
    · simp [e1] at ha
    · simp only [if_neg e1] at ha; exact ⟨(R.fr j a ha).1, keep j a ha e1, (R.fr j a ha).2.2⟩
/-- several own things at once -/
def Zq (qs : List Addr) (H Z : Hp) : Hp := fun a => if a ∈ qs then H a else Z a
theorem Grow.frzs {w : Wd} {H Z H' Z' : Hp} (g : Grow w H Z H' Z') {qs : List Addr} (f : ∀ a ∈ qs, H a = none ∧ Z' a = none ∧ a ∉ w.W) : Grow w H Z H' (Zq qs H' Z') := by
  refine ⟨⟨fun a o e => ?_, fun a ha => ?_, w.loc (fun _ _ => rfl) (fun a o e => by unfold Zq; rw [if_neg (fun hq => by rw [(f a hq).2.1] at e; cases e)]; exact e) g.good.wi⟩, fun a o e => ?_, fun a o e => ?_, g.hh⟩
  · unfold Zq at e
    split at e
    · exact e
    · exact g.good.zh a o e
  · unfold Zq
    rw [if_neg (fun hq => (f a hq).2.2 ha)]; exact g.good.zw a ha
  · have z := g.zz a o e
    unfold Zq
    rw [if_neg (fun hq => by rw [(f a hq).2.1] at z; cases z)]; exact z
  · unfold Zq at e
    split at e
    · rename_i hq; exact .inr (f a hq).1
    · exact g.new a o e
theorem Zq.sub {qs : List Addr} {H Z : Hp} (f : ∀ a ∈ qs, Z a = none) : Sub Z (Zq qs H Z) := fun a o e => by
  unfold Zq
  rw [if_neg (fun hq => by rw [f a hq] at e; cases e)]; exact e
theorem TrD.toTrd {K : PySem.W.Frag} {mg : Str → Option Value} {w : Wd} {Z H Z2 : Hp} (s : Sub Z Z2) : ∀ {kts : List (T × T)} {kvs : List (Key × V)} {qs : List Addr}, TrD K mg w Z H kts kvs qs → (∀ a ∈ qs, Z2 a = H a) → Trd K mg w Z2 kts kvs
  | _, _, _, .nil, _ => .nil
  | _, _, _, .cons k h l t r, f => .cons k (.lst (by rw [f _ (by simp)]; exact h) l (t.mono s)) (TrD.toTrd s r fun a ha => f a (by simp [ha]))
theorem Grow.frozenD {X : Km} {w : Wd} {H Z H' Z' : Hp} {kts : List (T × T)} {p : Addr} {o : List Addr} (g : Grow w H Z H' Z') (r : RootD X.K X.mg w Z' H' kts p o) (f : Fresh w H Z' o) :
    Fz (fun H2 => ∃ Z2, Grow w H Z H2 Z2 ∧ Sub Z' Z2 ∧ Tr X.K X.mg w Z2 (.dic kts) (.ref p) ∧ (∀ a, a ∉ o → Z2 a = Z' a) ∧ ∀ a, a ∉ o → H2 a = H' a) H' := by
  obtain ⟨qs, kvs, rfl, nd, hp, hl, tr⟩ := r
  have hpq : p ∉ qs := (List.nodup_cons.mp nd).1
  have s1 : Sub Z' (Zq qs H' Z') := Zq.sub fun a ha => (f a (by simp [ha])).2.1
  have z1 : Zq qs H' Z' p = none := by unfold Zq; rw [if_neg hpq]; exact (f p (by simp)).2.1
  have g1 := g.frzs (qs := qs) fun a ha => f a (by simp [ha])
  refine (g1.frozen (t := .dic kts) (p := p) (o := [p]) ⟨rfl, kvs, hp, hl, tr.toTrd s1 fun a ha => by unfold Zq; rw [if_pos ha]⟩ fun a ha => ?_).imp fun H2 ⟨Z2, g2, s2, t2, out, outH⟩ => ?_
  · simp at ha; subst ha
    exact ⟨(f a (by simp)).1, z1, (f a (by simp)).2.2⟩
  · refine ⟨Z2, g2, s1.trans s2, t2, fun a ha => ?_, fun a ha => outH a (by simp at ha ⊢; exact ha.1)⟩
    simp at ha
    rw [out a (by simp; exact ha.1)]
    unfold Zq
    rw [if_neg ha.2]
theorem EnvR.frz (R : EnvR X.km w H0 Z0 r σ H Z o) (i : Nat) : Fz (fun H2 => ∃ Z' o', EnvR X.km w H0 Z0 (frzS i r) σ H2 Z' o' ∧ Sub Z Z' ∧ ∀ a ∈ w.W, H2 a = H a) H := by
  unfold frzS
  cases e : r[i]? with
  | none => exact .inl ⟨Z, o, R, Sub.refl _, fun _ _ => rfl⟩
  | some s =>
    cases s with
    | un => exact .inl ⟨Z, o, R, Sub.refl _, fun _ _ => rfl⟩
    | fz t => exact .inl ⟨Z, o, R, Sub.refl _, fun _ _ => rfl⟩
    | me t => exact .inl ⟨Z, o, R, Sub.refl _, fun _ _ => rfl⟩
    | dq t => exact .inl ⟨Z, o, R, Sub.refl _, fun _ _ => rfl⟩
    | dd t => exact .inl ⟨Z, o, R, Sub.refl _, fun _ _ => rfl⟩
    | ow t =>
      have hr : i < r.length := (List.getElem?_eq_some_iff.mp e).1
      have hi : i < σ.length := R.len ▸ hr
      obtain ⟨p, ev, rt⟩ := R.sl i _ _ e (List.getElem?_eq_getElem hi)
      exact R.frzTo hr ev (R.gr.frozen rt (fun a ha => R.fr i a ha))
    | dp kts =>
      have hr : i < r.length := (List.getElem?_eq_some_iff.mp e).1
      have hi : i < σ.length := R.len ▸ hr
      obtain ⟨p, ev, rt⟩ := R.sl i _ _ e (List.getElem?_eq_getElem hi)
      exact R.frzTo hr ev (R.gr.frozenD rt (fun a ha => R.fr i a ha))
def cFrz (i : Nat) (c : SC) : SC := fun r => c (frzS i r)
theorem EvS.frz {i : Nat} (h : EvS X.km w E fr (cFrz i c) D σ H) : Fz (EvS X.km w E fr c D σ) H := by
  obtain ⟨H0, Z0, r, Z, o, R, h⟩ := h
  exact (R.frz i).imp fun H2 ⟨Z', o', R', s, _⟩ => ⟨H0, Z0, _, Z', o', R', G.wp_mono h (fun k q => PostS.weak s q) fun _ x => x⟩
theorem ps_lk {st : Stmt} {t : TS} (h : PS X st t) : PS X st (fun D σ H => Fz (t D σ) H) := by
  refine ⟨fun pins s σ H D I hw => ?_⟩
  rcases hw with q | ⟨d, u, hd, mu, q⟩
  · exact h.run pins s σ H D I q
  · obtain ⟨od, I2⟩ := I.lock hd mu
    exact h.run pins s σ _ D I2 (q od)
theorem pss_lk {sts : List Stmt} {t : TS} (h : PSs X sts t) : PSs X sts (fun D σ H => Fz (t D σ) H) := by
  refine ⟨fun pins s σ H D I hw => ?_⟩
  rcases hw with q | ⟨d, u, hd, mu, q⟩
  · exact h.run pins s σ H D I q
  · obtain ⟨od, I2⟩ := I.lock hd mu
    exact h.run pins s σ _ D I2 (q od)
theorem CS.frz (i : Nat) (h : CS X w E fr st c) : CS X w E fr st (cFrz i c) := ⟨psImp (ps_lk h.ps) fun _ _ _ q => q.frz⟩
theorem CSs.frz (i : Nat) (h : CSs X w E fr sts c) : CSs X w E fr sts (cFrz i c) := ⟨pssImp (pss_lk h.ps) fun _ _ _ q => q.frz⟩
theorem EnvR.off (R : EnvR X.km w H0 Z0 r σ H Z o) {H2 Z2 : Hp} {oo : List Addr} (g2 : Grow w H0 Z0 H2 Z2) (s2 : Sub Z Z2) (outZ : ∀ a, a ∉ oo → Z2 a = Z a) (outH : ∀ a, a ∉ oo → H2 a = H a) (dj : ∀ j a, a ∈ o j → a ∉ oo) : EnvR X.km w H0 Z0 r σ H2 Z2 o :=
  ⟨g2, R.len, fun i s x h1 h2 => (R.sl i s x h1 h2).move s2 fun a ha u h => by rw [outH a (dj i a ha)]; exact h, R.out, R.dis, fun i a ha => ⟨(R.fr i a ha).1, by rw [outZ a (dj i a ha)]; exact (R.fr i a ha).2.1, (R.fr i a ha).2.2⟩, R.wo⟩
/-! ### targets: S the slots that are stored -/
abbrev GC := T → List Sl → G (List Sl)
def Off (S : List Nat) (σ σ' : L2.St) : Prop := σ'.length = σ.length ∧ ∀ j, j ∉ S → σ'[j]? = σ[j]?
theorem Off.refl (S : List Nat) (σ : L2.St) : Off S σ σ := ⟨rfl, fun _ _ => rfl⟩
theorem Off.set (i : Nat) (σ : L2.St) (v : Option V) : Off [i] σ (σ.set i v) := ⟨List.length_set, fun j hj => List.getElem?_set_ne (fun e => hj (by simp [e]))⟩
theorem Off.trans {S S' : List Nat} {a b c : L2.St} (h : Off S a b) (h' : Off S' b c) : Off (S ++ S') a c := ⟨h'.1.trans h.1, fun j hj => by
  simp only [List.mem_append, not_or] at hj
  exact (h'.2 j hj.2).trans (h.2 j hj.1)⟩
def EvG (X : Km) (w : Wd) (E : XK) (S : List Nat) (g : GC) : TG := fun v σ H Q => ∃ H0 Z0 r Z o t, EnvR X.km w H0 Z0 r σ H Z o ∧ Tr X.K X.mg w Z t v ∧ (g t r).wp (fun r' => ∀ σ' H' Z' o', EnvR X.km w H0 Z0 r' σ' H' Z' o' → Grow w H Z H' Z' → Off S σ σ' → Q σ' H') (PostX X.km w E H0 Z0)
structure CG (X : Cx) (w : Wd) (E : XK) (tg : Expr) (S : List Nat) (g : GC) : Prop where
  pg : PG X tg (EvG X.km w E S g)
theorem pgImp {tg : Expr} {t t' : TG} (h : PG X tg t) (f : ∀ v σ H Q, t' v σ H Q → t v σ H Q) : PG X tg t' := ⟨fun pins s σ H v u Q I r hw => h.run pins s σ H v u Q I r (f v σ H Q hw)⟩
def gcName (i : Nat) : GC := fun t r => .ret (r.set i (.fz t))
theorem cg_name (i : Nat) {x : Str} (hN : X.N.Nodup) (hi : X.N[i]? = some x := by rfl) (hx : Loc X.env.scope x := by first | exact Or.inl rfl | exact Or.inr rfl) (hf : X.fn x = true ∨ X.env.scope.names.lookup x = some .local := by first | exact .inl rfl | exact .inr rfl | assumption) : CG X w E (.Name x pos) [i] (gcName i) :=
  ⟨pgImp (pg_name hN hi hx hf) fun v σ H Q ⟨H0, Z0, r, Z, o, t, R, tr, h⟩ => h _ H Z _ (R.setF i tr) (Grow.refl R.good) (Off.set i σ _)⟩
abbrev GCs := List T → List Sl → G (List Sl)
def EvGs (X : Km) (w : Wd) (E : XK) (S : List Nat) (g : GCs) : TGs := fun vs σ H Q => ∃ H0 Z0 r Z o ts, EnvR X.km w H0 Z0 r σ H Z o ∧ Trs X.K X.mg w Z ts vs ∧ (g ts r).wp (fun r' => ∀ σ' H' Z' o', EnvR X.km w H0 Z0 r' σ' H' Z' o' → Grow w H Z H' Z' → Off S σ σ' → Q σ' H') (PostX X.km w E H0 Z0)
structure CGs (X : Cx) (w : Wd) (E : XK) (tgs : List Expr) (S : List Nat) (g : GCs) : Prop where
  pg : PGs X tgs (EvGs X.km w E S g)
theorem pgsImp {tg : List Expr} {t t' : TGs} (h : PGs X tg t) (f : ∀ v σ H Q, t' v σ H Q → t v σ H Q) : PGs X tg t' := ⟨fun pins s σ H v u Q I r hw => h.run pins s σ H v u Q I r (f v σ H Q hw)⟩
def gcsNil : GCs := fun ts r => match ts with | [] => .ret r | _ => .stuck
def gcsCons (g : GC) (gs : GCs) : GCs := fun ts r => match ts with | t :: ts => g t r >>= gs ts | [] => .stuck
theorem cgs_nil : CGs X w E [] [] gcsNil := ⟨pgsImp pgs_nil fun vs σ H Q ⟨H0, Z0, r, Z, o, ts, R, tr, h⟩ => by
  cases tr with
  | nil => exact ⟨rfl, h σ H Z o R (Grow.refl R.good) (Off.refl _ _)⟩
  | cons => exact h.elim⟩
theorem cgs_cons {tg : Expr} {tgs : List Expr} {S S' : List Nat} {g : GC} {gs : GCs} (h1 : CG X w E tg S g) (h2 : CGs X w E tgs S' gs) (hs : (assignEach (tg :: tgs) X.env).map (·.2) = assign tg X.env :: (assignEach tgs X.env).map (·.2) := by rfl) : CGs X w E (tg :: tgs) (S ++ S') (gcsCons g gs) :=
  ⟨pgsImp (pgs_cons h1.pg h2.pg hs) fun vs σ H Q ⟨H0, Z0, r, Z, o, ts, R, tr, h⟩ => by
    cases tr with
    | nil => exact h.elim
    | cons t1 t2 =>
      refine ⟨_, _, rfl, H0, Z0, r, Z, o, _, R, t1, G.wp_mono (G.wp_bind.mp h) (fun r1 h1 σ1 H1 Z1 o1 R1 g1 f1 => ?_) fun _ x => x⟩
      exact ⟨H0, Z0, r1, Z1, o1, _, R1, t2.mono g1.zz, G.wp_mono h1 (fun r2 h2 σ2 H2 Z2 o2 R2 g2 f2 => h2 σ2 H2 Z2 o2 R2 (g1.trans g2) (f1.trans f2)) fun _ x => x⟩⟩
def gcTup (n : Nat) (gs : GCs) : GC := fun t r => match t with
  | .tup ts => if ts.length = n then gs ts r else .stuck
  | .lst ts => if ts.length = n then gs ts r else .stuck
  | _ => .stuck
/-- a tuple or a list is taken apart -/
def gTL (K : PySem.W.Frag) (n : Nat) (t : TGs) : TG := fun v σ H Q => ∃ a xs, v = .ref a ∧ (SqT K H a xs ∨ SqL K H a xs) ∧ xs.length = n ∧ t xs σ H Q
theorem pg_tl {es : List Expr} {k : Nat} {t : TGs} {n : Nat} (hc : X.calm = true) (h : PGs X es t)
    (hn : (assignEach es X.env).length = n := by rfl) (hst : (assignEach es X.env).findIdx? (·.1) = none := by rfl) : PG X (.Tuple es k pos) (gTL X.K n t) :=
  ⟨fun pins s σ H v u Q I r hw => by
    obtain ⟨a, xs, e1, hq | hq, hl, hw⟩ := hw
    · exact (pg_tup hc h hn hst).run pins s σ H v u Q I r ⟨a, xs, e1, hq, hl, hw⟩
    · exact (pg_unl hc h hn hst).run pins s σ H v u Q I r ⟨a, xs, e1, hq, hl, hw⟩⟩
theorem Good.sqT {K : PySem.W.Frag} (g : Good w H Z) {a : Addr} {xs : List V} (h : SqT K Z a xs) : SqT K H a xs := Sub.sqT g.zh h
theorem Good.sqL {K : PySem.W.Frag} (g : Good w H Z) {a : Addr} {xs : List V} (h : SqL K Z a xs) : SqL K H a xs := Sub.sqL g.zh h
theorem cg_tup {tgs : List Expr} {k : Nat} {S : List Nat} {gs : GCs} {n : Nat} (h : CGs X w E tgs S gs) (hc : X.calm = true := by rfl) (hn : (assignEach tgs X.env).length = n := by rfl) (hst : (assignEach tgs X.env).findIdx? (·.1) = none := by rfl) : CG X w E (.Tuple tgs k pos) S (gcTup n gs) :=
  ⟨pgImp (pg_tl hc h.pg hn hst) fun v σ H Q ⟨H0, Z0, r, Z, o, t, R, tr, h⟩ => by
    cases tr with
    | @tup ts p vs hq hz hts =>
      have h' : (if ts.length = n then gs ts r else .stuck).wp _ _ := h
      by_cases e : ts.length = n
      · rw [if_pos e] at h'
        exact ⟨p, vs, rfl, .inl (R.good.sqT hq), by rw [← hts.length, e], H0, Z0, r, Z, o, ts, R, hts, h'⟩
      · rw [if_neg e] at h'; exact h'.elim
    | @lst ts p vs hq hz hts =>
      have h' : (if ts.length = n then gs ts r else .stuck).wp _ _ := h
      by_cases e : ts.length = n
      · rw [if_pos e] at h'
        exact ⟨p, vs, rfl, .inr (SqL.of (R.good.zh _ _ hq)), by rw [← hts.length, e], H0, Z0, r, Z, o, ts, R, hts, h'⟩
      · rw [if_neg e] at h'; exact h'.elim
    | _ => exact h.elim⟩
/-- target = e -/
def cAsg (g : GC) (ca : EC) : SC := fun r => ca r >>= fun t => g t r >>= fun r' => .ret (.nx r')
end
end TL
end s_TL4
section s_TL5
set_option Elab.async false
set_option linter.all false
set_option maxRecDepth 100000
set_option maxHeartbeats 4000000
/-! TL5: what is walked, for, while, comprehensions -/
namespace TL
open PySem PySem.Spec PyProof.Rows L2
def IterOk (X : Km) (w : Wd) (J : It) (ts : List T) (Zs : Hp) : Prop := ∀ (i : Nat) H Z, Sub Zs Z → Good w H Z →
  (∀ t, ts[i]? = some t → J.go i H ∧ ∀ x H', J.yld i H x H' → ∃ Z', Grow w H Z H' Z' ∧ Tr X.K X.mg w Z' t x) ∧ (ts.length = i → J.stop i H)
def EvI (X : Km) (w : Wd) (E : XK) (c : List Sl → G (List T)) : TI := fun σ H R => ∃ H0 Z0 r Z o, EnvR X.km w H0 Z0 r σ H Z o ∧
  (c r).wp (fun ts => ∀ J H' Z', Grow w H Z H' Z' → ts.length ≤ sizeLine → IterOk X.km w J ts Z' → R J H') (PostX X.km w E H0 Z0)
structure CI (X : Cx) (w : Wd) (E : XK) (tg iter : Expr) (c : List Sl → G (List T)) : Prop where
  pi : PI X tg iter (EvI X.km w E c)
section
variable {X : Cx} {w : Wd} {E : XK} {fr : Bool} {tg iter l e : Expr} {body : List Stmt} {pos : Pos} {ca : EC} {ci : List Sl → G (List T)} {g : GC} {S : List Nat} {c : SC}
variable {H0 Z0 H Z Z1 : Hp} {r : List Sl} {σ : L2.St} {o : Nat → List Addr} {D : Ends}
theorem piImp {t t' : TI} (h : PI X tg iter t) (f : ∀ σ H R, t' σ H R → t σ H R) : PI X tg iter t' := ⟨fun pins s σ H R I hw => h.run pins s σ H R I (f σ H R hw)⟩
theorem iter_list {a : Addr} {ts : List T} {vs : List V} {Zs : Hp} (h : Zs a = some (.lst vs)) (tr : Trs X.K X.mg w Zs ts vs) : IterOk X.km w (Itl X.K a) ts Zs := fun i H Z s g => by
  have q : SqL X.K H a vs := SqL.of (g.zh _ _ (s _ _ h))
  refine ⟨fun t ht => ?_, fun hl => ⟨vs, q, by rw [← tr.length]; exact Nat.le_of_eq hl⟩⟩
  obtain ⟨v, hv, tv⟩ := tr.get ht
  refine ⟨⟨vs, v, q, hv⟩, fun x H' y => ?_⟩
  obtain ⟨rfl, y⟩ := y
  have e := y vs q
  rw [hv] at e
  cases e
  exact ⟨Z, Grow.refl g, tv.mono s⟩
theorem iter_tup {a : Addr} {ts : List T} {vs : List V} {Zs : Hp} (h : SqT X.K Zs a vs) (tr : Trs X.K X.mg w Zs ts vs) : IterOk X.km w (Itt X.K a) ts Zs := fun i H Z s g => by
  have q : SqT X.K H a vs := g.sqT (s.sqT h)
  refine ⟨fun t ht => ?_, fun hl => ⟨vs, q, by rw [← tr.length]; exact Nat.le_of_eq hl⟩⟩
  obtain ⟨v, hv, tv⟩ := tr.get ht
  refine ⟨⟨vs, v, q, hv⟩, fun x H' y => ?_⟩
  obtain ⟨rfl, y⟩ := y
  have e := y vs q
  rw [hv] at e
  cases e
  exact ⟨Z, Grow.refl g, tv.mono s⟩
/-- a list or a tuple, whichever it is -/
def iSeq (K : PySem.W.Frag) (tl : TE) : TI := fun σ H R => tl σ H fun x H1 => ∃ a, x = .ref a ∧ (((∃ xs, SqL K H1 a xs) ∧ R (Itl K a) H1) ∨ ((∃ xs, SqT K H1 a xs) ∧ R (Itt K a) H1))
def seqOf : T → G (List T)
  | .lst ts => .ret ts
  | .tup ts => .ret ts
  | _ => .stuck
theorem evSeqI {k : T → G (List T)} {P : List T → Prop} {R' : V → Hp → Prop} (R : EnvR X.km w H0 Z0 r σ H Z o) {Q : It → Hp → Prop}
    (h : (ca r >>= k).wp (fun ts => ∀ J H' Z', Grow w H Z H' Z' → ts.length ≤ sizeLine → IterOk X.km w J ts Z' → Q J H') (PostX X.km w E H0 Z0))
    (fin : ∀ x H1 Z1 a, EnvR X.km w H0 Z0 r σ H1 Z1 o → Grow w H Z H1 Z1 → Tr X.K X.mg w Z1 a x → (k a).wp (fun ts => ∀ J H' Z', Grow w H1 Z1 H' Z' → ts.length ≤ sizeLine → IterOk X.km w J ts Z' → Q J H') (PostX X.km w E H0 Z0) → R' x H1) : EvE X.km w E ca σ H R' :=
  evSeq (P := fun H Z => fun ts => ∀ J H' Z', Grow w H Z H' Z' → ts.length ≤ sizeLine → IterOk X.km w J ts Z' → Q J H') (PX := fun _ => True) R (fun g h J H' Z' g' => h J H' Z' (g.trans g')) h fin
/-! ### for -/
def forG (g : GC) (c : SC) : List T → List Sl → G Ctl
  | [], r => .ret (.nx r)
  | t :: ts, r => g t r >>= fun r1 => c r1 >>= fun k => match k with
    | .nx r2 => forG g c ts r2
    | .ct r2 => forG g c ts r2
    | .bk r2 => .ret (.nx r2)
    | .rt t => .ret (.rt t)
    | .rm t r2 => .ret (.rm t r2)
def cFor (ci : List Sl → G (List T)) (g : GC) (c : SC) : SC := fun r => ci r >>= fun ts => forG g c ts r
theorem cs_for (hp : PassesOwn (model X.prog X.w) X.A X.env X.xe) (hi : CI X w E tg iter ci) (hg : CG X w E tg S g) (hb : CSs X w E fr body c) (hc : X.calm = true := by rfl) (hs : ∀ x, foldedSetIterable iter X.env x = pure x := by intro _; rfl) :
    CS X w E fr (.For tg iter body [] pos) (cFor ci g c) := by
  refine ⟨psImp (ps_for hp hc hi.pi hg.pg hb.ps hs) fun D σ H h => ?_⟩
  obtain ⟨H0, Z0, r, Z, o, R, h⟩ := h
  refine ⟨H0, Z0, r, Z, o, R, G.wp_mono (G.wp_bind.mp h) (fun ts ht J H1 Z1 g1 hz iok => ?_) fun _ x => x⟩
  refine ⟨fun i m σ H => m = ts.length - i ∧ i ≤ ts.length ∧ ∃ r Z2 o, EnvR X.km w H0 Z0 r σ H Z2 o ∧ Sub Z1 Z2 ∧ (forG g c (ts.drop i) r).wp (PostS X.km w fr H0 Z0 Z D) (PostX X.km w E H0 Z0),
    ⟨ts.length, by simp, Nat.zero_le _, r, Z1, o, R.grow g1, Sub.refl _, ht⟩, ?_⟩
  rintro i m σ2 H2 ⟨rfl, hi, r2, Z2, o2, R2, s2, h2⟩
  obtain ⟨go, stop⟩ := iok i H2 Z2 s2 R2.good
  by_cases hlt : i < ts.length
  · obtain ⟨hgo, yld⟩ := go _ (List.getElem?_eq_getElem hlt)
    rw [List.drop_eq_getElem_cons hlt] at h2
    refine .inr ⟨hgo, fun σ' H' => ∃ r Z' o, EnvR X.km w H0 Z0 r σ' H' Z' o ∧ Sub Z1 Z' ∧ (forG g c (ts.drop (i + 1)) r).wp (PostS X.km w fr H0 Z0 Z D) (PostX X.km w E H0 Z0), fun σ' H' n => ⟨ts.length - (i + 1), by omega, rfl, hlt, n⟩, fun x H3 y => ?_⟩
    obtain ⟨Z3, g3, t3⟩ := yld x H3 y
    refine ⟨H0, Z0, r2, Z3, o2, _, R2.grow g3, t3, G.wp_mono (G.wp_bind.mp h2) (fun r4 h4 σ4 H4 Z4 o4 R4 g4 _ => ?_) fun _ x => x⟩
    refine ⟨H0, Z0, r4, Z4, o4, R4, G.wp_mono (G.wp_bind.mp h4) (fun k hk => ?_) fun _ x => x⟩
    have s4 : Sub Z1 Z4 := (s2.trans g3.zz).trans g4.zz
    cases k with
    | nx r5 => exact fun σ5 H5 Z5 o5 R5 s5 => ⟨r5, Z5, o5, R5, s4.trans s5, hk⟩
    | ct r5 => exact fun σ5 H5 Z5 o5 R5 s5 => ⟨r5, Z5, o5, R5, s4.trans s5, hk⟩
    | bk r5 => exact fun σ5 H5 Z5 o5 R5 s5 => hk σ5 H5 Z5 o5 R5 ((g1.zz.trans s4).trans s5)
    | rt t => exact hk
    | rm t r5 => exact fun σ5 H5 Z5 o5 v R5 s5 => hk σ5 H5 Z5 o5 v R5 ((g1.zz.trans s4).trans s5)
  · have e : i = ts.length := by omega
    subst e
    rw [List.drop_length] at h2
    exact .inl ⟨stop rfl, h2 σ2 H2 Z2 o2 R2 (g1.zz.trans s2)⟩

/-! ### while -/
def whileG (tc : List Sl → G Bool) (c : SC) : Nat → List Sl → G Ctl
  | 0, _ => .stuck
  | n + 1, r => tc r >>= fun b => if b then (c r >>= fun k => match k with
    | .nx r2 => whileG tc c n r2
    | .ct r2 => whileG tc c n r2
    | .bk r2 => .ret (.nx r2)
    | .rt t => .ret (.rt t)
    | .rm t r2 => .ret (.rm t r2)) else .ret (.nx r)
end
end TL
end s_TL5
section s_TL6
set_option Elab.async false
set_option linter.all false
set_option maxRecDepth 100000
set_option maxHeartbeats 4000000
/-! TL6: comprehensions -/
namespace TL
open PySem PySem.Spec PyProof.Rows L2
/-- nothing may be raised here -/
def G.nox {α : Type} : G α → G α
  | .ret a => .ret a
  | .exc _ => .stuck
  | .stuck => .stuck
  | .pick n k => .pick n fun i => (k i).nox
  | .any k => .any fun l => (k l).nox
theorem G.wp_nox {α : Type} {m : G α} {Q : α → Prop} {E E' : T → Prop} (h : m.nox.wp Q E) : m.wp Q E' := by
  induction m with
  | ret a => exact h
  | exc e => exact h.elim
  | stuck => exact h
  | pick n k ih => exact fun i hi => ih i (h i hi)
  | any k ih => exact fun l => ih l (h l)
def compG (g : GC) (tt : List Sl → G Bool) (te : EC) : List T → List Sl → G (List T)
  | [], _ => .ret []
  | t :: ts, r => (g t r).nox >>= fun r1 => (tt r1).nox >>= fun b => if b then ((te r1).nox >>= fun y => compG g tt te ts r >>= fun ys => .ret (y :: ys)) else compG g tt te ts r
def wipeR (r : List Sl) : List Nat → List Sl
  | [] => r
  | v :: vs => (wipeR r vs).set v .un
def cComp (ci : List Sl → G (List T)) (g : GC) (tt : List Sl → G Bool) (te : EC) (vs : List Nat) : EC := fun r => ci r >>= fun ts => compG g tt te ts (wipeR r vs) >>= fun ys => .ret (.lst ys)
structure CTs (X : Cx) (w : Wd) (E : XK) (ifs : List Expr) (c : List Sl → G Bool) : Prop where
  pt : PTs X ifs (EvT X.km w E c)
section
variable {X : Cx} {w : Wd} {E : XK} {fr : Bool} {tg iter l e elt : Expr} {ifs : List Expr} {pos : Pos} {ca te : EC} {ci : List Sl → G (List T)} {g : GC} {S : List Nat} {tt : List Sl → G Bool}
variable {H0 Z0 H Z Z1 : Hp} {r : List Sl} {σ σ' : L2.St} {o : Nat → List Addr}
theorem ptsImp {t t' : TT} (h : PTs X ifs t) (f : ∀ σ H Q, t' σ H Q → t σ H Q) : PTs X ifs t' := ⟨fun pins s σ H Q I hw => h.run pins s σ H Q I (f σ H Q hw)⟩
theorem cts_nil : CTs X w E [] (fun _ => .ret true) := ⟨ptsImp pts_nil fun σ H Q ⟨H0, Z0, r, Z, o, R, h⟩ => h H Z (Grow.refl R.good)⟩
theorem cts_one (h : CT X w E e tt) : CTs X w E [e] tt := ⟨pts_one h.pt⟩
/-- a slot is forgotten -/
theorem EnvR.unset (R : EnvR X.km w H0 Z0 r σ H Z o) (i : Nat) : EnvR X.km w H0 Z0 (r.set i .un) (σ.set i none) H Z (fun j => if j = i then [] else o j) := by
  refine ⟨R.gr, by rw [List.length_set, List.length_set]; exact R.len, fun j s x h1 h2 => ?_, fun j hj => ?_, fun j k a h1 h2 => ?_, fun j a ha => ?_, R.wo⟩
  · by_cases e : j = i
    · subst e
      have hj : j < r.length := by
        have := (List.getElem?_eq_some_iff.mp h1).1
        rwa [List.length_set] at this
      rw [List.getElem?_set_self hj] at h1
      cases h1
      exact if_pos rfl
    · rw [List.getElem?_set_ne (Ne.symm e)] at h1 h2
      simp only [if_neg e]
      exact R.sl j s x h1 h2
  · by_cases e : j = i
    · simp [e]
    · rw [List.length_set] at hj; simp only [if_neg e]; exact R.out j hj
  · by_cases e1 : j = i
    · simp [e1] at h1
    · by_cases e2 : k = i
      · simp [e2] at h2
      · simp only [if_neg e1] at h1; simp only [if_neg e2] at h2; exact R.dis j k a h1 h2
  · by_cases e1 : j = i
    · simp [e1] at ha
    · simp only [if_neg e1] at ha; exact R.fr j a ha
theorem EnvR.wipe (R : EnvR X.km w H0 Z0 r σ H Z o) : ∀ vs : List Nat, ∃ o', EnvR X.km w H0 Z0 (wipeR r vs) (L2.wipe σ vs) H Z o'
  | [] => ⟨o, R⟩
  | v :: vs => let ⟨o', R'⟩ := EnvR.wipe R vs; ⟨_, R'.unset v⟩
theorem wipe_get (σ : L2.St) (j : Nat) : ∀ {vs : List Nat}, j ∉ vs → (L2.wipe σ vs)[j]? = σ[j]?
  | [], _ => rfl
  | v :: vs, h => by
    simp only [List.mem_cons, not_or] at h
    show ((L2.wipe σ vs).set v none)[j]? = _
    rw [List.getElem?_set_ne (Ne.symm h.1)]
    exact wipe_get σ j h.2
theorem wipe_in (σ : L2.St) (j : Nat) : ∀ {vs : List Nat}, j ∈ vs → j < σ.length → (L2.wipe σ vs)[j]? = some none
  | v :: vs, h, hj => by
    show ((L2.wipe σ vs).set v none)[j]? = _
    by_cases e : v = j
    · subst e; exact List.getElem?_set_self (by rw [wipe_length]; exact hj)
    · rw [List.getElem?_set_ne e]
      exact wipe_in σ j ((List.mem_cons.mp h).resolve_left (Ne.symm e)) hj
theorem wipe_off {vs : List Nat} (h : Off S (L2.wipe σ vs) σ') (hS : ∀ j ∈ S, j ∈ vs) : L2.wipe σ' vs = L2.wipe σ vs := by
  have hl : σ'.length = σ.length := by rw [h.1, wipe_length]
  apply List.ext_getElem?
  intro j
  by_cases hj : j ∈ vs
  · by_cases hlt : j < σ.length
    · rw [wipe_in σ j hj hlt, wipe_in σ' j hj (by omega)]
    · rw [List.getElem?_eq_none (by rw [wipe_length]; omega), List.getElem?_eq_none (by rw [wipe_length]; omega)]
  · rw [wipe_get σ' j hj, h.2 j (fun z => hj (hS j z))]
/-- a thing beside the slots is written -/
theorem EnvR.beside (R : EnvR X.km w H0 Z0 r σ H Z o) {a : Addr} {u : HO} (h0 : H0 a = none) (hz : Z a = none) (hw : a ∉ w.W) (ho : ∀ i, a ∉ o i) : EnvR X.km w H0 Z0 r σ (upd H a u) Z o := by
  have hs : Sub Z (upd H a u) := fun b v e => by
    have ne : b ≠ a := fun q => by rw [q, hz] at e; cases e
    rw [upd_ne ne]; exact R.good.zh b v e
  refine ⟨⟨⟨hs, R.good.zw, w.loc (fun b hb => upd_ne (fun q => hw (q ▸ hb))) (Sub.refl _) R.good.wi⟩, R.gr.zz, R.gr.new, fun b v e hb => ?_⟩, R.len, fun i s x h1 h2 => (R.sl i s x h1 h2).move (Sub.refl _) fun b hb v e => ?_, R.out, R.dis, R.fr, R.wo⟩
  · have ne : b ≠ a := fun q => by rw [q, h0] at e; cases e
    rw [upd_ne ne]; exact R.gr.hh b v e hb
  · have ne : b ≠ a := fun q => ho i (q ▸ hb)
    rw [upd_ne ne]; exact e
theorem Grow.beside {H' Z' : Hp} (g : Grow w H Z H' Z') {a : Addr} {u : HO} (h0 : H a = none) (hz : Z' a = none) (hw : a ∉ w.W) : Grow w H Z (upd H' a u) Z' := by
  refine ⟨⟨fun b v e => ?_, g.good.zw, w.loc (fun b hb => upd_ne (fun q => hw (q ▸ hb))) (Sub.refl _) g.good.wi⟩, g.zz, g.new, fun b v e hb => ?_⟩
  · have ne : b ≠ a := fun q => by rw [q, hz] at e; cases e
    rw [upd_ne ne]; exact g.good.zh b v e
  · have ne : b ≠ a := fun q => by rw [q, h0] at e; cases e
    rw [upd_ne ne]; exact g.hh b v e hb
theorem Grow.free {H' Z' : Hp} (g : Grow w H Z H' Z') {a : Addr} (h : Z a = none) (hh : H a ≠ none) : Z' a = none := by
  cases e : Z' a with
  | none => rfl
  | some u =>
    rcases g.new a u e with q | q
    · rw [h] at q; cases q
    · exact absurd q hh

theorem comp_core {vs : List Nat} {Q : VK} (R : EnvR X.km w H0 Z0 r σ H Z o) (hS : ∀ j ∈ S, j ∈ vs)
    (h : (cComp ci g tt te vs r).wp (PostF X.km w H Z Q) (PostX X.km w E H0 Z0)) :
    tLc (EvI X.km w E ci) (EvG X.km w (fun _ _ _ => False) S g) (EvT X.km w (fun _ _ _ => False) tt) (EvE X.km w (fun _ _ _ => False) te) vs σ H Q := by
  refine ⟨H0, Z0, r, Z, o, R, G.wp_mono (G.wp_bind.mp h) (fun ts ht J H1 Z1 g1 hz iok D hD => ?_) fun _ x => x⟩
  have R1 := R.grow g1
  obtain ⟨oi, Ri⟩ := R1.wipe vs
  have hDz : Z1 D = none := R1.good.tracked hD
  have hDw : D ∉ w.W := fun hm => R1.good.nw hD D hm rfl
  have hD0 : H0 D = none := by
    cases e : H0 D with
    | none => rfl
    | some u => have z := R1.gr.hh D u e hDw; rw [hD] at z; cases z
  have hDo : ∀ i, D ∉ oi i := fun i hm => Ri.tr i D hm hD
  refine ⟨fun i m H => m = ts.length - i ∧ i ≤ ts.length ∧ ∃ Z2 acc vacc, EnvR X.km w H0 Z0 (wipeR r vs) (L2.wipe σ vs) H Z2 oi ∧ Grow w H1 Z1 H Z2 ∧ H D = some (.lst vacc) ∧ Z2 D = none ∧ vacc.length ≤ i ∧ Trs X.K X.mg w Z2 acc vacc ∧
      (compG g tt te (ts.drop i) (wipeR r vs) >>= fun ys => G.ret (T.lst (acc ++ ys))).wp (PostF X.km w H1 Z1 Q) (PostX X.km w E H0 Z0),
    ⟨ts.length, by simp, Nat.zero_le _, Z1, [], [], Ri.beside hD0 hDz hDw hDo, Grow.beside (Grow.refl R1.good) hD hDz hDw, upd_same, hDz, Nat.zero_le _, .nil, G.wp_mono ht (fun t q => PostF.weak g1 q) fun _ x => x⟩, ?_⟩
  rintro i m H2 ⟨rfl, hi, Z2, acc, vacc, R2, g2, hD2, hDz2, hl2, tr2, h2⟩
  obtain ⟨go, stop⟩ := iok i H2 Z2 g2.zz R2.good
  by_cases hlt : i < ts.length
  · obtain ⟨hgo, yld⟩ := go _ (List.getElem?_eq_getElem hlt)
    rw [List.drop_eq_getElem_cons hlt] at h2
    refine .inr ⟨hgo, fun H' => ∃ Z2 acc vacc, EnvR X.km w H0 Z0 (wipeR r vs) (L2.wipe σ vs) H' Z2 oi ∧ Grow w H1 Z1 H' Z2 ∧ H' D = some (.lst vacc) ∧ Z2 D = none ∧ vacc.length ≤ i + 1 ∧ Trs X.K X.mg w Z2 acc vacc ∧
      (compG g tt te (ts.drop (i + 1)) (wipeR r vs) >>= fun ys => G.ret (T.lst (acc ++ ys))).wp (PostF X.km w H1 Z1 Q) (PostX X.km w E H0 Z0), fun H' n => ⟨ts.length - (i + 1), by omega, rfl, hlt, n⟩, fun x H3 y => ?_⟩
    obtain ⟨Z3, g3, t3⟩ := yld x H3 y
    have R3 := R2.grow g3
    have h3 := G.wp_nox (E' := PostX X.km w (fun _ _ _ => False) H0 Z0) (G.wp_bind.mp (G.wp_bind.mp h2))
    refine ⟨H0, Z0, _, Z3, oi, _, R3, t3, G.wp_mono h3 (fun r4 h4 σ4 H4 Z4 o4 R4 g4 off => ⟨wipe_off off hS, ?_⟩) fun _ x => x⟩
    have h5 := G.wp_nox (E' := PostX X.km w (fun _ _ _ => False) H0 Z0) (G.wp_bind.mp h4)
    refine ⟨H0, Z0, r4, Z4, o4, R4, G.wp_mono h5 (fun b hb H5 Z5 g5 => ?_) fun _ x => x⟩
    have g25 : Grow w H2 Z2 H5 Z5 := (g3.trans g4).trans g5
    cases b with
    | false =>
      refine iteF ⟨Z5, acc, vacc, R2.grow g25, g2.trans g25, g25.hh D _ hD2 hDw, g25.free hDz2 (by rw [hD2]; simp), by omega, tr2.mono g25.zz, G.wp_bind.mpr hb⟩
    | true =>
      refine iteT ?_
      have h6 := G.wp_nox (E' := PostX X.km w (fun _ _ _ => False) H0 Z0) (G.wp_bind.mp hb)
      refine ⟨H0, Z0, r4, Z5, o4, R4.grow g5, G.wp_mono h6 (fun t ht' v H6 Z6 g6 t6 => ?_) fun _ x => x⟩
      have g26 : Grow w H2 Z2 H6 Z6 := g25.trans g6
      have hD6 : H6 D = some (.lst vacc) := g26.hh D _ hD2 hDw
      have hDz6 : Z6 D = none := g26.free hDz2 (by rw [hD2]; simp)
      refine ⟨vacc, hD6, by omega, Z6, acc ++ [t], vacc ++ [v], (R2.grow g26).beside hD0 hDz6 hDw hDo, (g2.trans g26).beside hD hDz6 hDw, upd_same, hDz6, by simp; omega, (tr2.mono g26.zz).append (.cons t6 .nil), ?_⟩
      refine G.wp_bind.mpr (G.wp_mono (G.wp_bind.mp ht') (fun ys hy => ?_) fun _ x => x)
      have e : acc ++ [t] ++ ys = acc ++ t :: ys := by simp
      rw [e]
      exact hy
  · have e : i = ts.length := by omega
    subst e
    rw [List.drop_length] at h2
    refine .inl ⟨stop rfl, ?_⟩
    have h3 : PostF X.km w H1 Z1 Q (T.lst (acc ++ [])) := h2
    rw [List.append_nil] at h3
    refine h3 D [D] H2 Z2 g2 ⟨rfl, vacc, hD2, Nat.le_trans hl2 hz, tr2⟩ fun a ha => ?_
    simp at ha; subst ha
    exact ⟨hD, hDz2, hDw⟩
theorem cf_comp {scope : Scope} {own : List (Str × Nat)} (hN : X.N.Nodup) (hi : CI X w E tg iter ci) (ok : BlkOk X.N X.env.scope scope own)
    (hg : ∀ (s : Shared) (H : Hp) (C : Addr) (cl : List (Str × Addr)) (fp : List Addr), CG (X.blk s H scope (compEnvC scope cl C X.env) fp) w (fun _ _ _ => False) tg S g) (ht : ∀ (s : Shared) (H : Hp) (C : Addr) (cl : List (Str × Addr)) (fp : List Addr), CTs (X.blk s H scope (compEnvC scope cl C X.env) fp) w (fun _ _ _ => False) ifs tt)
    (he : ∀ (s : Shared) (H : Hp) (C : Addr) (cl : List (Str × Addr)) (fp : List Addr), CE (X.blk s H scope (compEnvC scope cl C X.env) fp) w (fun _ _ _ => False) elt te) (hc : X.calm = true := by rfl) (hs : ∀ x, foldedSetIterable iter X.env x = pure x := by intro _; rfl)
    (hS : ∀ j ∈ S, j ∈ own.map (·.2) := by decide) : CF X w E (.ListComp elt [⟨tg, iter, ifs, 0⟩] scope pos) (cComp ci g tt te (own.map (·.2))) :=
  ⟨peImp (pe_lc hc hN hi.pi ok (fun s H C cl fp => (hg s H C cl fp).pg) (fun s H C cl fp => (ht s H C cl fp).pt) (fun s H C cl fp => (he s H C cl fp).pe) hs) fun σ H Q ⟨H0, Z0, r, Z, o, R, h⟩ => comp_core R hS h⟩
/-- name = [..] -/
theorem cs_setComp {i : Nat} {y : Str} {py spos : Pos} {scope : Scope} {own : List (Str × Nat)} (hN : X.N.Nodup) (hsw : swapsWith (.ListComp elt [⟨tg, iter, ifs, 0⟩] scope pos) (some (.Name y py)) spos.line X.env = pure true) (hi : CI X w E tg iter ci) (ok : BlkOk X.N X.env.scope scope own)
    (hg : ∀ (s : Shared) (H : Hp) (C : Addr) (cl : List (Str × Addr)) (fp : List Addr), CG (X.blk s H scope (compEnvC scope cl C X.env) fp) w (fun _ _ _ => False) tg S g) (ht : ∀ (s : Shared) (H : Hp) (C : Addr) (cl : List (Str × Addr)) (fp : List Addr), CTs (X.blk s H scope (compEnvC scope cl C X.env) fp) w (fun _ _ _ => False) ifs tt)
    (he : ∀ (s : Shared) (H : Hp) (C : Addr) (cl : List (Str × Addr)) (fp : List Addr), CE (X.blk s H scope (compEnvC scope cl C X.env) fp) w (fun _ _ _ => False) elt te) (hy : X.N[i]? = some y := by rfl) (hyl : X.env.scope.names.lookup y = some .local := by rfl) (hc : X.calm = true := by rfl) (hs : ∀ x, foldedSetIterable iter X.env x = pure x := by intro _; rfl)
    (hS : ∀ j ∈ S, j ∈ own.map (·.2) := by decide) : CS X w E fr (.Assign [.Name y py] (.ListComp elt [⟨tg, iter, ifs, 0⟩] scope pos) spos) (cSetO i (cComp ci g tt te (own.map (·.2)))) := by
  refine ⟨⟨fun pins s σ H D I h => ?_⟩⟩
  have hl := I.len
  refine (ps_setLc (te := EvE X.km w (fun _ _ _ => False) te) (tt := EvT X.km w (fun _ _ _ => False) tt) (g := EvG X.km w (fun _ _ _ => False) S g) hc hN hy hyl hsw hi.pi ok (fun s H C cl fp => (hg s H C cl fp).pg) (fun s H C cl fp => (ht s H C cl fp).pt) (fun s H C cl fp => (he s H C cl fp).pe) hs).run pins s σ H D I ?_
  obtain ⟨H0, Z0, r, Z, o, R, h⟩ := h
  refine comp_core R hS (G.wp_mono (G.wp_bind.mp h) (fun t ht p oo H' Z' g rt f => ?_) fun _ x => x)
  have hir : i < r.length := by rw [R.len, hl]; exact (List.getElem?_eq_some_iff.mp hy).1
  obtain ⟨f1, f2⟩ := Fresh.env R f
  exact ht _ H' Z' _ ((R.grow g).setO i hir rt f1 f2) g.zz
end
end TL
end s_TL6
section s_TL7
set_option Elab.async false
set_option linter.all false
set_option maxRecDepth 100000
set_option maxHeartbeats 4000000
/-! TL7: defs whose callers' guards are known (repr asks that), from a body's computation to a promise -/
namespace TL
open PySem PySem.Spec PyProof.Rows L2
/-- a def's promise where no repr is under way around it -/
structure FnG (P : Program) (wd : World) (K : PySem.W.Frag) (mg : Str → Option Value) (base : Heap) (k : Nat) (f : Addr) (fd : FuncData) (ps : List Str) (sp : Sp) : Prop where
  len : ∀ vs H Q E, sp vs H Q E → vs.length = ps.length
  go : ∀ (A : Around) (outer : List Env) (s : Shared) (H : Hp) (args : Args) (us : List Value) (vs : List V) (Q : VK) (E : XK), A.guards = some [] → Room k A → Env0 P wd K mg base A outer s H → BindsTo s fd args (ps.zip us) →
    Vals vs us → sp vs H Q E → codeAny (model P wd) A (.call (.ref f) args) (CR (L2.CX P wd) outer P wd H s Q E) s
section
variable {P : Program} {wd : World} {K : PySem.W.Frag} {mg : Str → Option Value} {base : Heap} {j k : Nat} {f : Addr} {fd : FuncData} {ps : List Str} {sp sp' : Sp}
theorem FnG.of (F : FnOk P wd K mg base (L2.CX P wd) k f fd ps sp) : FnG P wd K mg base k f fd ps sp := ⟨F.len, fun A o s H a us vs Q E _ hr e b v h => F.run A o s H a us vs Q E hr e b v h⟩
theorem FnG.mono (F : FnG P wd K mg base j f fd ps sp) (h : j ≤ k) : FnG P wd K mg base k f fd ps sp := ⟨F.len, fun A o s H a us vs Q E g hr => F.go A o s H a us vs Q E g (hr.mono h)⟩
theorem FnG.imp (F : FnG P wd K mg base k f fd ps sp) (h : ∀ vs H Q E, sp' vs H Q E → sp vs H Q E) : FnG P wd K mg base k f fd ps sp' :=
  ⟨fun vs H Q E q => F.len vs H Q E (h _ _ _ _ q), fun A o s H a us vs Q E g hr e b v q => F.go A o s H a us vs Q E g hr e b v (h _ _ _ _ q)⟩
/-- from a body: as HandS's rule for a def, the guards told -/
theorem fnG_ofC {x qual : Str} {st : Stmt} {N : List Str} (F : Fun K x qual st f fd) (S : FnScope N ps (defScope st)) (len : ∀ vs H Q E, sp vs H Q E → vs.length = ps.length)
    (body : ∀ (cdv : Value), fd.code = cdv → ∀ (A : Around) (outer : List Env) (s : Shared) (H : Hp) (vs : List V) (Q : VK) (E : XK), A.guards = some [] → Room k (A.deeper (envOfC qual (defScope st) s.heap.objs.size f cdv)) → sp vs H Q E →
      ∃ t, PSs (cxOf (L2.CX P wd) P wd K mg base N qual (defScope st) f cdv A outer s H E) (defBody st) t ∧ t { nx := fun _ H' => Q .non H', rt := Q } (start N vs) H) : FnG P wd K mg base (k + 1) f fd ps sp := by
  obtain ⟨oc, od, kV, doc, pm, an, cdv, ct, osl, rfl, lk, hcd⟩ := F.ex
  refine ⟨len, fun A outer s H args us vs Q E gd hr e0 hb rv hsp => ?_⟩
  have hKs : K.In s.heap := e0.mod.kin.keeps fun b o e => (e0.bs b o e).1
  have nolim : s.heap.NoLimit := e0.mod.nolimit.keeps fun b o e => (e0.bs b o e).1
  have kinds : ∀ y ∈ ps.zip us, (defScope st).names.lookup y.1 = some .local ∨ ((defScope st).names.lookup y.1 = some .cell ∧ ((cellsFrom (s.heap.objs.size + 1) (defScope st).names []).lookup y.1).isSome = true) := by
    rintro ⟨n, v⟩ hy
    rcases S.par n (List.of_mem_zip hy).1 with q | q
    · exact Or.inl q
    · exact Or.inr ⟨q, PySem.W.cellsFrom_some _ _ _ (Or.inl q)⟩
  refine codeAny_call_function hr.depth (hKs _ _ lk) rfl S.co S.gen rfl (PySem.W.codeRec_of hKs hcd) (hb _ _ _ _ ?_)
  refine wpAny_newFunctionEnv_cells S.kind kinds fun env he s1 ic => ?_
  subst he
  refine ⟨nolim.keeps ic.toInCall.keep, codeAny_func ?_⟩
  obtain ⟨t, ht, hq⟩ := body cdv rfl A outer s H vs Q E gd (hr.deeper _) hsp
  have J : Inv (cxOf (L2.CX P wd) P wd K mg base N qual (defScope st) f cdv A outer s H E) [] (start N vs) H s1 := inv_start S hr.hd e0 (len _ _ _ _ hsp) rv ic
  refine wpAny_mono (ht.run [] s1 (start N vs) H _ J hq) (fun fl s' hs => ?_) (fun _ _ h => h)
  cases fl with
  | next => exact let ⟨_, H', J', q⟩ := hs; ⟨V.non, H', J'.os, J'.bare, J'.base, J'.hok, rfl, q⟩
  | brk => exact let ⟨_, _, _, q⟩ := hs; q.elim
  | cont => exact let ⟨_, _, _, q⟩ := hs; q.elim
  | ret u => exact let ⟨v, _, H', J', rr, q⟩ := hs; ⟨v, H', J'.os, J'.bare, J'.base, J'.hok, rr, q⟩
theorem fnG_of {x qual : Str} {st : Stmt} {N : List Str} (F : Fun K x qual st f fd) (S : FnScope N ps (defScope st)) (len : ∀ vs H Q E, sp vs H Q E → vs.length = ps.length)
    (body : ∀ (cdv : Value) (A : Around) (outer : List Env) (s : Shared) (H : Hp) (vs : List V) (Q : VK) (E : XK), A.guards = some [] → Room k (A.deeper (envOfC qual (defScope st) s.heap.objs.size f cdv)) → sp vs H Q E →
      ∃ t, PSs (cxOf (L2.CX P wd) P wd K mg base N qual (defScope st) f cdv A outer s H E) (defBody st) t ∧ t { nx := fun _ H' => Q .non H', rt := Q } (start N vs) H) : FnG P wd K mg base (k + 1) f fd ps sp := fnG_ofC F S len fun cdv _ => body cdv
end

section
variable {X : Cx} {w : Wd} {E : XK} {k n : Nat} {f C : Addr} {fd : FuncData} {ps : List Str} {sp : Sp} {x m : Str} {p pos apos : Pos} {e o : Expr} {es : List Expr} {cs : List Sl → G (List T)} {ca : EC} {F : List T → G T}
/-- the callee runs -/
theorem runG {pins : List (Addr × Obj)} {σ : L2.St} {H : Hp} {s : Shared} {Q : VK} {us : List Value} {vs : List V} (Fk : FnG X.prog X.w X.K X.mg X.base k f fd ps sp) (gd : X.A.guards = some []) (hr : Room k X.A) (hb : Binds X.K fd ps []) (hx : Passes (L2.CX X.prog X.w) X E)
    (I : Inv X pins σ H s) (r : Vals vs us) (h : sp vs H Q E) : wpAny (model X.prog X.w) X.A (call (.ref f) us) (EP X pins σ Q) X.xe s := by
  have hl : (us ++ []).length = ps.length := by rw [List.append_nil, ← r.length]; exact Fk.len _ _ _ _ h
  have hbs := hb s us I.kIn hl
  rw [List.append_nil] at hbs
  refine wpAny_call (codeAny_mono (Fk.go X.A X.stack s H ⟨us, []⟩ us vs Q E gd hr I.env0 hbs r h) fun res s' hq => ?_)
  rcases res with e | (_ | _ | _ | u)
  · exact hx pins σ H s e s' I hq
  · exact False.elim hq
  · exact False.elim hq
  · exact False.elim hq
  · exact I.after hq
theorem peG (Fk : FnG X.prog X.w X.K X.mg X.base k f fd ps sp) (gd : X.A.guards = some []) (hr : Room k X.A) (hg : Gl X x) (hm : X.mg x = some (.ref f)) (hk : PySem.W.keepIn X.K (.ref f) = true) (hb : Binds X.K fd ps []) (hx : Passes (L2.CX X.prog X.w) X E) {t : TA}
    (ha : PA X (e :: es) t) (hdb : (x == ("__debug__" : Str)) = false := by decide) (he : starEach (e :: es) X.env = (false, eval e X.env) :: starEach es X.env := by rfl) (hpl : (backTo pos (starEach es X.env)).any (·.1) = false := by rfl) :
    PE X (.Call (.Name x p) (e :: es) [] pos) (fun σ H Q => t σ H fun vs H1 => sp vs H1 Q E) := by
  refine ⟨fun pins s σ H Q I h => wpAny_Call_Name_kw (ld_glob I hg hm ?_ hdb)⟩
  exact PySem.W.callWith_K (h₀ := X.base) I.ok.mod.kin hk (thn (ha.run pos pins s σ H _ I h) fun us s1 ⟨vs, H1, I1, r, q⟩ => ⟨I1.kIn, runG Fk gd hr hb hx I1 r q⟩) he hpl
theorem evCall {H : Hp} {σ : L2.St} {Q : VK} (hl : Len cs n) (h : EvE X.km w E (cCall F cs) σ H Q) : EvA X.km w E cs σ H fun vs H1 => SpT (X.prog, X.w) X.K X.mg n F vs H1 Q E := by
  obtain ⟨H0, Z0, r, Z, o, R, h⟩ := h
  have h' : (cs r >>= fun ts => if ts.length = n then F ts else .stuck).wp (Post X.km w H Z Q) (PostX X.km w E H0 Z0) :=
    G.wp_bind.mpr (G.wp_mono (hl r _ _ (G.wp_bind.mp h)) (fun ts q => by rw [if_pos q.1]; exact q.2) fun _ x => x)
  refine evSeqA (P := fun H Z => Post X.km w H Z Q) R (fun g => Post.weak g) h' fun xs H1 Z1 ts R1 g1 t1 h1 => ?_
  by_cases e : ts.length = n
  · rw [if_pos e] at h1
    exact ⟨w, ts, Z1, R1.hw, by rw [← t1.length, e], R1.good, t1, G.wp_mono h1 (fun t ht v H' Z' g tr => ht v H' Z' g tr) fun ex hx cls d H' Z' g q => hx cls d H' Z' (R1.gr.trans g) q⟩
  · rw [if_neg e] at h1; exact h1.elim
theorem ce_callG (Fk : FnG X.prog X.w X.K X.mg X.base k f fd ps (SpT (X.prog, X.w) X.K X.mg n F)) (gd : X.A.guards = some []) (hr : Room k X.A) (hx : Passes (L2.CX X.prog X.w) X E) (hg : Gl X x) (hm : X.mg x = some (.ref f)) (hk : PySem.W.keepIn X.K (.ref f) = true) (hb : Binds X.K fd ps [])
    (ha : CA X w E (e :: es) cs) (hl : Len cs n) (hdb : (x == ("__debug__" : Str)) = false := by decide) (he : starEach (e :: es) X.env = (false, eval e X.env) :: starEach es X.env := by rfl) (hpl : (backTo pos (starEach es X.env)).any (·.1) = false := by rfl) :
    CE X w E (.Call (.Name x p) (e :: es) [] pos) (cCall F cs) := ⟨peImp (peG Fk gd hr hg hm hk hb hx ha.pa hdb he hpl) fun σ H Q h => evCall hl h⟩
end

/-! ### a def by its body's computation -/
def runB (c : SC) (m : Nat) (ts : List T) : G T := c (ts.map .fz ++ List.replicate (m - ts.length) .un) >>= fun k => match k with
  | .rt t => .ret t
  | .nx _ => .ret .non
  | _ => .stuck
/-- .. that always says what it returns -/
def runR (c : SC) (m : Nat) (ts : List T) : G T := c (ts.map .fz ++ List.replicate (m - ts.length) .un) >>= fun k => match k with
  | .rt t => .ret t
  | _ => .stuck
theorem env_start {M : Km} {w : Wd} {H Z : Hp} {ts : List T} {vs : List V} {N : List Str} (g : Good w H Z) (tr : Trs M.K M.mg w Z ts vs) (hl : vs.length ≤ N.length) (hwo : w.wo = M.pw ∧ ∀ p, w.home = some p → Grow w p.1 p.2 H Z) : EnvR M w H Z (ts.map .fz ++ List.replicate (N.length - ts.length) .un) (L2.start N vs) H Z (fun _ => []) := by
  have el := tr.length
  refine ⟨Grow.refl g, ?_, fun i s x h1 h2 => ?_, fun _ _ => rfl, fun i j a ha _ => (nomatch ha), fun i a ha => (nomatch ha), hwo⟩
  · unfold L2.start
    rw [List.length_append, List.length_append, List.length_map, List.length_map, List.length_replicate, List.length_replicate, el]
  · unfold L2.start at h2
    by_cases hi : i < ts.length
    · rw [List.getElem?_append_left (by simpa using hi), List.getElem?_map] at h1
      rw [List.getElem?_append_left (by rw [List.length_map]; omega), List.getElem?_map] at h2
      cases e : ts[i]? with
      | none => rw [e] at h1; cases h1
      | some t =>
        obtain ⟨v, hv, tv⟩ := tr.get e
        rw [e] at h1; rw [hv] at h2
        cases h1; cases h2
        exact ⟨rfl, v, rfl, tv⟩
    · rw [List.getElem?_append_right (by rw [List.length_map]; omega), List.getElem?_replicate] at h1
      split at h1
      · cases h1; exact rfl
      · cases h1
section
variable {P : Program} {wd : World} {K : PySem.W.Frag} {mg : Str → Option Value} {base : Heap} {k : Nat} {f : Addr} {fd : FuncData} {ps N : List Str} {x qual : Str} {st : Stmt} {c : SC}
theorem fnT (F : Fun K x qual st f fd) (S : FnScope N ps (defScope st))
    (body : ∀ (w : Wd) (cdv : Value) (A : Around) (outer : List Env) (s : Shared) (H : Hp) (E : XK), (A.deeper (envOfC qual (defScope st) s.heap.objs.size f cdv)).guards = some [] → Room k (A.deeper (envOfC qual (defScope st) s.heap.objs.size f cdv)) →
      Passes (L2.CX P wd) (cxOf (L2.CX P wd) P wd K mg base N qual (defScope st) f cdv A outer s H E) E →
      CSs (cxOf (L2.CX P wd) P wd K mg base N qual (defScope st) f cdv A outer s H E) w E false (defBody st) c) : FnG P wd K mg base (k + 1) f fd ps (SpT (P, wd) K mg ps.length (runB c N.length)) := by
  have hpl : ps.length ≤ N.length := by have := congrArg List.length S.pre; rw [List.length_take] at this; omega
  refine fnG_of F S (fun vs H Q E h => let ⟨_, _, _, _, h, _⟩ := h; h) fun cdv A outer s H vs Q E gd hr h => ?_
  obtain ⟨w, ts, Z, hwo, hl, g, tr, hw⟩ := h
  refine ⟨_, (body w cdv A outer s H E gd hr (passes_call (takes_of rfl rfl rfl rfl) fun _ _ _ _ q => q)).ps, ?_⟩
  refine ⟨H, Z, _, Z, fun _ => [], env_start g tr (by omega) hwo, G.wp_mono (G.wp_bind.mp hw) (fun kk hk => ?_) fun ex hx cls d H' Z' gg q => hx cls d H' Z' gg q⟩
  cases kk with
  | nx r => exact fun σ' H' Z' o' R' s' => hk _ H' Z' R'.gr .non
  | bk r => exact hk.elim
  | ct r => exact hk.elim
  | rm t r => exact hk.elim
  | rt t =>
    have goal : PostR ⟨K, mg, (P, wd)⟩ w false H Z t Q := fun v H' Z' gg tt => hk v H' Z' gg tt
    exact goal
end
end TL
end s_TL7
section s_TL8
set_option Elab.async false
set_option linter.all false
set_option maxRecDepth 100000
set_option maxHeartbeats 4000000
/-! TL8: operators, comparisons, items, slices, lengths -/
namespace TL
open PySem PySem.Spec PyProof.Rows L2
/-! ### data as the library compares it -/
mutual
def toPy : T → Option PyData
  | .non => some .none
  | .bl b => some (.bool b)
  | .int i => some (.int i)
  | .str x => some (.str x)
  | .tup xs => (toPys xs).map .tuple
  | .lst xs => (toPys xs).map .list
  | _ => none
def toPys : List T → Option (List PyData)
  | [] => some []
  | t :: ts => (toPy t).bind fun d => (toPys ts).map fun ds => d :: ds
end
/-- data without dicts, not too deep -/
def okT (t : T) : Bool := match toPy t with
  | some d => SeqAt.shaped d
  | none => false
def eqT (a b : T) : Bool := match toPy a, toPy b with
  | some d, some e => PyData.eqv d e
  | _, _ => false
section
variable {K : PySem.W.Frag} {mg : Str → Option Value} {w : Wd} {Z H : Hp}
mutual
theorem Tr.dp (s : Sub Z H) : ∀ {t : T} {v : V} {d : PyData}, Tr K mg w Z t v → toPy t = some d → Dp K H v d
  | _, _, _, .non, e => by simp only [toPy, Option.some.injEq] at e; subst e; exact .non
  | _, _, _, .bl b, e => by simp only [toPy, Option.some.injEq] at e; subst e; exact .bl b
  | _, _, _, .int i, e => by simp only [toPy, Option.some.injEq] at e; subst e; exact .int i
  | _, _, _, .str x, e => by simp only [toPy, Option.some.injEq] at e; subst e; exact .str x
  | _, _, _, .tup h l r, e => by
    simp only [toPy, Option.map_eq_some_iff] at e
    obtain ⟨ds, e1, rfl⟩ := e
    exact .tup (s.sqT h) (Trs.dp s r e1)
  | _, _, _, .lst h l r, e => by
    simp only [toPy, Option.map_eq_some_iff] at e
    obtain ⟨ds, e1, rfl⟩ := e
    exact .lst (SqL.of (s _ _ h)) (Trs.dp s r e1)
  | _, _, _, .ty _, e => by simp [toPy] at e
  | _, _, _, .dic _ _ _, e => by simp [toPy] at e
  | _, _, _, .dn _ _ _ _, e => by simp [toPy] at e
  | _, _, _, .ins _ _ _ _, e => by simp [toPy] at e
  | _, _, _, .adr _, e => by simp [toPy] at e
  | _, _, _, .fn _, e => by simp [toPy] at e
  | _, _, _, .drw _, e => by simp [toPy] at e
  | _, _, _, .scr _ _, e => by simp [toPy] at e
theorem Trs.dp (s : Sub Z H) : ∀ {ts : List T} {vs : List V} {ds : List PyData}, Trs K mg w Z ts vs → toPys ts = some ds → DpAll K H vs ds
  | _, _, _, .nil, e => by simp only [toPys, Option.some.injEq] at e; subst e; exact .nil
  | _, _, _, .cons a b, e => by
    simp only [toPys, Option.bind_eq_some_iff, Option.map_eq_some_iff] at e
    obtain ⟨d, e1, ds, e2, rfl⟩ := e
    exact .cons (Tr.dp s a e1) (Trs.dp s b e2)
end
end
section
variable {M : Km} {X : Cx} {w : Wd} {E : XK} {k : Nat}
def fEqB (neg : Bool) : T → T → G T := fun a b => match a, b with
  | .str x, .str y => .ret (.bl (neg != decide (x = y)))
  | a, b => if okT a && okT b then .ret (.bl (neg != eqT a b)) else .stuck
abbrev fEq := fEqB false
abbrev fNe := fEqB true
theorem eqB_data {neg : Bool} {H0 Z0 : Hp} {r : List Sl} {σ : L2.St} {H Z : Hp} {o : Nat → List Addr} (R : EnvR M w H0 Z0 r σ H Z o) {a b : T} {x y : V} {Q : VK} (ta : Tr M.K M.mg w Z a x) (tb : Tr M.K M.mg w Z b y)
    (h : (if okT a && okT b then G.ret (T.bl (neg != eqT a b)) else .stuck).wp (Post M w H Z Q) (PostX M w E H0 Z0)) : ∃ d e, Dp M.K H x d ∧ Dp M.K H y e ∧ SeqAt.shaped d = true ∧ SeqAt.shaped e = true ∧ Q (.bl (neg != PyData.eqv d e)) H := by
  cases ea : toPy a with
  | none => rw [show okT a = false by unfold okT; rw [ea]] at h; exact h.elim
  | some d =>
    cases eb : toPy b with
    | none => rw [show okT b = false by unfold okT; rw [eb], Bool.and_false] at h; exact h.elim
    | some e =>
      by_cases hc : (okT a && okT b) = true
      · rw [if_pos hc] at h
        rw [Bool.and_eq_true] at hc
        have h1 : SeqAt.shaped d = true := by have := hc.1; unfold okT at this; rwa [ea] at this
        have h2 : SeqAt.shaped e = true := by have := hc.2; unfold okT at this; rwa [eb] at this
        have h3 : eqT a b = PyData.eqv d e := by unfold eqT; rw [ea, eb]
        rw [h3] at h
        exact ⟨d, e, ta.dp R.good.zh ea, tb.dp R.good.zh eb, h1, h2, h _ H Z (Grow.refl R.good) (.bl _)⟩
      · rw [if_neg hc] at h; exact h.elim
theorem t2_eq : T2 M w E (fun x y H Q => rEq x y H Q ∨ rEqD M.K x y H Q) fEq := fun H0 Z0 r σ H Z o R a b x y Q ta tb hw => by
  have data : (if okT a && okT b then G.ret (T.bl (false != eqT a b)) else .stuck).wp (Post M w H Z Q) (PostX M w E H0 Z0) → (rEq x y H Q ∨ rEqD M.K x y H Q) := fun h => by
    obtain ⟨d, e, h1, h2, h3, h4, h5⟩ := eqB_data R ta tb h
    rw [Bool.false_bne] at h5
    exact .inr ⟨d, e, h1, h2, h3, h4, h5⟩
  cases ta <;> try exact data hw
  cases tb <;> try exact data hw
  refine .inl ⟨rfl, ?_⟩
  have q := hw _ H Z (Grow.refl R.good) (.bl _)
  rw [Bool.false_bne] at q
  rw [show decide (V.str _ = V.str _) = decide (_ = _) from decide_eq_decide.mpr ⟨fun h => V.str.inj h, fun h => congrArg V.str h⟩]
  exact q
theorem t2_ne : T2 M w E (fun x y H Q => rNe x y H Q ∨ rNeD M.K x y H Q) fNe := fun H0 Z0 r σ H Z o R a b x y Q ta tb hw => by
  have data : (if okT a && okT b then G.ret (T.bl (true != eqT a b)) else .stuck).wp (Post M w H Z Q) (PostX M w E H0 Z0) → (rNe x y H Q ∨ rNeD M.K x y H Q) := fun h => by
    obtain ⟨d, e, h1, h2, h3, h4, h5⟩ := eqB_data R ta tb h
    rw [Bool.true_bne] at h5
    exact .inr ⟨d, e, h1, h2, h3, h4, h5⟩
  cases ta <;> try exact data hw
  cases tb <;> try exact data hw
  refine .inl ⟨rfl, ?_⟩
  have q := hw _ H Z (Grow.refl R.good) (.bl _)
  rw [Bool.true_bne] at q
  rw [show decide (V.str _ = V.str _) = decide (_ = _) from decide_eq_decide.mpr ⟨fun h => V.str.inj h, fun h => congrArg V.str h⟩]
  exact q
theorem o_eq (hr : Room k X.A) : OpR X (compareOp .Eq) (fun x y H Q => rEq x y H Q ∨ rEqD X.K x y H Q) := op_eq.or (op_eqD hr.units)
theorem o_ne (hr : Room k X.A) : OpR X (compareOp .NotEq) (fun x y H Q => rNe x y H Q ∨ rNeD X.K x y H Q) := op_ne.or (op_neD hr.units)

/-! ### + of ints, texts, tuples, lists -/
def fits (n : Nat) : Bool := decide (n ≤ 16777216)
theorem fits_line {n : Nat} (h : fits n = true) : n ≤ sizeLine := by rw [sizeLine_eq]; exact of_decide_eq_true h
def fAdd : T → T → G T
  | .int i, .int j => .ret (.int (i + j))
  | .str x, .str y => if fits (x.length + y.length) then .ret (.str (x ++ y)) else .stuck
  | .tup xs, .tup ys => if fits (xs.length + ys.length) then .ret (.tup (xs ++ ys)) else .stuck
  | .lst xs, .lst ys => if fits (xs.length + ys.length) then .ret (.lst (xs ++ ys)) else .stuck
  | _, _ => .stuck
def rAddT (K : PySem.W.Frag) : R2 := fun x y H Q => rI0 (fun i j => .int (i + j)) x y H Q ∨ (∃ i j, x = .str i ∧ y = .str j ∧ i.length + j.length ≤ sizeLine ∧ Q (.str (i ++ j)) H) ∨ rCatA K x y H Q ∨ rCat x y H Q
theorem o_add : OpR X (binaryOp .Add) (rAddT X.K) := op_add.or (op_add_str.or (op_catA.or op_cat))
theorem t2_add : T2 M w E (rAddT M.K) fAdd := fun H0 Z0 r σ H Z o R a b x y Q ta tb hw => by
  cases ta with
  | int i =>
    cases tb with
    | int j => exact .inl ⟨i, j, rfl, rfl, hw _ H Z (Grow.refl R.good) (.int _)⟩
    | _ => exact hw.elim
  | str z =>
    cases tb with
    | str z' =>
      by_cases e : fits (z.length + z'.length) = true
      · have hw' : (if fits (z.length + z'.length) then G.ret (T.str (z ++ z')) else .stuck).wp (Post M w H Z Q) (PostX M w E H0 Z0) := hw
        rw [if_pos e] at hw'
        exact .inr (.inl ⟨z, z', rfl, rfl, fits_line e, hw' _ H Z (Grow.refl R.good) (.str _)⟩)
      · have hw' : (if fits (z.length + z'.length) then G.ret (T.str (z ++ z')) else .stuck).wp (Post M w H Z Q) (PostX M w E H0 Z0) := hw
        rw [if_neg e] at hw'; exact hw'.elim
    | _ => exact hw.elim
  | @tup ts p vs h1 l1 r1 =>
    cases tb with
    | @tup us q ws h2 l2 r2 =>
      have hw' : (if fits (ts.length + us.length) then G.ret (T.tup (ts ++ us)) else .stuck).wp (Post M w H Z Q) (PostX M w E H0 Z0) := hw
      by_cases e : fits (ts.length + us.length) = true
      · rw [if_pos e] at hw'
        have el1 := r1.length
        have el2 := r2.length
        have hz := fits_line e
        refine .inr (.inr (.inl ⟨p, q, vs, ws, rfl, rfl, R.good.sqT h1, R.good.sqT h2, by omega, fun hn => ?_, fun _ hn => ?_, fun _ _ c hc => ?_⟩))
        · have : ts = [] := List.eq_nil_of_length_eq_zero (by rw [el1, hn]; rfl)
          subst this
          exact hw' _ H Z (Grow.refl R.good) (.tup h2 l2 r2)
        · have : us = [] := List.eq_nil_of_length_eq_zero (by rw [el2, hn]; rfl)
          subst this
          refine hw' _ H Z (Grow.refl R.good) ?_
          rw [List.append_nil]
          exact .tup h1 l1 r1
        · have s := Sub.upd (o := .tup (vs ++ ws)) (R.good.tracked hc)
          exact hw' _ _ _ (Grow.laidF R.good hc) (.tup (SqT.of upd_same) (by rw [List.length_append]; omega) ((r1.mono s).append (r2.mono s)))
      · rw [if_neg e] at hw'; exact hw'.elim
    | _ => exact hw.elim
  | @lst ts p vs h1 l1 r1 =>
    cases tb with
    | @lst us q ws h2 l2 r2 =>
      have hw' : (if fits (ts.length + us.length) then G.ret (T.lst (ts ++ us)) else .stuck).wp (Post M w H Z Q) (PostX M w E H0 Z0) := hw
      by_cases e : fits (ts.length + us.length) = true
      · rw [if_pos e] at hw'
        have el1 := r1.length
        have el2 := r2.length
        have hz := fits_line e
        refine .inr (.inr (.inr ⟨p, q, vs, ws, rfl, rfl, R.good.zh _ _ h1, R.good.zh _ _ h2, by omega, fun c hc => ?_⟩))
        have s := Sub.upd (o := .lst (vs ++ ws)) (R.good.tracked hc)
        exact hw' _ _ _ (Grow.laidF R.good hc) (.lst upd_same (by rw [List.length_append]; omega) ((r1.mono s).append (r2.mono s)))
      · rw [if_neg e] at hw'; exact hw'.elim
    | _ => exact hw.elim
  | _ => exact hw.elim
/-- list + list as a new thing -/
def fCat : T → T → G T
  | .lst xs, .lst ys => if fits (xs.length + ys.length) then .ret (.lst (xs ++ ys)) else .stuck
  | _, _ => .stuck
def T2F (X : Km) (w : Wd) (E : XK) (rd : R2) (f : T → T → G T) : Prop := ∀ H0 Z0 r σ H Z o (_ : EnvR X w H0 Z0 r σ H Z o) a b x y (Q : VK), Tr X.K X.mg w Z a x → Tr X.K X.mg w Z b y →
  (f a b).wp (PostF X w H Z Q) (PostX X w E H0 Z0) → rd x y H Q
theorem ev2F {f : T → T → G T} {ca cb : EC} {rd : R2} (hf : T2F X.km w E rd f) {σ : L2.St} {H : Hp} {Q : VK} (h : EvF X.km w E (cOp2 f ca cb) σ H Q) : tOp rd (EvE X.km w E ca) (EvE X.km w E cb) σ H Q := by
  obtain ⟨H0, Z0, r, Z, o, R, h⟩ := h
  refine evSeq (P := fun H Z => PostF X.km w H Z Q) (PX := fun _ => True) R (fun g => PostF.weak g) h fun x H1 Z1 a R1 g1 t1 h1 => ?_
  refine evSeq (P := fun H Z => PostF X.km w H Z Q) (PX := fun _ => True) R1 (fun g => PostF.weak g) h1 fun y H2 Z2 b R2 g2 t2 h2 => ?_
  exact hf H0 Z0 r σ H2 Z2 o R2 a b x y Q (t1.mono g2.zz) t2 h2
theorem cf_op {a b : Expr} {pos : Pos} {ca cb : EC} {op : Operator} {rd : R2} {f : T → T → G T} (ho : OpR X (binaryOp op) rd) (hf : T2F X.km w E rd f) (ha : CE X w E a ca) (hb : CE X w E b cb) : CF X w E (.BinOp a op b pos) (cOp2 f ca cb) :=
  ⟨peImp (pe_op ho ha.pe hb.pe) fun _ _ _ h => ev2F hf h⟩
/-- list * int -/
def fRep : T → T → G T
  | .lst xs, .int k => if fits (xs.length * k.toNat) && decide (-(2 ^ 63) ≤ k) && decide (k < 2 ^ 63) then .ret (.lst (List.replicate k.toNat xs).flatten) else .stuck
  | _, _ => .stuck
theorem Trs.rep {K : PySem.W.Frag} {mg : Str → Option Value} {Z : Hp} {ts : List T} {vs : List V} (h : Trs K mg w Z ts vs) : ∀ n : Nat, Trs K mg w Z (List.replicate n ts).flatten (List.replicate n vs).flatten
  | 0 => .nil
  | n + 1 => by rw [List.replicate_succ, List.replicate_succ, List.flatten_cons, List.flatten_cons]; exact h.append (Trs.rep h n)
theorem t2_rep : T2F M w E rRep fRep := fun H0 Z0 r σ H Z o R a b x y Q ta tb hw => by
  cases ta with
  | @lst ts p vs h1 l1 r1 =>
    cases tb with
    | int k =>
      have hw' : (if fits (ts.length * k.toNat) && decide (-(2 ^ 63) ≤ k) && decide (k < 2 ^ 63) then G.ret (T.lst (List.replicate k.toNat ts).flatten) else .stuck).wp (PostF M w H Z Q) (PostX M w E H0 Z0) := hw
      by_cases e : (fits (ts.length * k.toNat) && decide (-(2 ^ 63) ≤ k) && decide (k < 2 ^ 63)) = true
      · rw [if_pos e] at hw'
        rw [Bool.and_eq_true, Bool.and_eq_true] at e
        have el1 := r1.length
        have hz := fits_line e.1.1
        refine ⟨p, k, vs, rfl, rfl, R.good.zh _ _ h1, of_decide_eq_true e.1.2, of_decide_eq_true e.2, by rw [← el1]; exact hz, fun c hc => ?_⟩
        refine hw' c [c] _ Z (Grow.laid R.good hc) ⟨rfl, _, upd_same, ?_, r1.rep _⟩ (Grow.newRoot R.good hc)
        rw [PyProof.Rows.lm_len_rep_flat, Nat.mul_comm, ← el1]; exact hz
      · rw [if_neg e] at hw'; exact hw'.elim
    | _ => exact hw.elim
  | _ => exact hw.elim
end
end TL
end s_TL8
section s_TL9
set_option Elab.async false
set_option linter.all false
set_option maxRecDepth 100000
set_option maxHeartbeats 4000000
/-! TL9: items, slices, lengths, membership, kinds, conversions, attributes -/
namespace TL
open PySem PySem.Spec PyProof.Rows L2
/-! ### dicts keyed by nested tuples: the object, `in`, stores, d[k] -/
mutual
def nkD : PyData → Option NestedKey
  | .none => some .none
  | .bool b => some (.num (if b = true then 1 else 0))
  | .int i => some (.num i)
  | .str x => some (.text x)
  | .tuple ds => (nkDs ds).map .tup
  | _ => none
def nkDs : List PyData → Option (List NestedKey)
  | [] => some []
  | d :: ds => (nkD d).bind fun k => (nkDs ds).map fun ks => k :: ks
end
section
variable {X : Cx} {pins : List (Addr × Obj)} {σ : L2.St} {H : Hp} {s : Shared}
mutual
theorem nested_of (I : Inv X pins σ H s) : ∀ (d : PyData) (k : NestedKey) (v : V) (u : Value), Dp X.K H v d → RelV v u → nkD d = some k → NestedIs s.heap k u
  | .none, k, _, _, h, r, e => by
    cases h; cases r; cases e
    exact .none
  | .bool b, k, _, _, h, r, e => by
    cases h; cases r; cases e
    exact .bool rfl
  | .int i, k, _, _, h, r, e => by
    cases h; obtain ⟨t, rfl⟩ := r; cases e
    exact .int i t
  | .str x, k, _, _, h, r, e => by
    cases h; obtain ⟨t, rfl⟩ := r; cases e
    exact .text x t
  | .tuple ds, k, _, _, h, r, e => by
    cases h with
    | tup hs ha =>
      cases r
      simp only [nkD, Option.map_eq_some_iff] at e
      obtain ⟨ks, e, rfl⟩ := e
      obtain ⟨its, rv, ⟨o, ho, hc, n, hd⟩, _⟩ := I.tuple hs
      exact .tup ho hc hd (nested_ofs I ds ks _ _ ha (by simpa using rv) e)
  | .list _, _, _, _, _, _, e => by simp [nkD] at e
  | .dict _, _, _, _, _, _, e => by simp [nkD] at e
theorem nested_ofs (I : Inv X pins σ H s) : ∀ (ds : List PyData) (ks : List NestedKey) (vs : List V) (us : List Value), DpAll X.K H vs ds → Vals vs us → nkDs ds = some ks → NestedAll s.heap ks us
  | [], ks, _, _, h, r, e => by
    cases h; cases r; cases e
    exact .nil
  | d :: ds, ks, _, _, h, r, e => by
    cases h with
    | cons h1 h2 =>
      cases r with
      | cons r1 r2 =>
        simp only [nkDs, Option.bind_eq_some_iff, Option.map_eq_some_iff] at e
        obtain ⟨k, e1, ks', e2, rfl⟩ := e
        exact .cons (nested_of I d k _ _ h1 r1 e1) (nested_ofs I ds ks' _ _ h2 r2 e2)
end
end
/-- its keys stand in H -/
def KeysN (K : PySem.W.Frag) (H : Hp) (xs : List NE) : Prop := (xs.map (·.1)).Nodup ∧ ∀ x ∈ xs, x.1.depth ≤ 8 ∧ ∃ d, Dp K H (.ref x.2.1) d ∧ nkD d = some x.1
section
variable {X : Cx} {pins : List (Addr × Obj)} {σ : L2.St} {H : Hp} {s : Shared} {d : Addr} {xs : List NE}
theorem RelN.keys : ∀ {xs : List NE} {us : List (NestedKey × Addr × Value)}, RelN xs us → us.map (·.1) = xs.map (·.1)
  | [], [], _ => rfl
  | x :: xs, y :: ys, h => by rw [List.map_cons, List.map_cons, h.1, RelN.keys h.2.2.2]
  | [], _ :: _, h => h.elim
  | _ :: _, [], h => h.elim
theorem RelN.mem : ∀ {xs : List NE} {us : List (NestedKey × Addr × Value)}, RelN xs us → ∀ y ∈ us, ∃ x ∈ xs, x.1 = y.1 ∧ x.2.1 = y.2.1 ∧ RelV x.2.2 y.2.2
  | [], [], _, y, hy => (nomatch hy)
  | x :: xs, z :: ys, h, y, hy => by
    rcases List.mem_cons.mp hy with e | hy
    · subst e; exact ⟨x, by simp, h.1, h.2.1, h.2.2.1⟩
    · obtain ⟨q, hq, r⟩ := RelN.mem h.2.2.2 y hy
      exact ⟨q, by simp [hq], r⟩
  | [], _ :: _, h, _, _ => h.elim
  | _ :: _, [], h, _, _ => h.elim
/-- the dict as the kit reads it -/
theorem dn_dict (I : Inv X pins σ H s) (h : AtN X.km.pw H d xs) (hk : KeysN X.K H xs) : (d == sysModules) = false ∧ ∃ us, RelN xs us ∧ s.heap.DictOfH (nestedKind X.km.pw.1 X.km.pw.2) d us := by
  obtain ⟨ep, h⟩ := h
  obtain ⟨⟨a, o, es, us, ho, hx, hd, hr, he⟩, _⟩ := I.hok d _ h
  refine ⟨a, us, hr, o, es, ep, ho, hx, hd, he, fun y hy => ?_, by rw [hr.keys]; exact hk.1⟩
  obtain ⟨x, hxm, e1, e2, _⟩ := hr.mem y hy
  obtain ⟨dp, dt, q1, q2⟩ := hk.2 x hxm
  rw [← e1, ← e2]
  exact ⟨nested_of I dt x.1 (.ref x.2.1) (.ref x.2.1) q1 rfl q2, dp⟩
theorem atKey_in {us : List (NestedKey × Addr × Value)} {k : NestedKey} : (atKey us k).isSome = decide (k ∈ us.map (·.1)) := by
  unfold atKey
  rw [Option.isSome_map, Bool.eq_iff_iff, List.find?_isSome, decide_eq_true_iff, List.mem_map]
  exact ⟨fun ⟨x, hx, e⟩ => ⟨x, hx, of_decide_eq_true e⟩, fun ⟨x, hx, e⟩ => ⟨x, hx, decide_eq_true e⟩⟩
/-- a in d -/
def rInN (X : Km) (neg : Bool) : R2 := fun x y H Q => ∃ (a d : Addr) (xs : List NE) (dt : PyData) (k : NestedKey), x = .ref a ∧ y = .ref d ∧ AtN X.pw H d xs ∧ KeysN X.K H xs ∧ Dp X.K H (.ref a) dt ∧ nkD dt = some k ∧ k.depth ≤ 8 ∧ Q (.bl (neg != decide (k ∈ xs.map (·.1)))) H
/-- a store -/
def putN (xs : List NE) (k : NestedKey) (a : Addr) (v : V) : List NE := if k ∈ xs.map (·.1) then xs.map fun x => if x.1 = k then (x.1, x.2.1, v) else x else xs ++ [(k, a, v)]
theorem RelN.put {k : NestedKey} {a : Addr} {v : V} {u : Value} (rv : RelV v u) : ∀ {xs : List NE} {us : List (NestedKey × Addr × Value)}, RelN xs us → RelN (putN xs k a v) (storedH us k a u) := by
  intro xs us h
  have hk := h.keys
  have e1 : ∀ {xs : List NE} {us : List (NestedKey × Addr × Value)}, RelN xs us → RelN (xs.map fun x => if x.1 = k then (x.1, x.2.1, v) else x) (us.map (PySem.putAt k u)) := by
    intro xs
    induction xs with
    | nil => intro us h; cases us with | nil => exact trivial | cons => exact h.elim
    | cons x xs ih =>
      intro us h
      cases us with
      | nil => exact h.elim
      | cons y ys =>
        refine ⟨?_, ?_, ?_, ih h.2.2.2⟩ <;> unfold PySem.putAt <;> by_cases e : x.1 = k
        all_goals (have e' : (y.1 = k) = (x.1 = k) := by rw [h.1])
        all_goals simp only [e', e, if_true, if_false]
        all_goals first | exact h.1 | exact h.2.1 | exact rv | exact h.2.2.1 | (rw [← h.1]; exact e.symm) | exact h.1.symm ▸ rfl
  have e2 : ∀ {xs : List NE} {us : List (NestedKey × Addr × Value)}, RelN xs us → RelN (xs ++ [(k, a, v)]) (us ++ [(k, a, u)]) := by
    intro xs
    induction xs with
    | nil => intro us h; cases us with | nil => exact ⟨rfl, rfl, rv, trivial⟩ | cons => exact h.elim
    | cons x xs ih =>
      intro us h
      cases us with
      | nil => exact h.elim
      | cons y ys => exact ⟨h.1, h.2.1, h.2.2.1, ih h.2.2.2⟩
  unfold putN
  by_cases hm : k ∈ xs.map (·.1)
  · rw [if_pos hm]
    have : (atKey us k).isSome = true := by rw [atKey_in, hk]; exact decide_eq_true hm
    obtain ⟨p, hp⟩ := Option.isSome_iff_exists.mp this
    rw [storedH_old hp]
    exact e1 h
  · rw [if_neg hm]
    have : atKey us k = none := by
      cases e : atKey us k with
      | none => rfl
      | some p =>
        have z : (atKey us k).isSome = true := by rw [e]; rfl
        rw [atKey_in, hk] at z
        exact absurd (of_decide_eq_true z) hm
    rw [storedH_new this]
    exact e2 h
theorem RelN.len : ∀ {xs : List NE} {us : List (NestedKey × Addr × Value)}, RelN xs us → us.length = xs.length
  | [], [], _ => rfl
  | x :: xs, y :: ys, h => by rw [List.length_cons, List.length_cons, RelN.len h.2.2.2]
  | [], _ :: _, h => h.elim
  | _ :: _, [], h => h.elim
def rSetN (X : Km) : TSet := fun x y v H Q => ∃ (a d : Addr) (xs : List NE) (dt : PyData) (k : NestedKey), x = .ref d ∧ y = .ref a ∧ AtN X.pw H d xs ∧ KeysN X.K H xs ∧ xs.length ≤ 16000000 ∧ Dp X.K H (.ref a) dt ∧ nkD dt = some k ∧ k.depth ≤ 8 ∧ ∀ ep, Q (upd H d (dnOp X.pw d ep (putN xs k a v)))
end
section
variable {X : Cx} {pos : Pos}
def tDNewN (X : Cx) : TE := fun _ H Q => ∀ p, H p = none → Q (.ref p) (upd H p (dnOp X.km.pw p 0 []))
def getN (xs : List NE) (k : NestedKey) : Option V := (xs.find? fun x => decide (x.1 = k)).map (·.2.2)
theorem RelN.get {k : NestedKey} : ∀ {xs : List NE} {us : List (NestedKey × Addr × Value)} {v : V}, RelN xs us → getN xs k = some v → ∃ a u, atKey us k = some (a, u) ∧ RelV v u
  | [], [], v, _, e => by simp [getN] at e
  | x :: xs, y :: ys, v, h, e => by
    unfold getN at e
    unfold atKey
    by_cases hx : x.1 = k
    · rw [List.find?_cons_of_pos (by simp [hx])] at e
      rw [List.find?_cons_of_pos (by simp [← h.1, hx])]
      cases e
      exact ⟨y.2.1, y.2.2, rfl, h.2.2.1⟩
    · rw [List.find?_cons_of_neg (by simp [hx])] at e
      rw [List.find?_cons_of_neg (by simp [← h.1, hx])]
      exact RelN.get h.2.2.2 e
  | [], _ :: _, _, h, _ => h.elim
  | _ :: _, [], _, h, _ => h.elim
/-- d[k] -/
def rIxN (X : Km) : R2 := fun x y H Q => ∃ (a d : Addr) (xs : List NE) (dt : PyData) (k : NestedKey) (v : V), x = .ref d ∧ y = .ref a ∧ AtN X.pw H d xs ∧ KeysN X.K H xs ∧ Dp X.K H (.ref a) dt ∧ nkD dt = some k ∧ k.depth ≤ 8 ∧ getN xs k = some v ∧ Q v H
theorem ix_N (hu : X.A.units + 10 < cLine) : IxR X (rIxN X.km) := by
  intro value slice pins s σ H x y v u Q I rx ry h hs
  obtain ⟨a, d, xs, dt, k, v', rfl, rfl, hd, hk, hp, hn, h8, hg, q⟩ := h
  cases rx; cases ry
  obtain ⟨hm, us, hr, hdict⟩ := dn_dict I hd hk
  obtain ⟨b, uv, e, rv⟩ := hr.get hg
  refine tail_any hdict.typeIs PySem.F.slot_dict_getitem.lookup (wpAny_getItem_heap (knd := nestedKind X.km.pw.1 X.km.pw.2) (k := k) (by show X.A.in1.units + 8 < cLine; show X.A.units + 1 + 8 < cLine; omega) ⟨nested_of I dt k _ _ hp rfl hn, h8⟩ hdict e ?_) hs
  exact ⟨v', H, I.tok _, rv, q⟩
end

mutual
theorem nkT_nkD : ∀ (t : T) (k : NestedKey), nkT t = some k → ∃ d, toPy t = some d ∧ nkD d = some k
  | .non, k, e => ⟨_, rfl, by simpa [nkT, nkD] using e⟩
  | .bl b, k, e => ⟨_, rfl, by simpa [nkT, nkD] using e⟩
  | .int i, k, e => ⟨_, rfl, by simpa [nkT, nkD] using e⟩
  | .str x, k, e => ⟨_, rfl, by simpa [nkT, nkD] using e⟩
  | .tup ts, k, e => by
    simp only [nkT, Option.map_eq_some_iff] at e
    obtain ⟨ks, e, rfl⟩ := e
    obtain ⟨ds, e1, e2⟩ := nkTs_nkDs ts ks e
    exact ⟨.tuple ds, by simp [toPy, e1], by simp [nkD, e2]⟩
  | .ty _, _, e => by simp [nkT] at e
  | .lst _, _, e => by simp [nkT] at e
  | .dic _, _, e => by simp [nkT] at e
  | .dn _, _, e => by simp [nkT] at e
  | .ins _ _, _, e => by simp [nkT] at e
  | .exc _ _, _, e => by simp [nkT] at e
  | .adr _, _, e => by simp [nkT] at e
  | .fn _, _, e => by simp [nkT] at e
  | .drw, _, e => by simp [nkT] at e
  | .scr _, _, e => by simp [nkT] at e
theorem nkTs_nkDs : ∀ (ts : List T) (ks : List NestedKey), nkTs ts = some ks → ∃ ds, toPys ts = some ds ∧ nkDs ds = some ks
  | [], ks, e => ⟨[], rfl, by simpa [nkTs, nkDs] using e⟩
  | t :: ts, ks, e => by
    simp only [nkTs, Option.bind_eq_some_iff, Option.map_eq_some_iff] at e
    obtain ⟨k, e1, ks', e2, rfl⟩ := e
    obtain ⟨d, h1, h2⟩ := nkT_nkD t k e1
    obtain ⟨ds, h3, h4⟩ := nkTs_nkDs ts ks' e2
    exact ⟨d :: ds, by simp [toPys, h1, h3], by simp [nkDs, h2, h4]⟩
end
/-- a tuple as a key -/
def tupKey : T → Option NestedKey
  | .tup ts => (match nkT (.tup ts) with | some k => if k.depth ≤ 8 then some k else none | none => none)
  | _ => none
def nGet (kts : List (T × T)) (k : NestedKey) : Option T := (kts.find? fun p => decide (nkT p.1 = some k)).map (·.2)
/-- a store into such a dict -/
def nPut : List (T × T) → T → T → List (T × T)
  | [], k, t => [(k, t)]
  | (q, u) :: r, k, t => if nkT q = nkT k then (q, t) :: r else (q, u) :: nPut r k t
section
variable {M : Km} {w : Wd} {Z H : Hp} {key : NestedKey} {k : T}
theorem Tr.tupKey {v : V} (h : Tr M.K M.mg w Z k v) (s : Sub Z H) (e : tupKey k = some key) : ∃ p d, v = .ref p ∧ Dp M.K H (.ref p) d ∧ nkD d = some key ∧ key.depth ≤ 8 ∧ nkT k = some key := by
  cases k <;> simp only [TL.tupKey, reduceCtorEq] at e
  rename_i ts
  split at e
  · rename_i k' e1
    split at e
    · rename_i h8
      cases e
      obtain ⟨d, h1, h2⟩ := nkT_nkD _ _ e1
      have hd := h.dp s h1
      cases h with
      | tup a b c => exact ⟨_, d, rfl, hd, h2, h8, e1⟩
    · cases e
  · cases e
theorem Trn.len : ∀ {kts : List (T × T)} {xs : List NE}, Trn M.K M.mg w Z kts xs → kts.length = xs.length
  | _, _, .nil => rfl
  | _, _, .cons _ _ _ _ r => by rw [List.length_cons, List.length_cons, Trn.len r]
theorem Trn.all (s : Sub Z H) : ∀ {kts : List (T × T)} {xs : List NE}, Trn M.K M.mg w Z kts xs → ∀ x ∈ xs, x.1.depth ≤ 8 ∧ ∃ d, Dp M.K H (.ref x.2.1) d ∧ nkD d = some x.1
  | _, _, .nil, x, hx => (nomatch hx)
  | _, _, .cons e d q a r, x, hx => by
    rcases List.mem_cons.mp hx with z | hx
    · subst z
      obtain ⟨d', h1, h2⟩ := nkT_nkD _ _ e
      exact ⟨d, d', q.dp s h1, h2⟩
    · exact Trn.all s r x hx
theorem Trn.keysN (s : Sub Z H) {kts : List (T × T)} {xs : List NE} (h : Trn M.K M.mg w Z kts xs) (nd : (xs.map (·.1)).Nodup) : KeysN M.K H xs := ⟨nd, h.all s⟩
theorem getN_pos {x : NE} {xs : List NE} (h : x.1 = key) : getN (x :: xs) key = some x.2.2 := by
  unfold getN; rw [List.find?_cons_of_pos (by simp [h])]; rfl
theorem getN_neg {x : NE} {xs : List NE} (h : ¬ x.1 = key) : getN (x :: xs) key = getN xs key := by
  unfold getN; rw [List.find?_cons_of_neg (by simp [h])]
theorem nGet_pos {x : T × T} {xs : List (T × T)} (h : nkT x.1 = some key) : nGet (x :: xs) key = some x.2 := by
  unfold nGet; rw [List.find?_cons_of_pos (by simp [h])]; rfl
theorem nGet_neg {x : T × T} {xs : List (T × T)} (h : ¬ nkT x.1 = some key) : nGet (x :: xs) key = nGet xs key := by
  unfold nGet; rw [List.find?_cons_of_neg (by simp [h])]
theorem Trn.get : ∀ {kts : List (T × T)} {xs : List NE}, Trn M.K M.mg w Z kts xs → (nGet kts key = none ∧ getN xs key = none ∧ key ∉ xs.map (·.1)) ∨ ∃ t v, nGet kts key = some t ∧ getN xs key = some v ∧ key ∈ xs.map (·.1) ∧ Tr M.K M.mg w Z t v
  | _, _, .nil => .inl ⟨rfl, rfl, by simp⟩
  | _, _, .cons (key := key') e d q a r => by
    by_cases hk : key' = key
    · exact .inr ⟨_, _, nGet_pos (by rw [e, hk]), getN_pos hk, by simp [hk], a⟩
    · rw [nGet_neg (by rw [e]; simpa using hk), getN_neg hk]
      rcases Trn.get r with ⟨h1, h2, h3⟩ | ⟨t, v, h1, h2, h3, h4⟩
      · exact .inl ⟨h1, h2, by simp only [List.map_cons, List.mem_cons, not_or]; exact ⟨fun z => hk z.symm, h3⟩⟩
      · exact .inr ⟨t, v, h1, h2, by simp only [List.map_cons, List.mem_cons]; exact .inr h3, h4⟩
theorem putN_pos {x : NE} {xs : List NE} {a : Addr} {v : V} (h : x.1 = key) (n : key ∉ xs.map (·.1)) : putN (x :: xs) key a v = (x.1, x.2.1, v) :: xs := by
  unfold putN
  rw [if_pos (by simp [h]), List.map_cons, if_pos h]
  congr 1
  rw [List.map_congr_left (g := id), List.map_id]
  intro y hy
  rw [if_neg]
  · rfl
  · intro z; exact n (by rw [← z]; exact List.mem_map_of_mem hy)
theorem putN_neg {x : NE} {xs : List NE} {a : Addr} {v : V} (h : ¬ x.1 = key) : putN (x :: xs) key a v = x :: putN xs key a v := by
  unfold putN
  by_cases hm : key ∈ xs.map (·.1)
  · rw [if_pos hm, if_pos (by simp only [List.map_cons, List.mem_cons]; exact .inr hm), List.map_cons, if_neg h]
  · rw [if_neg hm, if_neg (by simp only [List.map_cons, List.mem_cons, not_or]; exact ⟨fun z => h z.symm, hm⟩)]
    rfl
theorem putN_mem {xs : List NE} {a : Addr} {v : V} {q : NestedKey} (h : q ∈ (putN xs key a v).map (·.1)) : q = key ∨ q ∈ xs.map (·.1) := by
  unfold putN at h
  split at h
  · right
    rw [List.map_map] at h
    obtain ⟨x, hx, e⟩ := List.mem_map.mp h
    refine List.mem_map.mpr ⟨x, hx, ?_⟩
    simp only [Function.comp] at e
    split at e <;> exact e
  · rw [List.map_append, List.mem_append] at h
    rcases h with h | h
    · exact .inr h
    · simp at h; exact .inl h
theorem Trn.put {a : Addr} {v : V} {t : T} (ek : nkT k = some key) (h8 : key.depth ≤ 8) (tk : Tr M.K M.mg w Z k (.ref a)) (tv : Tr M.K M.mg w Z t v) : ∀ {kts : List (T × T)} {xs : List NE}, Trn M.K M.mg w Z kts xs → (xs.map (·.1)).Nodup → Trn M.K M.mg w Z (nPut kts k t) (putN xs key a v) ∧ ((putN xs key a v).map (·.1)).Nodup
  | _, _, .nil, _ => ⟨.cons ek h8 tk tv .nil, by simp [putN]⟩
  | _, _, .cons (key := key') (xs := xs) e d q b r, nd => by
    rw [List.map_cons] at nd
    obtain ⟨n1, n2⟩ := List.nodup_cons.mp nd
    by_cases hk : key' = key
    · rw [putN_pos (by exact hk) (hk ▸ n1)]
      unfold nPut
      rw [if_pos (by rw [e, ek, hk])]
      exact ⟨.cons e d q tv r, by rw [List.map_cons]; exact nd⟩
    · rw [putN_neg (by exact hk)]
      unfold nPut
      rw [if_neg (by rw [e, ek]; simpa using hk)]
      obtain ⟨h1, h2⟩ := Trn.put ek h8 tk tv r n2
      refine ⟨.cons e d q b h1, ?_⟩
      rw [List.map_cons]
      refine List.nodup_cons.mpr ⟨fun z => ?_, h2⟩
      rcases putN_mem z with y | y
      · exact hk y
      · exact n1 y
end
section
variable {K : PySem.W.Frag} {mg : Str → Option Value} {w : Wd} {Z H : Hp}
/-! ### dicts by int and text keys -/
def dGet (kvs : List (T × T)) (k : Key) : Option T := (kvs.find? fun kv => decide (keyT kv.1 = some k)).map (·.2)
theorem Trd.get {k : Key} : ∀ {kts : List (T × T)} {kvs : List (Key × V)}, Trd K mg w Z kts kvs → (dGet kts k = none ∧ valV kvs k = none) ∨ ∃ t v, dGet kts k = some t ∧ valV kvs k = some v ∧ Tr K mg w Z t v
  | _, _, .nil => .inl ⟨rfl, rfl⟩
  | _, _, .cons (k := q) (key := key) (t := t) (v := v) (kts := kts) e a r => by
    by_cases hk : key = k
    · refine .inr ⟨t, v, ?_, valV_pos hk, a⟩
      unfold dGet
      rw [List.find?_cons_of_pos (by simp [e, hk])]
      rfl
    · have h1 : dGet ((q, t) :: kts) k = dGet kts k := by
        unfold dGet
        rw [List.find?_cons_of_neg (by simp [e, hk])]
      rw [h1, valV_neg hk]
      exact Trd.get r
theorem Tr.key {t : T} {v : V} {k : Key} (h : Tr K mg w Z t v) (e : keyT t = some k) : v = kV k := by
  cases h <;> simp [keyT] at e
  · subst e; rfl
  · subst e; rfl
theorem Trd.length : ∀ {kts : List (T × T)} {kvs : List (Key × V)}, Trd K mg w Z kts kvs → kts.length = kvs.length
  | _, _, .nil => rfl
  | _, _, .cons _ _ r => by rw [List.length_cons, List.length_cons, Trd.length r]
theorem Trs.at {ts : List T} {vs : List V} {i : Int} {t : T} (h : Trs K mg w Z ts vs) (e : atI ts i = some t) : ∃ v, atI vs i = some v ∧ Tr K mg w Z t v := by
  unfold atI at e ⊢
  rw [← h.length]
  cases q : ixN ts.length i with
  | none => rw [q] at e; cases e
  | some j =>
    rw [q] at e
    exact h.get e
end
section
variable {M : Km} {X : Cx} {w : Wd} {E : XK} {k : Nat}
/-! ### a[b] -/
def fIx : T → T → G T
  | .tup ts, .int i => match atI ts i with | some t => .ret t | none => .stuck
  | .lst ts, .int i => match atI ts i with | some t => .ret t | none => .stuck
  | .str z, .int i => if fits z.length then (match atI z.cps.toList i with | some c => .ret (.str ⟨#[c]⟩) | none => .stuck) else .stuck
  | .dic kvs, q => match keyT q with
    | some k => (match dGet kvs k with | some t => .ret t | none => .stuck)
    | none => .stuck
  | .dn kvs, q => match tupKey q with
    | some k => (match nGet kvs k with | some t => .ret t | none => .stuck)
    | none => .stuck
  | _, _ => .stuck
def rDGet : R2 := fun x y H Q => ∃ a v, x = .ref a ∧ DGet H a y (some v) ∧ Q v H
theorem ix_dict (hu : X.A.units + 1 < cLine) : IxR X rDGet := by
  intro value slice pins s σ H x y v u Q I rx ry h hs
  obtain ⟨a, d, rfl, g, q⟩ := h
  cases rx
  exact tail_any (dict_typeIs I g) PySem.F.slot_dict_getitem.lookup (d_getItem hu I g ry fun w' s' I' r => ⟨d, H, I', r, q⟩) hs
def rIxA (K : PySem.W.Frag) : R2 := fun x y H Q => rIx K x y H Q ∨ rDGet x y H Q
theorem o_ix (hr : Room k X.A) : IxR X (rIxA X.K) := ix_seq.or (ix_dict (hu_of hr))
def rIxB (M : Km) : R2 := fun x y H Q => rIxA M.K x y H Q ∨ rIxN M x y H Q
theorem o_ixB (hr : Room k X.A) : IxR X (rIxB X.km) := (o_ix hr).or (ix_N (by have := hr.un; omega))
theorem t2_ix : T2 M w E (rIxB M) fIx := fun H0 Z0 r σ H Z o R a b x y Q ta tb hw => by
  cases ta with
  | @tup ts p vs h l tr =>
    cases tb with
    | int i =>
      simp only [fIx] at hw
      cases e : atI ts i with
      | none => rw [e] at hw; exact hw.elim
      | some t =>
        rw [e] at hw
        obtain ⟨v, hv, tv⟩ := tr.at e
        exact .inl (.inl (.inr (.inl ⟨p, vs, i, v, rfl, rfl, R.good.sqT h, hv, hw v H Z (Grow.refl R.good) tv⟩)))
    | _ => exact hw.elim
  | @lst ts p vs h l tr =>
    cases tb with
    | int i =>
      simp only [fIx] at hw
      cases e : atI ts i with
      | none => rw [e] at hw; exact hw.elim
      | some t =>
        rw [e] at hw
        obtain ⟨v, hv, tv⟩ := tr.at e
        exact .inl (.inl (.inl ⟨p, vs, i, v, rfl, rfl, SqL.of (R.good.zh _ _ h), hv, hw v H Z (Grow.refl R.good) tv⟩))
    | _ => exact hw.elim
  | str z =>
    cases tb with
    | int i =>
      simp only [fIx] at hw
      by_cases hz : fits z.length = true
      · rw [if_pos hz] at hw
        cases e : atI z.cps.toList i with
        | none => rw [e] at hw; exact hw.elim
        | some c => rw [e] at hw; exact .inl (.inl (.inr (.inr ⟨z, i, c, rfl, rfl, fits_line hz, e, hw _ H Z (Grow.refl R.good) (.str _)⟩)))
      · rw [if_neg hz] at hw; exact hw.elim
    | _ => exact hw.elim
  | @dic kts p kvs h l tr =>
    simp only [fIx] at hw
    cases ek : keyT b with
    | none => rw [ek] at hw; exact hw.elim
    | some key =>
      rw [ek] at hw
      have ey := tb.key ek
      rcases tr.get (k := key) with ⟨e1, _⟩ | ⟨t, v, e1, e2, tv⟩
      · simp only [e1] at hw; exact hw.elim
      · simp only [e1] at hw
        exact .inl (.inr ⟨p, v, rfl, .inl ⟨kvs, key, Sub.rd R.good.zh h.rd, ey, e2.symm⟩, hw v H Z (Grow.refl R.good) tv⟩)
  | @dn kts p xs h l nd tr =>
    simp only [fIx] at hw
    cases ek : tupKey b with
    | none => rw [ek] at hw; exact hw.elim
    | some key =>
      rw [ek] at hw
      obtain ⟨q, d, rfl, hd, hn, h8, _⟩ := tb.tupKey R.good.zh ek
      rcases tr.get (key := key) with ⟨e1, _, _⟩ | ⟨t, v, e1, e2, _, tv⟩
      · simp only [e1] at hw; exact hw.elim
      · simp only [e1] at hw
        exact .inr ⟨q, p, xs, d, key, v, rfl, rfl, by rw [← R.wo.1]; exact h.mono R.good.zh, tr.keysN R.good.zh nd, hd, hn, h8, e2, hw v H Z (Grow.refl R.good) tv⟩
  | _ => exact hw.elim

/-! ### len -/
def fLen : List T → G T
  | [.tup ts] => .ret (.int ts.length)
  | [.lst ts] => .ret (.int ts.length)
  | [.scr ns] => .ret (.int ns.length)
  | [.dic kvs] => .ret (.int kvs.length)
  | [.dn kvs] => .ret (.int kvs.length)
  | [.str z] => if fits z.length then .ret (.int z.length) else .stuck
  | _ => .stuck
def rLen (K : PySem.W.Frag) : List V → Hp → VK → Prop := fun xs H Q => (∃ p ys, xs = [.ref p] ∧ (SqL K H p ys ∨ SqT K H p ys) ∧ Q (.int ys.length) H) ∨ (∃ z, xs = [.str z] ∧ z.length ≤ sizeLine ∧ Q (.int z.length) H) ∨ ∃ a kvs, xs = [.ref a] ∧ Rd H a (.dK kvs) ∧ Q (.int kvs.length) H
theorem call_lenR : CallR X (.builtin "len") (fun xs H Q => ∃ a kvs, xs = [.ref a] ∧ Rd H a (.dK kvs) ∧ Q (.int kvs.length) H) := by
  intro pins s σ H xs us Q I r h
  obtain ⟨a, kvs, rfl, e, q⟩ := h
  obtain ⟨u, rfl, ru⟩ := vals1 r
  cases ru
  exact d_len I e fun t s' I' => ⟨.int kvs.length, H, I', ⟨t, rfl⟩, q⟩
theorem o_len : CallR X (.builtin "len") (rLen X.K) := call_len_seq.or (call_len_str.or call_lenR)
def rLenN (M : Km) : List V → Hp → VK → Prop := fun vs H Q => ∃ d xs, vs = [.ref d] ∧ AtN M.pw H d xs ∧ KeysN M.K H xs ∧ xs.length ≤ 16000000 ∧ Q (.int xs.length) H
theorem call_lenN : CallR X (.builtin "len") (rLenN X.km) := by
  intro pins s σ H vs us Q I r h
  obtain ⟨d, xs, rfl, hd, hk, hl, q⟩ := h
  obtain ⟨u, rfl, ru⟩ := vals1 r
  cases ru
  obtain ⟨hm, us, hr, hdict⟩ := dn_dict I hd hk
  have e := hr.len
  refine call_len_dictH hm hdict (by omega) ?_
  rw [e]
  exact ⟨.int xs.length, H, I.tok _, ⟨_, rfl⟩, q⟩
def rLenB (M : Km) : List V → Hp → VK → Prop := fun xs H Q => rLen M.K xs H Q ∨ rLenN M xs H Q
theorem o_lenB : CallR X (.builtin "len") (rLenB X.km) := o_len.or call_lenN
theorem tn_len : TN M w E (rLenB M) fLen := fun H0 Z0 r σ H Z o R ts vs Q tr hw => by
  cases tr with
  | nil => exact hw.elim
  | cons t1 t2 =>
    cases t2 with
    | cons => cases t1 <;> exact hw.elim
    | nil =>
      cases t1 with
      | @tup ts p vs h l tr =>
        have q : Q (.int ts.length) H := hw _ H Z (Grow.refl R.good) (.int _)
        rw [tr.length] at q
        exact .inl (.inl ⟨p, vs, rfl, .inr (R.good.sqT h), q⟩)
      | @lst ts p vs h l tr =>
        have q : Q (.int ts.length) H := hw _ H Z (Grow.refl R.good) (.int _)
        rw [tr.length] at q
        exact .inl (.inl ⟨p, vs, rfl, .inl (SqL.of (R.good.zh _ _ h)), q⟩)
      | @scr ns p h l =>
        have q : Q (.int ns.length) H := hw _ H Z (Grow.refl R.good) (.int _)
        exact .inl (.inl ⟨p, _, rfl, .inl (R.good.sqL h), by rw [List.length_map]; exact q⟩)
      | @dic kts p kvs h l tr =>
        have q : Q (.int kts.length) H := hw _ H Z (Grow.refl R.good) (.int _)
        rw [tr.length] at q
        exact .inl (.inr (.inr ⟨p, kvs, rfl, Sub.rd R.good.zh h.rd, q⟩))
      | @dn kts p xs h l nd tr =>
        have q : Q (.int kts.length) H := hw _ H Z (Grow.refl R.good) (.int _)
        rw [tr.len] at q
        exact .inr ⟨p, xs, rfl, by rw [← R.wo.1]; exact h.mono R.good.zh, tr.keysN R.good.zh nd, l, q⟩
      | str z =>
        simp only [fLen] at hw
        by_cases hz : fits z.length = true
        · rw [if_pos hz] at hw
          exact .inl (.inr (.inl ⟨z, rfl, fits_line hz, hw _ H Z (Grow.refl R.good) (.int _)⟩))
        · rw [if_neg hz] at hw; exact hw.elim
      | _ => exact hw.elim

/-! ### in -/
def fInB (neg : Bool) : T → T → G T := fun a b => match b with
  | .dic kvs => (match keyT a with | some k => .ret (.bl (neg != (dGet kvs k).isSome)) | none => .stuck)
  | .dn kvs => (match tupKey a with | some k => .ret (.bl (neg != (nGet kvs k).isSome)) | none => .stuck)
  | .lst ts => if okT a && okT (.lst ts) then .ret (.bl (neg != ts.any fun t => eqT t a)) else .stuck
  | .tup ts => if flatT a && ts.all flatT then .ret (.bl (neg != ts.any fun t => eqT t a)) else .stuck
  | .str z => (match a with | .str y => .ret (.bl (neg != !(Builtin.Str.occurrences z y 0 z.length 1).isEmpty)) | _ => .stuck)
  | _ => .stuck
where flatT : T → Bool
  | .non | .bl _ | .int _ | .str _ => true
  | _ => false
abbrev fIn := fInB false
abbrev fNotIn := fInB true
def rInA (K : PySem.W.Frag) (neg : Bool) : R2 := fun x y H Q => (∃ a o, y = .ref a ∧ DGet H a x o ∧ Q (.bl (neg != o.isSome)) H) ∨ (∃ d ds, Dp K H x d ∧ Dp K H y (.list ds) ∧ SeqAt.shaped d = true ∧ SeqAt.shaped (.list ds) = true ∧ Q (.bl (neg != ds.any fun z => PyData.eqv z d)) H) ∨
  (∃ p xs, y = .ref p ∧ SqT K H p xs ∧ flatV x = true ∧ xs.all flatV = true ∧ Q (.bl (neg != inV x xs)) H) ∨ ∃ i j, x = .str i ∧ y = .str j ∧ Q (.bl (neg != !(Builtin.Str.occurrences j i 0 j.length 1).isEmpty)) H
def rInB (M : Km) (neg : Bool) : R2 := fun x y H Q => rInA M.K neg x y H Q ∨ rInN M neg x y H Q
end
end TL
end s_TL9
section s_TL10
set_option Elab.async false
set_option linter.all false
set_option maxRecDepth 100000
set_option maxHeartbeats 4000000
/-! TL10: slices, any, all, tuple, list, attributes, stars, kinds -/
namespace TL
open PySem PySem.Spec PyProof.Rows L2
section
variable {M : Km} {X : Cx} {w : Wd} {E : XK} {k : Nat} {e a b : Expr} {es : List Expr} {ca cb : EC} {cs : List Sl → G (List T)} {pos p2 : Pos}
variable {H0 Z0 H Z Z1 : Hp} {r : List Sl} {σ : L2.St} {o : Nat → List Addr}
/-! ### slices -/
def cutT (ts : List T) (lo hi : Option Int) : List T := (ts.drop (HT.sIx ts.length 0 lo)).take (HT.sIx ts.length ts.length hi - HT.sIx ts.length 0 lo)
def fSl : T → Option Int → Option Int → G T
  | .tup ts, lo, hi => .ret (.tup (cutT ts lo hi))
  | .lst ts, lo, hi => .ret (.lst (cutT ts lo hi))
  | .str z, lo, hi => if fits z.length then .ret (.str (cutS z lo hi)) else .stuck
  | _, _, _ => .stuck
def PostO (w : Wd) (H Z : Hp) (Q : Option Int → Hp → Prop) : Option Int → Prop := fun i => ∀ H' Z', Grow w H Z H' Z' → Q i H'
def EvO (X : Km) (w : Wd) (E : XK) (c : List Sl → G (Option Int)) : TO := fun σ H Q => ∃ H0 Z0 r Z o, EnvR X w H0 Z0 r σ H Z o ∧ (c r).wp (PostO w H Z Q) (PostX X w E H0 Z0)
structure CO (X : Cx) (w : Wd) (E : XK) (e : Option Expr) (c : List Sl → G (Option Int)) : Prop where
  po : PO X e (EvO X.km w E c)
def coNone : List Sl → G (Option Int) := fun _ => .ret none
def coSome (c : EC) : List Sl → G (Option Int) := fun r => c r >>= fun t => match t with | .int i => .ret (some i) | _ => .stuck
def cSl (ca : EC) (c1 c2 : List Sl → G (Option Int)) : EC := fun r => ca r >>= fun a => c1 r >>= fun l => c2 r >>= fun u => fSl a l u
def rSlAll (K : PySem.W.Frag) : V → Option Int → Option Int → Hp → VK → Prop := fun x lo hi H Q => rSlA K x lo hi H Q ∨ rSlL K x lo hi H Q ∨ rSlS x lo hi H Q
/-! ### any, all of a list of bools; tuple(x), list(x) -/
def bls : List T → Option (List Bool)
  | [] => some []
  | .bl b :: ts => (bls ts).map (b :: ·)
  | _ => none
theorem Trs.bls {K : PySem.W.Frag} {mg : Str → Option Value} {Z : Hp} : ∀ {ts : List T} {vs : List V} {bs : List Bool}, Trs K mg w Z ts vs → TL.bls ts = some bs → vs = bs.map V.bl
  | _, _, _, .nil, e => by simp only [TL.bls, Option.some.injEq] at e; subst e; rfl
  | _, _, _, .cons (t := t) h r, e => by
    cases h <;> simp only [TL.bls, Option.map_eq_some_iff, reduceCtorEq] at e
    obtain ⟨bs, e1, rfl⟩ := e
    rw [Trs.bls r e1]; rfl
def fAny : List T → G T
  | [.lst ts] => (match bls ts with | some bs => .ret (.bl (bs.any id)) | none => .stuck)
  | _ => .stuck
def fAll : List T → G T
  | [.lst ts] => (match bls ts with | some bs => .ret (.bl (bs.all id)) | none => .stuck)
  | _ => .stuck
def fTuple : List T → G T
  | [.lst ts] => .ret (.tup ts)
  | [.tup ts] => .ret (.tup ts)
  | _ => .stuck
def rTuple (K : PySem.W.Frag) : List V → Hp → VK → Prop := fun xs H Q => ∃ p ys, xs = [.ref p] ∧ ((SqL K H p ys ∧ ∀ l, H l = none → Q (.ref l) (upd H l (.tup ys))) ∨ (SqT K H p ys ∧ Q (.ref p) H))
def fList : List T → G T
  | [.lst ts] => .ret (.lst ts)
  | [.tup ts] => .ret (.lst ts)
  | _ => .stuck
def rListOf (K : PySem.W.Frag) : List V → Hp → VK → Prop := fun xs H Q => ∃ p ys, xs = [.ref p] ∧ (SqL K H p ys ∨ SqT K H p ys) ∧ ∀ l, H l = none → Q (.ref l) (upd H l (.lst ys))
/-! ### attributes of an instance -/
def fFld (c f : Str) : T → G T
  | .ins d fs => if d = c then (match fs.lookup f with | some t => .ret t | none => .stuck) else .stuck
  | _ => .stuck
def cFld (c f : Str) (ca : EC) : EC := fun r => ca r >>= fFld c f
theorem Trf.get {K : PySem.W.Frag} {mg : Str → Option Value} {Z : Hp} {f : Str} : ∀ {fs : List (Str × T)} {gs : List (Str × V)} {t : T}, Trf K mg w Z fs gs → fs.lookup f = some t → ∃ v, gs.lookup f = some v ∧ Tr K mg w Z t v
  | _, _, _, .nil, e => by cases e
  | _, _, t, .cons (f := g) h r, e => by
    by_cases hg : (f == g) = true
    · simp only [List.lookup, hg, Option.some.injEq] at e ⊢
      subst e
      exact ⟨_, rfl, h⟩
    · have hg' : (f == g) = false := by simpa using hg
      simp only [List.lookup, hg'] at e ⊢
      exact Trf.get r e
/-- what of the text an own class must have -/
structure ClsT (X : Cx) (c : Str) (C : Addr) : Prop where
  mg : X.mg c = some (.ref C)
  cls : Cls X.K C
/-! ### *e in displays -/
def caStar (c : EC) (cs : List Sl → G (List T)) : List Sl → G (List T) := fun r => c r >>= seqOf >>= fun us => cs r >>= fun ts => .ret (us ++ ts)
/-- displays with stars: the size is looked at -/
def cTupS (cs : List Sl → G (List T)) : EC := fun r => cs r >>= fun ts => if fits ts.length then .ret (.tup ts) else .stuck
def cLstS (cs : List Sl → G (List T)) : EC := fun r => cs r >>= fun ts => if fits ts.length then .ret (.lst ts) else .stuck
end
end TL
end s_TL10
section s_TL11
set_option Elab.async false
set_option linter.all false
set_option maxRecDepth 100000
set_option maxHeartbeats 4000000
/-! TL11: isinstance; int, abs, min, max; range, texts walked -/
namespace TL
open PySem PySem.Spec PyProof.Rows L2
def tyName : T → Option String
  | .non => some "NoneType"
  | .bl _ => some "bool"
  | .int _ => some "int"
  | .str _ => some "str"
  | .tup _ => some "tuple"
  | .lst _ => some "list"
  | .scr _ => some "list"
  | .dic _ => some "dict"
  | _ => none
def subTy (a b : String) : Bool := a == b || (a == "bool" && b == "int")
inductive Cl where
  | ty (n : String) | own (c : Str)
def aTys : List String := ["NoneType", "bool", "int", "str", "tuple", "list", "dict"]
def bTys : List String := ["int", "str", "bool", "tuple", "list", "dict"]
/-- what is known of the own class c (of whose instances isinstance may be asked) -/
structure InsF (K : PySem.W.Frag) (mg : Str → Option Value) (c : Str) (C : Addr) : Prop where
  mg : mg c = some (.ref C)
  cls : Cls K C
  ha : PySem.W.findIn K (.ref C) "__class__" = some (some (.builtin "object.__class__"))
  hn : PySem.W.specialIn K (.builtin "object.__class__") "__get__" = some (some (.builtin "getset_descriptor.__get__"))
  ht : PySem.W.takesIn K (.builtin "object.__class__") = some true
  hm : PySem.W.mroIn K C (.type "object") = some true
  kt : ∀ b ∈ bTys, PySem.W.kitOne K (.ref C) (.type b) = some false
  tk : ∀ a ∈ aTys, PySem.W.kitOne K (.type a) (.ref C) = some false
  self : PySem.W.kitOne K (.ref C) (.ref C) = some true
/-- c0: the own class -/
def isi1 (c0 : Str) (t : T) : Cl → Option Bool
  | .ty b => if bTys.contains b then (match t with
    | .ins d _ => if d = c0 then some false else none
    | t => (tyName t).map (subTy · b)) else none
  | .own c => if c = c0 then (match t with
    | .ins d _ => if d = c0 then some true else none
    | t => (tyName t).map fun _ => false) else none
def isiL (c0 : Str) (t : T) : List Cl → Option Bool
  | [] => some false
  | c :: cs => match isi1 c0 t c with
    | some true => some true
    | some false => isiL c0 t cs
    | none => none
def fIsi (c0 : Str) (cls : List Cl) (t : T) : G T := match isiL c0 t cls with
  | some b => .ret (.bl b)
  | none => .stuck
/-- a class as a value -/
inductive ClOf (mg : Str → Option Value) : Cl → V → Value → Prop
  | ty (n : String) : ClOf mg (.ty n) (.ty n) (.type n)
  | own {c : Str} {C : Addr} : mg c = some (.ref C) → ClOf mg (.own c) (.ref C) (.ref C)
theorem ClOf.v {mg : Str → Option Value} {c : Cl} {v : V} {u : Value} (h : ClOf mg c v u) : ClsV v u := by cases h with
  | ty n => exact .ty n
  | own m => exact .own _
section
variable {M : Km} {X : Cx} {w : Wd} {E : XK} {k : Nat} {e a b : Expr} {es : List Expr} {ca cb : EC} {cs : List Sl → G (List T)} {pos p p1 p2 : Pos} {c0 : Str} {C : Addr}
theorem tyName_in {t : T} {n : String} (h : tyName t = some n) : n ∈ aTys := by
  cases t <;> simp only [tyName, Option.some.injEq, reduceCtorEq] at h <;> (subst h; decide)
theorem ty_of {H Z : Hp} {t : T} {x : V} {n : String} (g : Good w H Z) (h : Tr M.K M.mg w Z t x) (e : tyName t = some n) : TyX M.K H x (.type n) := by
  cases h with
  | non => cases e; exact .base .non
  | bl b => cases e; exact .base (.bl b)
  | int i => cases e; exact .base (.int i)
  | str z => cases e; exact .base (.str z)
  | @tup ts p vs h l tr =>
    cases e
    rcases g.sqT h with (h | ⟨o, h⟩) | ⟨o, its, n, hk, hc, _⟩
    · exact .base (.tup h)
    · exact .fTuple h
    · exact .kTuple hk hc
  | @lst ts p vs h l tr => cases e; exact .base (.lst (g.zh _ _ h))
  | dn _ _ _ _ => cases e
  | adr _ => cases e
  | @dic kts p kvs h l tr =>
    cases e
    rcases Sub.rd g.zh h.rd with h | ⟨o, h⟩
    · exact .base (.dK h)
    · exact .fDict h
  | @scr ns p h l =>
    cases e
    rcases g.sqL h with (h | ⟨o, h⟩) | ⟨o, its, n, hk, hc, _⟩
    · exact .base (.lst h)
    · exact .base (.frz h)
    · exact .kList hk hc
  | ty _ => cases e
  | ins _ _ _ _ => cases e
  | fn _ => cases e
  | drw _ => cases e
  | exc0 _ _ => cases e
  | excD _ _ _ _ => cases e
  | excS _ _ _ => cases e
  | clo _ _ => cases e
/-- classes as constants -/
structure PAc (X : Cx) (es : List Expr) (vs : List V) : Prop where
  pa : PA X es (fun _ H Q => Q vs H)
/-! ### numbers by built-ins -/
def fInt : List T → G T
  | [.int i] => .ret (.int i)
  | [.bl b] => .ret (.int (if b then 1 else 0))
  | _ => .stuck
theorem tn_int : TN M w E (fun xs H Q => (∃ i, xs = [.int i] ∧ Q (.int i) H) ∨ ∃ k, xs = [.bl k] ∧ Q (.int (if k then 1 else 0)) H) fInt := fun H0 Z0 r σ H Z o R ts vs Q tr hw => by
  cases tr with
  | nil => exact False.elim hw
  | cons t1 t2 =>
    cases t2 with
    | cons => cases t1 <;> exact False.elim hw
    | nil =>
      cases t1 with
      | int i => exact .inl ⟨i, rfl, hw _ H Z (Grow.refl R.good) (.int _)⟩
      | bl b => exact .inr ⟨b, rfl, hw _ H Z (Grow.refl R.good) (.int _)⟩
      | _ => exact False.elim hw
def fAbs : List T → G T
  | [.int i] => .ret (.int (if i < 0 then -i else i))
  | _ => .stuck
theorem tn_abs : TN M w E (fun xs H Q => ∃ i, xs = [.int i] ∧ Q (.int (if i < 0 then -i else i)) H) fAbs := fun H0 Z0 r σ H Z o R ts vs Q tr hw => by
  cases tr with
  | nil => exact False.elim hw
  | cons t1 t2 =>
    cases t2 with
    | cons => cases t1 <;> exact False.elim hw
    | nil =>
      cases t1 with
      | int i => exact ⟨i, rfl, hw _ H Z (Grow.refl R.good) (.int _)⟩
      | _ => exact False.elim hw
def fMax2 : List T → G T
  | [.int i, .int j] => .ret (.int (if j > i then j else i))
  | _ => .stuck
def fMin2 : List T → G T
  | [.int i, .int j] => .ret (.int (if j < i then j else i))
  | _ => .stuck
theorem tn_min2 : TN M w E (fun xs H Q => ∃ i j, xs = [.int i, .int j] ∧ Q (.int (if j < i then j else i)) H) fMin2 := fun H0 Z0 r σ H Z o R ts vs Q tr hw => by
  cases tr with
  | nil => exact False.elim hw
  | cons t1 t2 =>
    cases t2 with
    | nil => cases t1 <;> exact False.elim hw
    | cons t2 t3 =>
      cases t1 with
      | int i =>
        cases t2 with
        | int j => cases t3 with
          | nil => exact ⟨i, j, rfl, hw _ H Z (Grow.refl R.good) (.int _)⟩
          | cons => exact False.elim hw
        | _ => exact False.elim hw
      | _ => exact False.elim hw

/-! ### range and texts, walked -/
def rngT (a : Int) : Nat → List T
  | 0 => []
  | n + 1 => .int a :: rngT (a + 1) n
theorem rngT_get : ∀ (a : Int) (n i : Nat), (rngT a n)[i]? = if i < n then some (.int (a + i)) else none
  | a, 0, i => by simp [rngT]
  | a, n + 1, 0 => by simp [rngT]
  | a, n + 1, i + 1 => by
    simp only [rngT, List.getElem?_cons_succ, rngT_get (a + 1) n i, Nat.add_lt_add_iff_right]
    split
    · congr 2; omega
    · rfl
theorem rngT_length : ∀ (a : Int) (n : Nat), (rngT a n).length = n
  | _, 0 => rfl
  | a, n + 1 => by simp [rngT, rngT_length]
theorem iter_range (lo : Int) (n : Nat) {Zs : Hp} : IterOk M w (Itr lo n) (rngT lo n) Zs := fun i H Z s g => by
  refine ⟨fun t ht => ?_, fun hl => by rw [rngT_length] at hl; exact Nat.le_of_eq hl⟩
  rw [rngT_get] at ht
  split at ht
  · rename_i hi
    cases ht
    refine ⟨hi, fun x H' y => ?_⟩
    obtain ⟨rfl, rfl⟩ := y
    exact ⟨Z, Grow.refl g, .int _⟩
  · cases ht
def rgOf : List T → G (List T)
  | [.int j] => if decide (-(2 ^ 62) ≤ j) && decide (j < 1000000) then .ret (rngT 0 j.toNat) else .stuck
  | _ => .stuck
theorem million : (2000000 : Nat) ≤ sizeLine := by rw [sizeLine_eq]; decide
variable {tg : Expr}
theorem ci_range1 (hg : Gl X "range") (hm : X.mg "range" = none) (ha : CA X w E [a] cs) (hs : starEach [a] X.env = [(false, eval a X.env)] := by rfl) : CI X w E tg (.Call (.Name "range" p) [a] [] pos) (fun r => cs r >>= rgOf) := by
  refine ⟨piImp (pi_range1 hg hm ha.pa hs) fun σ H Rr h => ?_⟩
  obtain ⟨H0, Z0, r, Z, o, R, h⟩ := h
  refine evSeqA (P := fun H Z => fun ts => ∀ J H' Z', Grow w H Z H' Z' → ts.length ≤ sizeLine → IterOk X.km w J ts Z' → Rr J H') R (fun g h J H' Z' g' => h J H' Z' (g.trans g')) h fun xs H1 Z1 ts R1 g1 t1 h1 => ?_
  cases t1 with
  | nil => exact False.elim h1
  | cons t1 t2 =>
    cases t2 with
    | cons t3 t4 => cases t1 <;> exact False.elim h1
    | nil =>
      cases t1 with
      | int j =>
        simp only [rgOf] at h1
        split at h1
        · rename_i hc
          rw [Bool.and_eq_true] at hc
          have c1 := of_decide_eq_true hc.1
          have c2 := of_decide_eq_true hc.2
          refine ⟨j, rfl, c1, by omega, h1 _ H1 Z1 (Grow.refl R1.good) ?_ (iter_range 0 j.toNat)⟩
          rw [rngT_length]
          exact Nat.le_trans (by omega) million
        · exact False.elim h1
      | _ => exact False.elim h1
end
end TL
end s_TL11
section s_TL12
set_option Elab.async false
set_option linter.all false
set_option maxRecDepth 100000
set_option maxHeartbeats 4000000
/-! TL12: a slot's own thing is written; values looked at in passing; several values at once -/
namespace TL
open PySem PySem.Spec PyProof.Rows L2
section
variable {K : PySem.W.Frag} {mg : Str → Option Value} {w : Wd} {Z H : Hp} {t : T} {p : Addr} {o : List Addr}
def notTup : T → Bool
  | .tup _ => false
  | _ => true
theorem Root.mem (r : Root K mg w Z H t p o) (hn : notTup t = true := by rfl) : p ∈ o := by
  cases t <;> try exact False.elim r
  case tup ts => cases hn
  case lst ts => obtain ⟨rfl, _⟩ := r; simp
  case dic ts => obtain ⟨rfl, _⟩ := r; simp
  case dn ts => obtain ⟨rfl, _⟩ := r; simp
  case ins c fs => obtain ⟨C, dx, gs, rfl, _⟩ := r; simp
end
section
variable {X : Km} {w : Wd} {H0 Z0 H Z : Hp} {r : List Sl} {σ : L2.St} {o : Nat → List Addr}
theorem EnvR.own (R : EnvR X.km w H0 Z0 r σ H Z o) {i : Nat} {t : T} (hr : r[i]? = some (.ow t)) : ∃ p, σ[i]? = some (some (.ref p)) ∧ Root X.K X.mg w Z H t p (o i) := by
  have hi : i < σ.length := by
    have := (List.getElem?_eq_some_iff.mp hr).1
    rw [R.len] at this; exact this
  obtain ⟨p, ev, rt⟩ := R.sl i _ _ hr (List.getElem?_eq_getElem hi)
  exact ⟨p, (List.getElem?_eq_getElem hi).trans (congrArg some ev), rt⟩
end
/-- a list or dict -/
def tyT : T → Option String
  | .lst _ => some "list"
  | .dic _ => some "dict"
  | _ => none
theorem Root.ty {K : PySem.W.Frag} {mg : Str → Option Value} {w : Wd} {Z H : Hp} {t : T} {p : Addr} {o : List Addr} {n : String} (r : Root K mg w Z H t p o) (e : tyT t = some n) : tyV K n (.ref p) H := by
  cases t <;> simp only [tyT, Option.some.injEq, reduceCtorEq] at e
  case lst ts => subst e; obtain ⟨_, vs, h, _⟩ := r; exact .inl ⟨rfl, vs, .inl (.inl h)⟩
  case dic ts => subst e; obtain ⟨_, vs, h, _⟩ := r; exact .inr (.inr (.inl ⟨rfl, .inl ⟨vs, h⟩⟩))
/-- a method that writes its receiver and answers None -/
def MutR (X : Km) (w : Wd) (rd : V → List V → Hp → VK → Prop) (F : T → List T → Option T) : Prop := ∀ H Z p o t ts vs t' (Q : VK), Good w H Z → (∀ a ∈ o, Z a = none) → Root X.K X.mg w Z H t p o → Trs X.K X.mg w Z ts vs → F t ts = some t' →
  (∀ u, Root X.K X.mg w Z (upd H p u) t' p o → Q .non (upd H p u)) → rd (.ref p) vs H Q
def cMut (ty : String) (i : Nat) (F : T → List T → Option T) (cs : List Sl → G (List T)) : SC := fun r => match r[i]? with
  | some (.ow t) => if tyT t = some ty then cs r >>= fun ts => (match F t ts with | some t' => .ret (.nx (r.set i (.ow t'))) | none => .stuck) else .stuck
  | _ => .stuck
section
variable {X : Cx} {w : Wd} {E : XK} {fr : Bool} {H0 Z0 H Z : Hp} {r : List Sl} {σ : L2.St} {o : Nat → List Addr} {D : Ends} {pos apos cpos p0 : Pos} {e : Expr} {es : List Expr} {cs : List Sl → G (List T)} {ca : EC}
/-! ### the writing methods -/
def mAppend : T → List T → Option T
  | .lst ts, [t] => if fits (ts.length + 1) then some (.lst (ts ++ [t])) else none
  | _, _ => none
theorem trs1 {K : PySem.W.Frag} {mg : Str → Option Value} {t : T} {vs : List V} (h : Trs K mg w Z [t] vs) : ∃ v, vs = [v] ∧ Tr K mg w Z t v := by
  cases h with
  | cons a b => cases b; exact ⟨_, rfl, a⟩
def mExtend : T → List T → Option T
  | .lst ts, [.lst us] => if fits (ts.length + us.length) then some (.lst (ts ++ us)) else none
  | _, _ => none
def mInsert : T → List T → Option T
  | .lst ts, [.int i, t] => if decide (0 ≤ i) && decide (i < 1000000) && fits (ts.length + 1) then some (.lst (ts.take i.toNat ++ [t] ++ ts.drop i.toNat)) else none
  | _, _ => none
/-! ### dicts -/
def putT (kts : List (T × T)) (k t : T) : List (T × T) := if kts.any (fun p => decide (keyT p.1 = keyT k)) = true then kts.map (fun p => if keyT p.1 = keyT k then (p.1, t) else p) else kts ++ [(k, t)]
def mergeT (kts more : List (T × T)) : List (T × T) := more.foldl (fun acc p => putT acc p.1 p.2) kts
section
variable {K : PySem.W.Frag} {mg : Str → Option Value} {kts more : List (T × T)} {kvs mvs : List (Key × V)} {k t : T} {key : Key} {v : V}
theorem Trd.any (hk : keyT k = some key) : ∀ {kts : List (T × T)} {kvs : List (Key × V)}, Trd K mg w Z kts kvs → (kts.any fun p => decide (keyT p.1 = keyT k)) = kvs.any fun p => decide (p.1 = key)
  | _, _, .nil => rfl
  | _, _, .cons e _ b => by
    rw [List.any_cons, List.any_cons, Trd.any hk b]
    congr 1
    rw [e, hk]
    simp
theorem Trd.append : ∀ {kts more : List (T × T)} {kvs mvs : List (Key × V)}, Trd K mg w Z kts kvs → Trd K mg w Z more mvs → Trd K mg w Z (kts ++ more) (kvs ++ mvs)
  | _, _, _, _, .nil, s => s
  | _, _, _, _, .cons e a b, s => .cons e a (Trd.append b s)
theorem Trd.repl (hk : keyT k = some key) (h : Tr K mg w Z t v) : ∀ {kts : List (T × T)} {kvs : List (Key × V)}, Trd K mg w Z kts kvs →
    Trd K mg w Z (kts.map (fun p => if keyT p.1 = keyT k then (p.1, t) else p)) (kvs.map (fun kv => if kv.1 = key then (kv.1, v) else kv))
  | _, _, .nil => .nil
  | _, _, @Trd.cons _ _ _ _ k1 key1 t1 v1 _ _ e a b => by
    rw [List.map_cons, List.map_cons]
    by_cases q : key1 = key
    · have q' : keyT k1 = keyT k := by rw [e, hk, q]
      simp only [if_pos q, if_pos q']
      exact .cons e h (Trd.repl hk h b)
    · have q' : ¬ keyT k1 = keyT k := by rw [e, hk]; simp [q]
      simp only [if_neg q, if_neg q']
      exact .cons e a (Trd.repl hk h b)
theorem Trd.put (r : Trd K mg w Z kts kvs) (hk : keyT k = some key) (h : Tr K mg w Z t v) : Trd K mg w Z (putT kts k t) (putK kvs key v) := by
  unfold putT putK
  rw [Trd.any hk r]
  split
  · exact r.repl hk h
  · exact r.append (.cons hk h .nil)
end
/-- d.update(d2) -/
def rUpdate : V → List V → Hp → VK → Prop := fun x vs H Q => ∃ a b kvs more, x = .ref a ∧ vs = [.ref b] ∧ a ≠ b ∧ H a = some (.dK kvs) ∧ Rd H b (.dK more) ∧ kvs.length + more.length ≤ sizeLine ∧ Q .non (upd H a (.dK (mergeK kvs more)))
def mUpdate : T → List T → Option T
  | .dic ts, [.dic us] => if fits (ts.length + us.length) then some (.dic (mergeT ts us)) else none
  | _, _ => none
end
end TL
end s_TL12
section s_TL13
set_option Elab.async false
set_option linter.all false
set_option maxRecDepth 100000
set_option maxHeartbeats 4000000
/-! TL13: zip of any two things that are walked -/
namespace TL
open PySem PySem.Spec PyProof.Rows L2
section
variable {prog : Program} {w : World} {A : Around} {E : Value → Shared → Prop} {s : Shared}
end

/-- a thing that is walked, at the level of the heap: its items, the iterator that is laid, what the iterator says at each turn -/
structure Raw1 (prog : Program) (w : World) (a : Addr) (items : Array Value) (ob : Obj) (st : Addr → Nat → Heap → Prop) (fact : Heap → Prop) : Prop where
  iter : ∀ (A : Around) (E : Value → Shared → Prop) (s : Shared) (Q : Value → Shared → Prop), fact s.heap → Q (.ref s.heap.objs.size) { s with heap := s.heap.push ob } → wpAny (model prog w) A (pyIter (.ref a)) Q E s
  st0 : ∀ h : Heap, st h.objs.size 0 (h.push ob)
  draws : ∀ (A : Around) (it : Addr), A.handled = none → a ≠ it → Draws prog w A it [it, a] items.size (fun i v => items[i]? = some v) (fun i h => st it i h ∧ fact h)
  keep : ∀ (it : Addr) (i : Nat) (h h' : Heap), st it i h → (∀ o, h.get? it = some o → h'.get? it = some o) → st it i h'
  obj : ∀ (it : Addr) (i : Nat) (h : Heap), st it i h → ∃ o, h.get? it = some o ∧ ∀ v, o.data ≠ .cell v
  fkeep : ∀ h h' : Heap, fact h → (∀ o, h.get? a = some o → h'.get? a = some o) → fact h'
  lt : ∀ h : Heap, fact h → a < h.objs.size
  ex : ∀ h : Heap, fact h → ∃ o, h.get? a = some o
theorem raw_list {prog : Program} {w : World} (a : Addr) (items : Array Value) : Raw1 prog w a items { cls := .type "list_iterator", data := .fields #[.ref a, .int 0 0] } (fun it i h => h.IsListIter it a i) (fun h => h.IsList a items) where
  iter := fun A E s Q hf hq => wpAny_pyIter_list hf hq
  st0 := fun h => ⟨_, Heap.get?_push_size _ rfl, rfl, rfl⟩
  draws := fun A it hh ne => Draws.list hh it a ne items
  keep := fun it i h h' st k => st.at k
  obj := fun it i h st => let ⟨o, e, _, d⟩ := st; ⟨o, e, fun v q => by rw [d] at q; cases q⟩
  fkeep := fun h h' f k => f.at k
  lt := fun h f => let ⟨o, e, _⟩ := f; Heap.lt_size e
  ex := fun h f => let ⟨o, e, _⟩ := f; ⟨o, e⟩
theorem raw_tup {prog : Program} {w : World} (a : Addr) (items : Array Value) : Raw1 prog w a items { cls := .type "tuple_iterator", data := .fields #[.ref a, .int 0 0] } (fun it i h => h.IsTupleIter it a i) (fun h => h.IsTuple a items) where
  iter := fun A E s Q hf hq => wpAny_pyIter_tuple hf hq
  st0 := fun h => ⟨_, Heap.get?_push_size _ rfl, rfl, rfl⟩
  draws := fun A it hh ne => Draws.tuple hh it a ne items
  keep := fun it i h h' st k => st.at k
  obj := fun it i h st => let ⟨o, e, _, d⟩ := st; ⟨o, e, fun v q => by rw [d] at q; cases q⟩
  fkeep := fun h h' f k => f.at k
  lt := fun h f => let ⟨o, e, _⟩ := f; Heap.lt_size e
  ex := fun h f => let ⟨o, e, _⟩ := f; ⟨o, e⟩
end TL
end s_TL13
section s_TL14
set_option Elab.async false
set_option linter.all false
set_option maxRecDepth 100000
set_option maxHeartbeats 4000000
/-! TL14: zip, to the computations -/
namespace TL
open PySem PySem.Spec PyProof.Rows L2
section
variable {prog : Program} {w : World} {A : Around} {E : Value → Shared → Prop} {s : Shared} {a b : Addr} {xs ys : Array Value} {oa ob : Obj} {sa sb : Addr → Nat → Heap → Prop} {fa fb : Heap → Prop}
abbrev zH1 (h : Heap) (oa : Obj) : Heap := h.push oa
abbrev zH2 (h : Heap) (oa ob : Obj) : Heap := (zH1 h oa).push ob
abbrev zH3 (h : Heap) (oa ob : Obj) : Heap := (zH2 h oa ob).push { cls := .type "tuple", data := .seq #[.ref h.objs.size, .ref (zH1 h oa).objs.size] }
abbrev zH4 (h : Heap) (oa ob : Obj) : Heap := (zH3 h oa ob).push { cls := .type "tuple", data := .seq #[.none, .none] }
abbrev zH5 (h : Heap) (oa ob : Obj) : Heap := (zH4 h oa ob).push { cls := .type "zip", data := .fields #[.none, .bool false, .bool false, .ref (zH2 h oa ob).objs.size, .ref (zH3 h oa ob).objs.size] }
theorem neA {x y : Nat} (h : ¬ x = y) : ¬ ((x : Addr) = (y : Addr)) := h
end

/-- a thing that is walked, by what is tracked -/
structure Sr (P : Program) (wd : World) (K : PySem.W.Frag) (a : Addr) (xs : List V) (ob : Obj) (st : Addr → Nat → Heap → Prop) (hp : Hp → Prop) : Prop where
  ex : ∀ (X : Cx), X.prog = P → X.w = wd → X.K = K → ∀ (pins : List (Addr × Obj)) (σ : L2.St) (H : Hp) (s : Shared), Inv X pins σ H s → hp H →
    ∃ (its : List Value) (fact : Heap → Prop), Raw1 P wd a its.toArray ob st fact ∧ fact s.heap ∧ Vals xs its
section
variable {P : Program} {wd : World} {K : PySem.W.Frag} {a b : Addr} {xs ys : List V} {oa ob : Obj} {sa sb : Addr → Nat → Heap → Prop} {pa pb : Hp → Prop}
theorem sr_list : Sr P wd K a xs { cls := .type "list_iterator", data := .fields #[.ref a, .int 0 0] } (fun it i h => h.IsListIter it a i) (fun H => SqL K H a xs) where
  ex := fun X hP hw hK pins σ H s I h => by
    subst hP hw hK
    obtain ⟨its, r, p, _⟩ := I.list h
    exact ⟨its, _, raw_list a _, p.isList, r⟩
theorem sr_tup : Sr P wd K a xs { cls := .type "tuple_iterator", data := .fields #[.ref a, .int 0 0] } (fun it i h => h.IsTupleIter it a i) (fun H => SqT K H a xs) where
  ex := fun X hP hw hK pins σ H s I h => by
    subst hP hw hK
    obtain ⟨its, r, p, _⟩ := I.tuple h
    exact ⟨its, _, raw_tup a _, p, r⟩
/-- pairs of the two, each a new tuple -/
def ItzG (pa pb : Hp → Prop) (xs ys : List V) : It :=
  ⟨fun i H => pa H ∧ pb H ∧ i < xs.length ∧ i < ys.length,
    fun i H v H' => ∃ T x y, v = .ref T ∧ H T = none ∧ H' = upd H T (.tup [x, y]) ∧ xs[i]? = some x ∧ ys[i]? = some y,
    fun i H => pa H ∧ pb H ∧ i ≤ xs.length ∧ i ≤ ys.length ∧ (i = xs.length ∨ i = ys.length)⟩
end

/-- what may be asked of a walk's laid state -/
structure SrK (sa : Addr → Nat → Heap → Prop) : Prop where
  keep : ∀ it i h h', sa it i h → (∀ o, h.get? it = some o → h'.get? it = some o) → sa it i h'
  ok : ∀ it i h, sa it i h → ∃ o, h.get? it = some o ∧ ∀ v, o.data ≠ .cell v
def iZipG (P : Program) (wd : World) (K : PySem.W.Frag) (ta : TA) : TI := fun σ H R => ta σ H fun vs H1 => ∃ a b xs ys oa ob sa sb pa pb, vs = [.ref a, .ref b] ∧ Sr P wd K a xs oa sa pa ∧ Sr P wd K b ys ob sb pb ∧ pa H1 ∧ pb H1 ∧ R (ItzG pa pb xs ys) H1
end TL
end s_TL14
section s_TL15
set_option Elab.async false
set_option linter.all false
set_option maxRecDepth 100000
set_option maxHeartbeats 4000000
/-! TL15: a table of the module; for over zip -/
namespace TL
open PySem PySem.Spec PyProof.Rows L2
/-- the name P0 is a dict of the module, with text keys -/
structure KTb (K : PySem.W.Frag) (mg : Str → Option Value) (wd : World) (P0 : Str) (kts : List (Str × T)) : Prop where
  ex : ∃ d es n, mg P0 = some (.ref d) ∧ KDict K wd d es n ∧ Vals (kts.map fun p => V.str p.1) (es.toList.map (·.key)) ∧
    (∀ k t, (kts.find? fun p => p.1 == k).map (·.2) = some t → ∃ u v, PySem.W.nsIn K d k = some (some u) ∧ RelV v u ∧ ∀ (w : Wd) Z, Tr K mg w Z t v) ∧
    ∀ k, (kts.find? fun p => p.1 == k) = none → PySem.W.nsIn K d k = some none
  small : kts.length ≤ 1000
section
variable {X : Cx} {w : Wd} {E : XK} {tg e e2 : Expr} {p pos tpos : Pos} {ca cb : EC} {cs : List Sl → G (List T)} {P0 : Str} {kts : List (Str × T)} {H Z : Hp}
/-- the things that are walked -/
def srcT (P0 : Str) (kts : List (Str × T)) : T → Option (List T)
  | .lst ts => some ts
  | .tup ts => some ts
  | .fn x => if x = P0 then some (kts.map fun p => .str p.1) else none
  | _ => none
def zipT : List T → List T → List T
  | a :: as, b :: bs => .tup [a, b] :: zipT as bs
  | _, _ => []
def zipOf (P0 : Str) (kts : List (Str × T)) : List T → G (List T)
  | [a, b] => match srcT P0 kts a, srcT P0 kts b with
    | some ts, some us => .ret (zipT ts us)
    | _, _ => .stuck
  | _ => .stuck
/-- P0[e] -/
def fTab (P0 : Str) (kts : List (Str × T)) : T → T → G T
  | .fn x, .str k => if x = P0 then (match (kts.find? fun p => p.1 == k) with | some p => .ret p.2 | none => .stuck) else .stuck
  | _, _ => .stuck
/-- e in P0, e not in P0 -/
def fTabIn (P0 : Str) (kts : List (Str × T)) (neg : Bool) : T → T → G T
  | .str k, .fn x => if x = P0 then .ret (.bl (((kts.find? fun p => p.1 == k).isSome) != neg)) else .stuck
  | _, _ => .stuck
end
end TL
end s_TL15
section s_TL16
set_option Elab.async false
set_option linter.all false
set_option maxRecDepth 100000
set_option maxHeartbeats 4000000
/-! TL16: instances are made; attributes of self -/
namespace TL
open PySem PySem.Spec PyProof.Rows L2
/-- another self -/
def Wd.at (w : Wd) (x : Addr) : Wd := { w with me := x }
theorem Good.at {w : Wd} {H Z : Hp} (g : Good w H Z) (x : Addr) : Good (w.at x) H Z := ⟨g.zh, g.zw, g.wi⟩
theorem Good.un {w : Wd} {H Z : Hp} {x : Addr} (g : Good (w.at x) H Z) : Good w H Z := ⟨g.zh, g.zw, g.wi⟩
theorem Grow.at {w : Wd} {H Z H' Z' : Hp} (g : Grow w H Z H' Z') (x : Addr) : Grow (w.at x) H Z H' Z' := ⟨g.good.at x, g.zz, g.new, g.hh⟩
theorem Grow.un {w : Wd} {H Z H' Z' : Hp} {x : Addr} (g : Grow (w.at x) H Z H' Z') : Grow w H Z H' Z' := ⟨g.good.un, g.zz, g.new, g.hh⟩

/-! ### self's attributes -/
def putFT (f : Str) (t : T) : List (Str × T) → List (Str × T)
  | [] => [(f, t)]
  | (g, x) :: r => if g = f then (g, t) :: r else (g, x) :: putFT f t r
section
variable {K : PySem.W.Frag} {mg : Str → Option Value} {w : Wd} {Z : Hp}
theorem Trf.put {f : Str} {t : T} {v : V} (h : Tr K mg w Z t v) : ∀ {fs : List (Str × T)} {gs : List (Str × V)}, Trf K mg w Z fs gs → Trf K mg w Z (putFT f t fs) (putF f v gs)
  | _, _, .nil => .cons h .nil
  | _, _, @Trf.cons _ _ _ _ g t1 v1 fs gs a b => by
    unfold putFT putF
    by_cases e : g = f
    · rw [if_pos e, if_pos e]; exact .cons h b
    · rw [if_neg e, if_neg e]; exact .cons a (Trf.put h b)
theorem Trf.length : ∀ {fs : List (Str × T)} {gs : List (Str × V)}, Trf K mg w Z fs gs → fs.length = gs.length
  | _, _, .nil => rfl
  | _, _, .cons a b => by rw [List.length_cons, List.length_cons, Trf.length b]
theorem Trf.look {f : Str} {t : T} : ∀ {fs : List (Str × T)} {gs : List (Str × V)}, Trf K mg w Z fs gs → fs.lookup f = some t → ∃ v, gs.lookup f = some v ∧ Tr K mg w Z t v
  | _, _, .nil, e => by cases e
  | _, _, @Trf.cons _ _ _ _ g t1 v1 fs gs a b, e => by
    rw [List.lookup_cons] at e ⊢
    by_cases q : (f == g) = true
    · rw [q] at e ⊢; cases e; exact ⟨_, rfl, a⟩
    · rw [Bool.eq_false_iff.mpr q] at e ⊢; exact Trf.look b e
end
section
variable {X : Km} {w : Wd} {H0 Z0 H Z : Hp} {r : List Sl} {σ : L2.St} {o : Nat → List Addr}
end
/-- what is asked of a class whose attribute f is read and written -/
structure FldF (K : PySem.W.Frag) (mg : Str → Option Value) (c f : Str) (C : Addr) : Prop where
  mg : mg c = some (.ref C)
  cls : Cls K C
  no : NoAttr K C f
def cFldMe (i : Nat) (c f : Str) (ca : EC) : SC := fun r => ca r >>= fun t => match r[i]? with
  | some (.me (.ins c' fs)) => if c' = c ∧ fs.length < 1000 then .ret (.nx (r.set i (.me (.ins c' (putFT f t fs))))) else .stuck
  | _ => .stuck
section
variable {X : Cx} {w : Wd} {E : XK} {fr : Bool} {H0 Z0 H Z : Hp} {r : List Sl} {σ : L2.St} {o : Nat → List Addr} {D : Ends} {pos pos' p0 : Pos} {e : Expr} {ca : EC} {c f : Str} {C : Addr}
/-- self.f -/
def cGetMe (i : Nat) (c f : Str) : EC := fun r => match r[i]? with
  | some (.me (.ins c' fs)) => if c' = c then (match fs.lookup f with | some t => .ret t | none => .stuck) else .stuck
  | _ => .stuck
end

/-! ### __init__, and the call of the class -/
def SpI (pw : Program × World) (K : PySem.W.Frag) (mg : Str → Option Value) (c : Str) (C : Addr) (n : Nat) (F : List T → G T) : Sp := fun vs H Q E => ∃ (w : Wd) (ts : List T) (H0 Z : Hp) (x dx : Addr) (vs' : List V), (w.wo = pw ∧ ∀ p, w.home = some p → Grow w p.1 p.2 H0 Z) ∧ vs = .ref x :: vs' ∧ vs'.length = n ∧ mg c = some (.ref C) ∧
  Good w H0 Z ∧ H0 x = none ∧ H0 dx = none ∧ dx ≠ x ∧ H = upd (upd H0 dx (.own x)) x (.ins C dx []) ∧ Trs K mg w Z ts vs' ∧
  (F ts).wp (fun t => ∀ oo H' Z', Grow w H0 Z H' Z' → Root K mg w Z' H' t x oo → Fresh w H0 Z' oo → Q .non H') (fun e => ∀ cls d H' Z', Grow w H0 Z H' Z' → ExR K mg w Z' H' e cls d → E cls d H')
def runI (c0 : Str) (c : SC) (m : Nat) (ts : List T) : G T := c (.me (.ins c0 []) :: (ts.map .fz ++ List.replicate (m - 1 - ts.length) .un)) >>= fun k => match k with
  | .nx (.me t :: _) => .ret t
  | _ => .stuck

section
variable {P : Program} {wd : World} {K : PySem.W.Frag} {mg : Str → Option Value} {base : Heap} {k : Nat} {f : Addr} {fd : FuncData} {ps N : List Str} {x qual : Str} {st : Stmt} {c : SC}
end
section
variable {X : Cx} {w : Wd} {E : XK} {k n : Nat} {f C : Addr} {fd : FuncData} {ps : List Str} {sp : Sp} {x : Str} {p pos : Pos} {e : Expr} {es : List Expr} {kws : List Keyword} {cs : List Sl → G (List T)} {F : List T → G T}
end
end TL
end s_TL16
section s_TL17
set_option Elab.async false
set_option linter.all false
set_option maxRecDepth 100000
set_option maxHeartbeats 4000000
/-! TL17: own classes: ==, != by __eq__; properties; methods -/
namespace TL
open PySem PySem.Spec PyProof.Rows L2 PySem.Builtin
section
variable {prog : Program} {w : World} {A : Around} {E : Value → Shared → Prop} {s : Shared} {K : PySem.W.Frag} {x C f : Addr} {ox : Obj} {od : Option Obj} {b tb : Value}
end

/-- what is asked of a class with __eq__ -/
structure EqF (K : PySem.W.Frag) (mg : Str → Option Value) (c : Str) (C f : Addr) : Prop where
  ins : InsF K mg c C
  eq : PySem.W.findIn K (.ref C) "__eq__" = some (some (.ref f))
  fn : PySem.W.isFn K (.ref f) = true
  ne : PySem.W.findIn K (.ref C) "__ne__" = some (some (.builtin "object.__ne__"))
  first : ∀ a ∈ aTys, PySem.W.notFirst K C (.type a) = true
def rCmpI (K : PySem.W.Frag) (C : Addr) (sp : Sp) (E : XK) (neg : Bool) : R2 := fun x y H Q => ∃ a dx gs tv, x = .ref a ∧ H a = some (.ins C dx gs) ∧ TyX K H y tv ∧ PySem.W.notFirst K C tv = true ∧ sp [x, y] H (fun v H' => ∃ r, v = .bl r ∧ Q (.bl (r != neg)) H') E
section
variable {X : Cx} {w : Wd} {E : XK} {k : Nat} {f C : Addr} {fd : FuncData} {ps : List Str} {sp : Sp} {c : Str} {ea eb : Expr} {ca cb : EC} {pos : Pos} {F : List T → G T}
def cmpOk (c0 : Str) : T → Bool
  | .ins d _ => decide (d = c0)
  | t => (tyName t).isSome
/-- the two trees' comparison by the def's computation -/
def fCmpI (c0 : Str) (neg : Bool) (F : List T → G T) : T → T → G T := fun a b => match a with
  | .ins c fs => if c = c0 ∧ cmpOk c0 b = true then F [.ins c fs, b] >>= fun t => (match t with | .bl r => .ret (.bl (r != neg)) | _ => .stuck) else .stuck
  | _ => .stuck
end
end TL
end s_TL17
section s_TL18
set_option Elab.async false
set_option linter.all false
set_option maxRecDepth 100000
set_option maxHeartbeats 4000000
/-! TL18: properties, methods, classes called with keywords -/
namespace TL
open PySem PySem.Spec PyProof.Rows L2
section
variable {X : Cx} {w : Wd} {E : XK} {k n : Nat} {f C p g : Addr} {fd : FuncData} {ps ks : List Str} {sp : Sp} {c m own x : Str} {e o : Expr} {es : List Expr} {kws : List Keyword} {ca co : EC} {cs ck : List Sl → G (List T)} {pos apos pn : Pos} {F : List T → G T}
theorem passes_false : Passes (L2.CX X.prog X.w) X (fun _ _ _ => False) := fun pins σ H s e s' I h => by
  obtain ⟨cls, d, H', h1, h2⟩ := h
  first | exact False.elim h1 | exact False.elim h2 | (simp at h2) | (simp at h1)
/-- o.m(e, ..), o an instance -/
def cMeth (c m : Str) (F : List T → G T) (co : EC) (cs : List Sl → G (List T)) : EC := fun r => co r >>= fun s => match s with
  | .ins d fs => if d = c ∧ fs.lookup m = none then cs r >>= fun ts => F (.ins d fs :: ts) else .stuck
  | _ => .stuck
/-! ### a class called with keywords only -/
structure CK (X : Cx) (w : Wd) (E : XK) (kws : List Keyword) (c : List Sl → G (List T)) : Prop where
  pk : PK X kws (EvA X.km w E c)
/-- the keywords' values in the parameters' order -/
def pickL {α : Type} (perm : List Nat) (l : List α) : List α := perm.filterMap (l[·]?)
theorem pick_trs {K : PySem.W.Frag} {mg : Str → Option Value} {Z : Hp} {ts : List T} {vs : List V} (h : Trs K mg w Z ts vs) : ∀ perm, Trs K mg w Z (pickL perm ts) (pickL perm vs)
  | [] => .nil
  | i :: r => by
    have hl := h.length
    unfold pickL
    rw [List.filterMap_cons, List.filterMap_cons]
    cases e : ts[i]? with
    | none =>
      have : vs[i]? = none := by rw [List.getElem?_eq_none_iff] at e ⊢; omega
      rw [this]; exact pick_trs h r
    | some t =>
      obtain ⟨v, hv, tv⟩ := h.get e
      rw [hv]; exact .cons tv (pick_trs h r)
/-- how keywords bind -/
def KwB (K : PySem.W.Frag) (fd : FuncData) (ps ks : List Str) (perm : List Nat) : Prop := ∀ (s : Shared) (v : Value) (ws : List Value), K.In s.heap → ws.length = ks.length → BindsTo s fd ⟨[v], ks.zip ws⟩ (ps.zip (v :: pickL perm ws))
end
end TL
end s_TL18
section s_TL19
set_option Elab.async false
set_option linter.all false
set_option maxRecDepth 100000
set_option maxHeartbeats 4000000
/-! TL19: dicts: displays, copies, walks; anything that is walked -/
namespace TL
open PySem PySem.Spec PyProof.Rows L2
section
variable {X : Cx} {w : Wd} {E : XK} {tg e e2 : Expr} {p pos tpos apos cpos : Pos} {ca cb : EC} {cs : List Sl → G (List T)} {H0 Z0 H Z : Hp} {r : List Sl} {σ : L2.St} {o : Nat → List Addr}
/-! ### displays -/
def cPairs : List (EC × EC) → List Sl → G (List (T × T))
  | [], _ => .ret []
  | (a, b) :: l, r => a r >>= fun k => b r >>= fun v => cPairs l r >>= fun kts => .ret ((k, v) :: kts)
def trOf (X : Km) (w : Wd) (E : XK) (l : List (EC × EC)) : List (TE × TE) := l.map fun p => (EvE X.km w E p.1, EvE X.km w E p.2)
structure CPs (X : Cx) (w : Wd) (E : XK) (pos : Pos) (keys : List (Option Expr)) (values : List Expr) (l : List (EC × EC)) : Prop where
  pps : PPs X pos keys values (trOf X.km w E l)
inductive Trp (K : PySem.W.Frag) (mg : Str → Option Value) (w : Wd) (Z : Hp) : List (T × T) → List (V × V) → Prop
  | nil : Trp K mg w Z [] []
  | cons {a b x y l m} : Tr K mg w Z a x → Tr K mg w Z b y → Trp K mg w Z l m → Trp K mg w Z ((a, b) :: l) ((x, y) :: m)
theorem Trp.mono {K : PySem.W.Frag} {mg : Str → Option Value} {w : Wd} {Z Z' : Hp} (s : Sub Z Z') : ∀ {l m}, Trp K mg w Z l m → Trp K mg w Z' l m
  | _, _, .nil => .nil
  | _, _, .cons a b r => .cons (a.mono s) (b.mono s) (Trp.mono s r)
/-- the pairs' keys are ints and texts -/
def allKeys (kts : List (T × T)) : Bool := kts.all fun p => (keyT p.1).isSome
theorem Trp.keys {K : PySem.W.Frag} {mg : Str → Option Value} : ∀ {kts : List (T × T)} {ps : List (V × V)}, Trp K mg w Z kts ps → allKeys kts = true → ∃ kvs : List (Key × V), ps = kvs.map (fun kv => (kV kv.1, kv.2)) ∧ Trd K mg w Z kts kvs
  | _, _, .nil, _ => ⟨[], rfl, .nil⟩
  | _, _, @Trp.cons _ _ _ _ a b x y l m ta tb r, h => by
    simp only [allKeys, List.all_cons, Bool.and_eq_true] at h
    obtain ⟨key, hk⟩ := Option.isSome_iff_exists.mp h.1
    obtain ⟨kvs, e, tr⟩ := Trp.keys r h.2
    refine ⟨(key, y) :: kvs, ?_, .cons hk tb tr⟩
    rw [List.map_cons, e, ta.key hk]
def cDisp (l : List (EC × EC)) : EC := fun r => cPairs l r >>= fun kts => if allKeys kts = true ∧ kts.length ≤ 15 then .ret (.dic (mergeT [] kts)) else .stuck
end
end TL
end s_TL19
section s_TL20
set_option Elab.async false
set_option linter.all false
set_option maxRecDepth 100000
set_option maxHeartbeats 4000000
/-! TL20: what is walked; dict(x), list(x), list(d.values()) -/
namespace TL
open PySem PySem.Spec PyProof.Rows L2
section
variable {X : Cx} {M : Km} {w : Wd} {E : XK} {tg e e2 l : Expr} {p pos tpos apos cpos : Pos} {ca cb : EC} {cs : List Sl → G (List T)} {H0 Z0 H Z : Hp} {r : List Sl} {σ : L2.St} {o : Nat → List Addr}
/-! ### list, tuple, dict, text: whichever it is -/
def iAny (K : PySem.W.Frag) (tl : TE) : TI := fun σ H R => tl σ H fun x H1 => (∃ a, x = .ref a ∧ (((∃ xs, SqL K H1 a xs) ∧ R (Itl K a) H1) ∨ ((∃ xs, SqT K H1 a xs) ∧ R (Itt K a) H1) ∨ ∃ o kvs, H1 a = some (.frz o (.dK kvs)) ∧ R (Itk a o kvs) H1)) ∨ ∃ z, x = .str z ∧ R (Its z) H1
theorem pi_any {tl : TE} (hl : PE X l tl) : PI X tg l (iAny X.K tl) := by
  refine ⟨fun pins s σ H R I h => ?_⟩
  refine thn (hl.run pins s σ H _ I h) fun v s1 ⟨x, H1, I1, r1, q1⟩ => ?_
  rcases q1 with ⟨a, e, q⟩ | ⟨z, e, q⟩
  · subst e
    cases r1
    rcases q with ⟨⟨xs, hq⟩, q⟩ | ⟨⟨xs, hq⟩, q⟩ | ⟨od, kvs, hd, q⟩
    · obtain ⟨its, rv, p, hz⟩ := I1.list hq
      refine wpAny_pyIter_list p.isList ?_
      refine ⟨s1.heap.objs.size, [s1.heap.objs.size], _, _, H1, rfl, I1.kept (t' := s1.toks) fun b o e => Heap.get?_push_of_some _ e, turn_list a _, ⟨_, Heap.get?_push_size _ rfl, rfl, rfl⟩, fun b hb => ?_, q⟩
      have e : b = s1.heap.objs.size := by simpa using hb
      subst e
      exact I1.fpOk (Nat.le_refl _) (I1.hok.fresh (Nat.le_refl _))
    · obtain ⟨its, rv, p, hz⟩ := I1.tuple hq
      refine wpAny_pyIter_tuple (show s1.heap.IsTuple a its.toArray from p) ?_
      refine ⟨s1.heap.objs.size, [s1.heap.objs.size], _, _, H1, rfl, I1.kept (t' := s1.toks) fun b o e => Heap.get?_push_of_some _ e, turn_tuple a _, ⟨_, Heap.get?_push_size _ rfl, rfl, rfl⟩, fun b hb => ?_, q⟩
      have e : b = s1.heap.objs.size := by simpa using hb
      subst e
      exact I1.fpOk (Nat.le_refl _) (I1.hok.fresh (Nat.le_refl _))
    · obtain ⟨hs, hgd, hx, es, ep, vs, hdt, hsz, kv, hm⟩ := I1.frzK hd
      refine iter_keys hs hgd hx hdt (pi_one (tk := s1.toks) I1 _ (turn_keys _ hdt) ⟨_, Heap.get?_push_size _ rfl, rfl, ?_⟩ q)
      rw [hsz] <;> rfl
  · subst e
    obtain ⟨t, rfl⟩ := r1
    cases ha : z.cps.all (· < 128)
    · exact wpAny_pyIter_wide ha (pi_one (tk := s1.toks) I1 _ (turn_str _ z t "str_iterator" (.inr rfl)) ⟨_, Heap.get?_push_size _ rfl, rfl, rfl⟩ q)
    · exact wpAny_pyIter_ascii ha (pi_one (tk := s1.toks) I1 _ (turn_str _ z t "str_ascii_iterator" (.inl rfl)) ⟨_, Heap.get?_push_size _ rfl, rfl, rfl⟩ q)
def chars (z : Str) : List T := z.cps.toList.map fun c => .str ⟨#[c]⟩
def anyOf : T → G (List T)
  | .lst ts => .ret ts
  | .tup ts => .ret ts
  | .scr ns => .ret (ns.map .int)
  | .dic kts => .ret (kts.map (·.1))
  | .str z => if fits z.cps.size then .ret (chars z) else .stuck
  | _ => .stuck
theorem tr_key {k : T} {key : Key} (e : keyT k = some key) : Tr M.K M.mg w Z k (kV key) := by
  cases k <;> simp only [keyT, Option.some.injEq, reduceCtorEq] at e
  · subst e; exact .int _
  · subst e; exact .str _
theorem Trd.at : ∀ {kts : List (T × T)} {kvs : List (Key × V)} {i : Nat} {t : T × T}, Trd M.K M.mg w Z kts kvs → kts[i]? = some t → ∃ k v, kvs[i]? = some (k, v) ∧ keyT t.1 = some k ∧ Tr M.K M.mg w Z t.2 v
  | _, _, _, _, .nil, e => by simp at e
  | _, _, 0, _, .cons k a _, e => by simp at e; subst e; exact ⟨_, _, rfl, k, a⟩
  | _, _, i + 1, t, .cons _ _ b, e => by
    obtain ⟨k, v, h1, h2⟩ := Trd.at (i := i) (t := t) b (by simpa using e)
    exact ⟨k, v, by simpa using h1, h2⟩
theorem iter_keysT {d : Addr} {od : Obj} {kts : List (T × T)} {kvs : List (Key × V)} {Zs : Hp} (h : Zs d = some (.frz od (.dK kvs))) (tr : Trd M.K M.mg w Zs kts kvs) : IterOk M w (Itk d od kvs) (kts.map (·.1)) Zs := fun i H Z s g => by
  have hH := g.zh _ _ (s _ _ h)
  have hl := tr.length
  refine ⟨fun t ht => ?_, fun e => ⟨hH, by rw [List.length_map] at e; omega⟩⟩
  rw [List.getElem?_map, Option.map_eq_some_iff] at ht
  obtain ⟨p, hp, rfl⟩ := ht
  obtain ⟨k, v, h1, h2, h3⟩ := Trd.at tr hp
  refine ⟨⟨hH, (List.getElem?_eq_some_iff.mp h1).1⟩, fun x H' y => ?_⟩
  obtain ⟨rfl, k', v', e1, rfl⟩ := y
  rw [h1] at e1; cases e1
  exact ⟨Z, Grow.refl g, tr_key h2⟩
theorem iter_str {z : Str} {Zs : Hp} : IterOk M w (Its z) (chars z) Zs := fun i H Z s g => by
  unfold chars
  refine ⟨fun t ht => ?_, fun e => ?_⟩
  · rw [List.getElem?_map, Option.map_eq_some_iff] at ht
    obtain ⟨c, hc, rfl⟩ := ht
    rw [Array.getElem?_toList] at hc
    refine ⟨(Array.getElem?_eq_some_iff.mp hc).1, fun x H' y => ?_⟩
    obtain ⟨rfl, c', e1, rfl⟩ := y
    rw [hc] at e1; cases e1
    exact ⟨Z, Grow.refl g, .str _⟩
  · rw [List.length_map, Array.length_toList] at e
    exact Nat.le_of_eq e
theorem iter_scr {a : Addr} {ns : List Int} {Zs : Hp} (h : SqL M.K Zs a (ns.map V.int)) : IterOk M w (Itl M.K a) (ns.map T.int) Zs := fun i H Z s g => by
  have q : SqL M.K H a (ns.map V.int) := g.sqL (s.sqL h)
  refine ⟨fun t ht => ?_, fun hl => ⟨_, q, by rw [List.length_map] at hl ⊢; omega⟩⟩
  rw [List.getElem?_map, Option.map_eq_some_iff] at ht
  obtain ⟨n, hn, rfl⟩ := ht
  have hv : (ns.map V.int)[i]? = some (.int n) := by rw [List.getElem?_map, hn]; rfl
  refine ⟨⟨_, _, q, hv⟩, fun x H' y => ?_⟩
  obtain ⟨rfl, y⟩ := y
  have e := y _ q
  rw [hv] at e
  cases e
  exact ⟨Z, Grow.refl g, .int _⟩
theorem ci_any (h : CE X w E l ca) : CI X w E tg l (fun r => ca r >>= anyOf) := by
  refine ⟨piImp (pi_any h.pe) fun σ H R h => ?_⟩
  obtain ⟨H0, Z0, r, Z, o, R1, h⟩ := h
  refine evSeqI (P := fun _ => True) R1 h fun x H1 Z1 a R2 g1 t1 h1 => ?_
  cases t1 with
  | @lst ts p vs hq hz hts => exact .inl ⟨p, rfl, .inl ⟨⟨vs, SqL.of (R2.good.zh _ _ hq)⟩, h1 _ H1 Z1 (Grow.refl R2.good) (by rw [hts.length]; exact hz) (iter_list hq hts)⟩⟩
  | @tup ts p vs hq hz hts => exact .inl ⟨p, rfl, .inr (.inl ⟨⟨vs, R2.good.sqT hq⟩, h1 _ H1 Z1 (Grow.refl R2.good) (by rw [hts.length]; exact hz) (iter_tup hq hts)⟩)⟩
  | @scr ns p hq hz => exact .inl ⟨p, rfl, .inl ⟨⟨_, R2.good.sqL hq⟩, h1 _ H1 Z1 (Grow.refl R2.good) (by rw [List.length_map]; exact Nat.le_of_lt (small1000 hz)) (iter_scr (M := X.km) hq)⟩⟩
  | @dic kts p kvs hq hz tr =>
    obtain ⟨od, hd⟩ := hq
    exact .inl ⟨p, rfl, .inr (.inr ⟨od, kvs, R2.good.zh _ _ hd, h1 _ H1 Z1 (Grow.refl R2.good) (by rw [List.length_map, tr.length]; exact hz) (iter_keysT (M := X.km) hd tr)⟩)⟩
  | str z =>
    have h1' : (if fits z.cps.size then G.ret (chars z) else .stuck).wp (fun ts => ∀ J H' Z', Grow w H1 Z1 H' Z' → ts.length ≤ sizeLine → IterOk X.km w J ts Z' → R J H') (PostX X.km w E H0 Z0) := h1
    by_cases hf : fits z.cps.size = true
    · rw [if_pos hf] at h1'
      exact .inr ⟨z, rfl, h1' _ H1 Z1 (Grow.refl R2.good) (by unfold chars; rw [List.length_map, Array.length_toList]; exact fits_line hf) (iter_str (M := X.km))⟩
    · rw [if_neg hf] at h1'; exact False.elim h1'
  | _ => exact False.elim h1
/-- for k, v in d.items() -/
def itemsOf : T → G (List T)
  | .dic kts => .ret (kts.map fun p => .tup [p.1, p.2])
  | _ => .stuck
def valuesOf : T → G (List T)
  | .dic kts => .ret (kts.map (·.2))
  | _ => .stuck
/-! ### dict(x), list(x) -/
def fDict : List T → G T
  | [.dic kts] => .ret (.dic kts)
  | _ => .stuck
end

/-! ### what is said in the world without tables holds in the world with them -/
section
variable {K : PySem.W.Frag} {mg : Str → Option Value} {w w' : Wd} {Z H : Hp}
theorem TrD.conv (hw : w.dr = w'.dr ∧ w.wo = w'.wo ∧ w.clo = w'.clo) : ∀ {kts : List (T × T)} {kvs : List (Key × V)} {qs : List Addr}, TrD K mg w Z H kts kvs qs → TrD K mg w' Z H kts kvs qs
  | _, _, _, .nil => .nil
  | _, _, _, .cons k h l t r => .cons k h l (t.conv hw) (TrD.conv hw r)
theorem TrQ.conv (hw : w.dr = w'.dr ∧ w.wo = w'.wo ∧ w.clo = w'.clo) : ∀ {l : List QE} {kvs : List (Key × V)} {qs : List Addr}, TrQ K mg w Z H l kvs qs → TrQ K mg w' Z H l kvs qs
  | _, _, _, .nil => .nil
  | _, _, _, .own k h l t r => .own k h l (t.conv hw) (TrQ.conv hw r)
  | _, _, _, .frz k t r => .frz k (t.conv hw) (TrQ.conv hw r)
theorem SlR.conv (hw : w.dr = w'.dr ∧ w.wo = w'.wo ∧ w.clo = w'.clo) (hm : w.me = w'.me) {s : Sl} {x : Option V} {o : List Addr} (r : SlR K mg w Z H s x o) : SlR K mg w' Z H s x o := by
  cases s with
  | un => exact r
  | fz t => obtain ⟨a, v, e, q⟩ := r; exact ⟨a, v, e, q.conv hw⟩
  | ow t => obtain ⟨p, e, q⟩ := r; exact ⟨p, e, q.conv hw⟩
  | me t => obtain ⟨e, q⟩ := r; exact ⟨hm ▸ e, hm ▸ q.conv hw⟩
  | dp kts => obtain ⟨p, e, qs, kvs, h1, h2, h3, h4, h5⟩ := r; exact ⟨p, e, qs, kvs, h1, h2, h3, h4, h5.conv hw⟩
  | dq l => obtain ⟨p, e, qs, kvs, h1, h2, h3, h4, h5, h6⟩ := r; exact ⟨p, e, qs, kvs, h1, h2, h3, h4, h5, h6.conv hw⟩
  | dd d => obtain ⟨p, e, q⟩ := r; exact ⟨p, e, q.conv hw hm⟩
theorem Tr.ofNt {t : T} {v : V} (h : Tr K mg w.nt Z t v) : Tr K mg w Z t v := Tr.conv (w := w.nt) (w' := w) ⟨rfl, rfl, rfl⟩ h
theorem Root.ofNt {t : T} {p : Addr} {o : List Addr} (h : Root K mg w.nt Z H t p o) : Root K mg w Z H t p o := Root.conv (w := w.nt) (w' := w) ⟨rfl, rfl, rfl⟩ h
theorem ExR.ofNt {e : T} {c : Value} {d : Option Addr} (h : ExR K mg w.nt Z H e c d) : ExR K mg w Z H e c d := ExR.conv (w := w.nt) (w' := w) ⟨rfl, rfl, rfl⟩ h
theorem SlR.toNt {s : Sl} {x : Option V} {o : List Addr} (h : SlR K mg w Z H s x o) : SlR K mg w.nt Z H s x o := SlR.conv (w := w) (w' := w.nt) ⟨rfl, rfl, rfl⟩ rfl h
/-- tables stand apart from the draws -/
theorem Wd.apart (i : w.WI H Z) {p : Addr × Str} (hp : p ∈ w.tb) : p.1 ∉ w.dr := fun hm => by
  obtain ⟨ps, e, _⟩ := i.2 p hp
  cases hd : w.dr with
  | nil => rw [hd] at hm; cases hm
  | cons a r =>
    obtain ⟨g, c, cs, rfl, q⟩ := w.ok a r hd
    obtain ⟨_, _, _, _, gs, rest, turn, _, e1, e2, e3⟩ := (q H).mp i.1
    rw [hd] at hm
    simp only [List.mem_cons, List.not_mem_nil, or_false] at hm
    rcases hm with z | z | z
    · rw [z, e1] at e; cases e
    · rw [z, e2] at e; cases e
    · rw [z, e3] at e; cases e
theorem Wd.wi0 (h : w.tb = []) {Z' : Hp} (i : w.WI H Z) : w.WI H Z' := ⟨i.1, fun p hp => by rw [h] at hp; cases hp⟩
theorem Wd.nt_mem {a : Addr} (h : a ∈ w.nt.W) : a ∈ w.W := by
  rw [Wd.nt_W] at h
  exact List.mem_append_left _ h
theorem Good.toNt (g : Good w H Z) : Good w.nt H Z := ⟨g.zh, fun a ha => g.zw a (Wd.nt_mem ha), g.wi.1, fun p hp => (nomatch hp)⟩
theorem Grow.ofNt {H' Z' : Hp} (g0 : Good w H Z) (g : Grow w.nt H Z H' Z') : Grow w H Z H' Z' := by
  have keepT : ∀ p ∈ w.tb, H' p.1 = H p.1 := fun p hp => by
    obtain ⟨ps, e, _⟩ := g0.wi.2 p hp
    rw [e]
    exact g.hh _ _ e (by rw [Wd.nt_W]; exact Wd.apart g0.wi hp)
  refine ⟨⟨g.good.zh, fun a ha => ?_, g.good.wi.1, g0.wi.2.mono g.zz keepT⟩, g.zz, g.new, fun a u e hn => g.hh a u e fun hm => hn (Wd.nt_mem hm)⟩
  rcases List.mem_append.mp ha with h | h
  · exact g.good.zw a (by rw [Wd.nt_W]; exact h)
  · obtain ⟨p, hp, rfl⟩ := List.mem_map.mp h
    cases e : Z' p.1 with
    | none => rfl
    | some u =>
      rcases g.new _ _ e with q | q
      · rw [g0.zw _ ha] at q; cases q
      · obtain ⟨ps, e2, _⟩ := g0.wi.2 p hp
        rw [q] at e2; cases e2
end
/-! without a home -/
section
variable {K : PySem.W.Frag} {mg : Str → Option Value} {w : Wd} {Z H H' Z' : Hp}
def Wd.nh (w : Wd) : Wd := { w with home := none }
theorem Good.nh (g : Good w H Z) : Good w.nh H Z := ⟨g.zh, g.zw, g.wi⟩
theorem Tr.nh {t : T} {v : V} (h : Tr K mg w Z t v) : Tr K mg w.nh Z t v := Tr.conv (w := w) (w' := w.nh) ⟨rfl, rfl, rfl⟩ h
theorem Trs.nh {t : List T} {v : List V} (h : Trs K mg w Z t v) : Trs K mg w.nh Z t v := Trs.conv (w := w) (w' := w.nh) ⟨rfl, rfl, rfl⟩ h
theorem Trd.nh {t : List (T × T)} {v : List (Key × V)} (h : Trd K mg w Z t v) : Trd K mg w.nh Z t v := Trd.conv (w := w) (w' := w.nh) ⟨rfl, rfl, rfl⟩ h
end
open Classical in
/-- the heap without what is the slots' own -/
noncomputable def baseH (H : Hp) (o : Nat → List Addr) : Hp := fun a => if ∃ i, a ∈ o i then none else H a
section
variable {X : Cx} {w : Wd} {E : XK} {H0 Z0 H Z : Hp} {r : List Sl} {σ : L2.St} {o : Nat → List Addr} {e : Expr} {ca : EC} {tb : List Sl → G Bool}
theorem baseH_some {a : Addr} {u : HO} (h : baseH H o a = some u) : H a = some u ∧ ∀ i, a ∉ o i := by
  unfold baseH at h
  split at h
  · cases h
  · rename_i q
    exact ⟨h, fun i hi => q ⟨i, hi⟩⟩
theorem baseH_none {a : Addr} (h : baseH H o a = none) : H a = none ∨ ∃ i, a ∈ o i := by
  unfold baseH at h
  split at h
  · rename_i q; exact .inr q
  · exact .inl h
theorem EnvR.toNt (R : EnvR X.km w H0 Z0 r σ H Z o) : EnvR X.km w.nt (baseH H o) Z r σ H Z o :=
  ⟨⟨R.good.toNt, Sub.refl _, fun _ _ h => .inl h, fun a u e _ => (baseH_some e).1⟩, R.len, fun i s x h1 h2 => (R.sl i s x h1 h2).toNt, R.out, R.dis, fun i a ha => ⟨by unfold baseH; rw [if_pos ⟨i, ha⟩], (R.fr i a ha).2.1, fun hm => (R.fr i a ha).2.2 (Wd.nt_mem hm)⟩, R.wo.1, fun p hp => (nomatch hp)⟩
theorem EnvR.unbase (R : EnvR X.km w H0 Z0 r σ H Z o) {H' Z' : Hp} (g : Grow w.nt (baseH H o) Z H' Z') : Grow w H0 Z0 H' Z' := by
  have tabB : ∀ p ∈ w.tb, baseH H o p.1 = H p.1 := fun p hp => by
    unfold baseH
    rw [if_neg]
    rintro ⟨i, hi⟩
    exact (R.fr i _ hi).2.2 (List.mem_append_right _ (List.mem_map_of_mem hp))
  have keepT : ∀ p ∈ w.tb, H' p.1 = H p.1 := fun p hp => by
    obtain ⟨ps, e, _⟩ := R.good.wi.2 p hp
    rw [e]
    exact g.hh _ _ (by rw [tabB p hp, e]) (by rw [Wd.nt_W]; exact Wd.apart R.good.wi hp)
  have own0 : ∀ {a : Addr}, (∃ i, a ∈ o i) → H0 a = none := fun ⟨i, hi⟩ => (R.fr i _ hi).1
  refine ⟨⟨g.good.zh, fun a ha => ?_, g.good.wi.1, R.good.wi.2.mono g.zz keepT⟩, R.gr.zz.trans g.zz, fun a u e => ?_, fun a u e hn => ?_⟩
  · rcases List.mem_append.mp ha with h | h
    · exact g.good.zw a (by rw [Wd.nt_W]; exact h)
    · obtain ⟨p, hp, rfl⟩ := List.mem_map.mp h
      cases e : Z' p.1 with
      | none => rfl
      | some u =>
        rcases g.new _ _ e with q | q
        · rw [R.good.zw _ ha] at q; cases q
        · obtain ⟨ps, e2, _⟩ := R.good.wi.2 p hp
          rw [tabB p hp, e2] at q; cases q
  · rcases g.new a u e with q | q
    · exact R.gr.new a u q
    · refine .inr ?_
      rcases baseH_none q with z | z
      · cases e0 : H0 a with
        | none => rfl
        | some u' =>
          by_cases hm : a ∈ w.W
          · exact absurd z (w.tr R.good.wi a hm)
          · have := R.gr.hh a u' e0 hm
            rw [z] at this; cases this
      · exact own0 z
  · have h1 := R.gr.hh a u e hn
    refine g.hh a u ?_ fun hm => hn (Wd.nt_mem hm)
    unfold baseH
    rw [if_neg, h1]
    intro z
    rw [own0 z] at e; cases e
theorem CE.nt (h : CE X w.nt E e ca) : CE X w E e ca := by
  refine ⟨peImp h.pe fun σ H Q hh => ?_⟩
  obtain ⟨H0, Z0, r, Z, o, R, hw⟩ := hh
  exact ⟨baseH H o, Z, r, Z, o, R.toNt, G.wp_mono hw (fun t ht v H' Z' g tr => ht v H' Z' (g.ofNt R.good) tr.ofNt) fun ex hx cls d H' Z' g q => hx cls d H' Z' (R.unbase g) q.ofNt⟩
theorem CT.nt (h : CT X w.nt E e tb) : CT X w E e tb := by
  refine ⟨ptImp h.pt fun σ H Q hh => ?_⟩
  obtain ⟨H0, Z0, r, Z, o, R, hw⟩ := hh
  exact ⟨baseH H o, Z, r, Z, o, R.toNt, G.wp_mono hw (fun t ht H' Z' g => ht H' Z' (g.ofNt R.good)) fun ex hx cls d H' Z' g q => hx cls d H' Z' (R.unbase g) q.ofNt⟩
theorem CF.nt (h : CF X w.nt E e ca) : CF X w E e ca := by
  refine ⟨peImp h.pe fun σ H Q hh => ?_⟩
  obtain ⟨H0, Z0, r, Z, o, R, hw⟩ := hh
  refine ⟨baseH H o, Z, r, Z, o, R.toNt, G.wp_mono hw (fun t ht p oo H' Z' g rt f => ?_) fun ex hx cls d H' Z' g q => hx cls d H' Z' (R.unbase g) q.ofNt⟩
  have g2 := g.ofNt R.good
  refine ht p oo H' Z' g2 rt.ofNt fun a ha => ⟨(f a ha).1, (f a ha).2.1, fun hm => ?_⟩
  exact absurd (f a ha).1 (w.tr R.good.wi a hm)
end
end TL
end s_TL20
section s_TL21
set_option Elab.async false
set_option linter.all false
set_option maxRecDepth 100000
set_option maxHeartbeats 4000000
/-! TL21: x op= e, x[k] = e; looks in passing; several values at once -/
namespace TL
open PySem PySem.Spec PyProof.Rows L2
section
variable {X : Cx} {M : Km} {w : Wd} {E : XK} {fr : Bool} {e e2 ik : Expr} {pos pos' p0 : Pos} {ca cb ci : EC} {cs : List Sl → G (List T)} {H0 Z0 H Z : Hp} {r : List Sl} {σ : L2.St} {o : Nat → List Addr} {D : Ends}
/-! ### x += e, a number -/
def cAugI (i : Nat) (f : Int → Int → Int) (ca : EC) : SC := fun r => match r[i]? with
  | some (.fz (.int a)) => ca r >>= fun t => (match t with | .int b => .ret (.nx (r.set i (.fz (.int (f a b))))) | _ => .stuck)
  | _ => .stuck
/-! ### x[k] = e, x a slot's own dict or list -/
def putAt : T → T → T → Option T
  | .dic kts, k, t => if (keyT k).isSome && fits (kts.length + 1) then some (.dic (putT kts k t)) else none
  | .lst ts, .int i, t => (ixN ts.length i).map fun j => .lst (ts.set j t)
  | .dn kts, k, t => if (tupKey k).isSome && decide (kts.length < 16000000) then some (.dn (nPut kts k t)) else none
  | _, _, _ => none
def rSetA (M : Km) : TSet := fun o i v H Q => rSetL o i v H Q ∨ rSetD o i v H Q ∨ rSetN M o i v H Q
def cPut (i : Nat) (ci ca : EC) : SC := fun r => ca r >>= fun t => match r[i]? with
  | some (.ow b) => ci r >>= fun k => (match putAt b k t with | some b' => .ret (.nx (r.set i (.ow b'))) | none => .stuck)
  | _ => .stuck
/-! ### a slot's own thing looked at in passing -/
def hard : T → Bool
  | .non | .bl _ | .int _ | .str _ | .ty _ | .fn _ | .drw => true
  | _ => false
theorem Tr.hardMono {K : PySem.W.Frag} {mg : Str → Option Value} {Z Z' : Hp} {t : T} {v : V} (h : Tr K mg w Z t v) (hh : hard t = true) : Tr K mg w Z' t v := by
  cases h <;> simp [hard] at hh
  · exact .non
  · exact .bl _
  · exact .int _
  · exact .str _
  · exact .ty _
  · rename_i m; exact .fn m
  · rename_i m; exact .drw m
theorem mut_frz {u : HO} {od : Obj} (mu : Mut (some u)) : (HO.frz od u) ≠ u := fun e => by
  rw [← e] at mu; exact mu
def cPk (i : Nat) (c : EC) : EC := fun r => c (frzS i r) >>= fun t => if hard t then .ret t else .stuck
theorem pe_fz {t : TE} (h : PE X e t) : PE X e (fun σ H Q => t σ H Q ∨ ∃ d u, H d = some u ∧ Mut (some u) ∧ ∀ od, t σ (upd H d (.frz od u)) fun v H' => H' d = some (.frz od u) ∧ Q v (upd H' d u)) := by
  refine ⟨fun pins s σ H Q I hw => ?_⟩
  rcases hw with q | q
  · exact h.run pins s σ H Q I q
  · exact (pe_lock h).run pins s σ H Q I q
theorem CE.pk0 (htb : w.tb = []) (i : Nat) (h : CE X w E e ca) : CE X w E e (cPk i ca) := by
  refine ⟨peImp (pe_fz h.pe) fun σ H Q hh => ?_⟩
  obtain ⟨H0, Z0, r, Z, o, R, hh⟩ := hh
  have hw := G.wp_bind.mp hh
  have fin : ∀ (t : T) (Q' : VK), ((if hard t then G.ret t else .stuck : G T).wp (Post X.km w H Z Q) (PostX X.km w E H0 Z0)) → (∀ v H', (∃ Z2, Grow w H Z H' Z2 ∧ Tr X.K X.mg w Z2 t v) → Q v H' → Q' v H') → True := fun _ _ _ _ => trivial
  rcases R.frz i with ⟨Z', o', R', sb, hW⟩ | ⟨d, u, hd, mu, P⟩
  · refine .inl ⟨H0, Z0, _, Z', o', R', G.wp_mono hw (fun t ht v H2 Z2 g tr => ?_) fun _ x => x⟩
    by_cases hc : hard t = true
    · rw [if_pos hc] at ht
      refine ht v H2 Z ⟨⟨fun a q e => g.good.zh _ _ (g.zz _ _ (sb _ _ e)), R.good.zw, (w.wi0 htb g.good.wi)⟩, Sub.refl _, fun _ _ q => .inl q, g.hh⟩ (tr.hardMono hc)
    · rw [if_neg hc] at ht; exact False.elim ht
  · refine .inr ⟨d, u, hd, mu, fun od => ?_⟩
    obtain ⟨Z', o', R', sb, hW⟩ := P od
    have hdw : d ∉ w.W := fun hm => by
      have e := hW d hm
      rw [upd_same, hd] at e
      exact absurd (Option.some.inj e) (mut_frz mu)
    have hdz : Z d = none := by
      cases e : Z d with
      | none => rfl
      | some q =>
        have e1 := R.good.zh _ _ e
        have e2 := R'.good.zh _ _ (sb _ _ e)
        rw [hd] at e1; cases e1
        rw [upd_same] at e2
        exact absurd (Option.some.inj e2) (mut_frz mu)
    refine ⟨H0, Z0, _, Z', o', R', G.wp_mono hw (fun t ht v H2 Z2 g tr => ?_) fun _ x => x⟩
    by_cases hc : hard t = true
    · rw [if_pos hc] at ht
      refine ⟨g.hh d _ upd_same hdw, ht v _ Z ⟨⟨fun a q e => ?_, R.good.zw, w.loc (fun a ha => upd_ne fun z => hdw (z ▸ ha)) (Sub.refl _) (w.wi0 htb g.good.wi)⟩, Sub.refl _, fun _ _ q => .inl q, fun a q e hb => ?_⟩ (tr.hardMono hc)⟩
      · have ne : a ≠ d := fun z => by rw [z, hdz] at e; cases e
        rw [upd_ne ne]; exact g.good.zh _ _ (g.zz _ _ (sb _ _ e))
      · by_cases ne : a = d
        · subst ne; rw [hd] at e; cases e; exact upd_same
        · rw [upd_ne ne]; exact g.hh a q (by rw [upd_ne ne]; exact e) hb
    · rw [if_neg hc] at ht; exact False.elim ht
theorem CE.pk (i : Nat) (h : CE X w.nt E e ca) : CE X w E e (cPk i ca) := CE.nt (CE.pk0 rfl i h)
end
end TL
end s_TL21
section s_TL22
set_option Elab.async false
set_option linter.all false
set_option maxRecDepth 100000
set_option maxHeartbeats 4000000
/-! TL22: several values at once, some of them new: a, b = e, f -/
namespace TL
open PySem PySem.Spec PyProof.Rows L2
def cMany : List (Bool × EC) → List Sl → G (List Sl)
  | [], _ => .ret []
  | (own, c) :: l, r => c r >>= fun t => cMany l r >>= fun ss => .ret ((if own then .ow t else .fz t) :: ss)
/-- values laid since H -/
inductive Sls (M : Km) (w : Wd) (H Z' H' : Hp) : List Sl → List V → List (List Addr) → Prop
  | nil : Sls M w H Z' H' [] [] []
  | fz {t v ss vs oo} : Tr M.K M.mg w Z' t v → Sls M w H Z' H' ss vs oo → Sls M w H Z' H' (.fz t :: ss) (v :: vs) ([] :: oo)
  | ow {t p o ss vs oo} : Root M.K M.mg w Z' H' t p o → Fresh w H Z' o → (∀ o' ∈ oo, ∀ a ∈ o, a ∉ o') → Sls M w H Z' H' ss vs oo → Sls M w H Z' H' (.ow t :: ss) (.ref p :: vs) (o :: oo)
section
variable {M : Km} {w : Wd} {H0 Z0 H Z H1 Z1 H' Z' : Hp} {r : List Sl} {σ : L2.St} {o : Nat → List Addr}
theorem Fresh.base {oo : List Addr} (g : Grow w H Z H1 Z1) (f : Fresh w H1 Z' oo) : Fresh w H Z' oo := fun a ha => by
  refine ⟨?_, (f a ha).2⟩
  cases q : H a with
  | none => rfl
  | some u =>
    have z := (f a ha).1
    rw [g.hh a u q (f a ha).2.2] at z
    cases z
theorem Sls.base (g : Grow w H Z H1 Z1) : ∀ {ss vs oo}, Sls M w H1 Z' H' ss vs oo → Sls M w H Z' H' ss vs oo
  | _, _, _, .nil => .nil
  | _, _, _, .fz a b => .fz a (Sls.base g b)
  | _, _, _, .ow a f d b => .ow a (f.base g) d (Sls.base g b)
theorem Sls.fresh : ∀ {ss vs oo}, Sls M w H Z' H' ss vs oo → ∀ o' ∈ oo, ∀ a ∈ o', H a = none
  | _, _, _, .nil, _, h, _, _ => by cases h
  | _, _, _, .fz _ b, o', h, a, ha => by
    rcases List.mem_cons.mp h with rfl | h
    · cases ha
    · exact b.fresh o' h a ha
  | _, _, _, .ow _ f _ b, o', h, a, ha => by
    rcases List.mem_cons.mp h with rfl | h
    · exact (f a ha).1
    · exact b.fresh o' h a ha
def setR (r : List Sl) : List Nat → List Sl → List Sl
  | i :: is, s :: ss => setR (r.set i s) is ss
  | _, _ => r
def setV (σ : L2.St) : List Nat → List V → L2.St
  | i :: is, v :: vs => setV (σ.set i (some v)) is vs
  | _, _ => σ
end
section
variable {X : Cx} {w : Wd} {E : XK} {fr : Bool} {e a b c : Expr} {es : List Expr} {ca : EC} {l : List (Bool × EC)} {pos : Pos}
def PostM (M : Km) (w : Wd) (H Z : Hp) (Q : List V → Hp → Prop) : List Sl → Prop := fun ss => ∀ vs oo H' Z', Grow w H Z H' Z' → Sls M w H Z' H' ss vs oo → Q vs H'
def EvM (M : Km) (w : Wd) (E : XK) (l : List (Bool × EC)) : TA := fun σ H Q => ∃ H0 Z0 r Z o, EnvR M w H0 Z0 r σ H Z o ∧ (cMany l r).wp (PostM M w H Z Q) (PostX M w E H0 Z0)
structure CM (X : Cx) (w : Wd) (E : XK) (es : List Expr) (l : List (Bool × EC)) : Prop where
  pa : PA X es (EvM X.km w E l)
def cPar (is : List Nat) (l : List (Bool × EC)) : SC := fun r => cMany l r >>= fun ss => if ss.length = is.length then .ret (.nx (setR r is ss)) else .stuck
theorem Sls.len {M : Km} {H Z' H' : Hp} : ∀ {ss vs oo}, Sls M w H Z' H' ss vs oo → ss.length = vs.length
  | _, _, _, .nil => rfl
  | _, _, _, .fz _ b => by rw [List.length_cons, List.length_cons, b.len]
  | _, _, _, .ow _ _ _ b => by rw [List.length_cons, List.length_cons, b.len]
end
end TL
end s_TL22
section s_TL23
set_option Elab.async false
set_option linter.all false
set_option maxRecDepth 100000
set_option maxHeartbeats 4000000
/-! TL23: the law's call where no repr is under way; the promise of the law by a computation -/
namespace TL
open PySem PySem.Spec PyProof.Rows L2
/-- what the script's tracking may look like behind the top -/
structure Scr (K : PySem.W.Frag) (h : Heap) (a : Addr) (ns : List Int) (H : Hp) : Prop where
  only : ∀ b u, H b = some u → b = a ∧ ∃ xs, u = .frz { cls := .type "list", data := .seq xs } (.lst (ns.map .int)) ∧ h.get? a = some { cls := .type "list", data := .seq xs }
  seq : SqL K H a (ns.map V.int)
  out : H a ≠ none → K.lookup a = none
theorem scr_of {K : PySem.W.Frag} {h : Heap} {a : Addr} {vs : List Value} {ns : List Int} (KX : K.In h) (ha : h.get? a = some { cls := .type "list", data := .seq vs.toArray }) (hi : IntsAre vs ns) (hl : ns.length ≤ sizeLine) : ∃ H, Scr K h a ns H := by
  have rel := vals_ints hi
  cases q : K.lookup a with
  | some o =>
    have e := KX a o q
    rw [ha] at e; cases e
    refine ⟨fun _ => none, fun b u z => (nomatch z), .inr ⟨_, vs.toArray, _, q, rfl, rfl, rfl, ?_, by simpa using rel⟩, fun z => absurd rfl z⟩
    rw [List.size_toArray, hi.length]; exact hl
  | none =>
    refine ⟨fun b => if b = a then some (.frz { cls := .type "list", data := .seq vs.toArray } (.lst (ns.map V.int))) else none, fun b u z => ?_, .inl (.inr ⟨_, if_pos rfl⟩), fun _ => q⟩
    by_cases e : b = a
    · simp only [if_pos e, Option.some.injEq] at z
      exact ⟨e, _, z.symm, ha⟩
    · simp only [if_neg e] at z; cases z
theorem scr_hok {P : Program} {w : World} {K : PySem.W.Frag} {h : Heap} {a : Addr} {vs : List Value} {ns : List Int} {H : Hp} (S : Scr K h a ns H) (ha : h.get? a = some { cls := .type "list", data := .seq vs.toArray }) (hi : IntsAre vs ns) (hl : ns.length ≤ sizeLine) : HOk P w H h := fun b u e => by
  obtain ⟨rfl, xs, rfl, q⟩ := S.only b u e
  rw [ha] at q
  cases q
  exact ⟨ha, by rw [List.length_map]; exact hl, vs, _, vals_ints hi, ha⟩
end TL
end s_TL23
section s_TL24
set_option Elab.async false
set_option linter.all false
set_option maxRecDepth 100000
set_option maxHeartbeats 4000000
/-! TL24: the draws' dict -/
namespace TL
open PySem PySem.Spec PyProof.Rows L2
def drk (g c : Addr) (rest turn : Nat) : List (Key × V) := [(.inr "great", .ref g), (.inr "rest", .int rest), (.inr "cells", .ref c), (.inr "turn", .int turn)]
def natsV (l : List Nat) : List V := l.map fun n : Nat => V.int (n : Int)
theorem dr_rest {g c : Addr} {rest turn : Nat} : valV (drk g c rest turn) (.inr "rest") = some (.int rest) := by rfl
theorem dr_cells {g c : Addr} {rest turn : Nat} : valV (drk g c rest turn) (.inr "cells") = some (.ref c) := by rfl
theorem dr_turn {g c : Addr} {rest turn : Nat} : valV (drk g c rest turn) (.inr "turn") = some (.int turn) := by rfl
theorem dr_setRest {g c : Addr} {rest turn : Nat} {v : V} : putK (drk g c rest turn) (.inr "rest") v = [(.inr "great", .ref g), (.inr "rest", v), (.inr "cells", .ref c), (.inr "turn", .int turn)] := by rfl
theorem dr_setTurn {g c : Addr} {rest turn : Nat} {v : V} : putK (drk g c rest turn) (.inr "turn") v = [(.inr "great", .ref g), (.inr "rest", .int rest), (.inr "cells", .ref c), (.inr "turn", v)] := by rfl
section
variable {X : Cx} {w : Wd} {E : XK} {fr : Bool} {H0 Z0 H Z H2 : Hp} {r : List Sl} {σ : L2.St} {o : Nat → List Addr} {D : Ends} {e : Expr} {ca : EC} {k : Nat}
theorem tr_drw {K : PySem.W.Frag} {mg : Str → Option Value} {v : V} (h : Tr K mg w Z .drw v) : ∃ d g c cs, v = .ref d ∧ w.dr = [d, g, c] ∧ ∀ H, w.WD H ↔ DrI d g c cs H := by
  cases h with
  | @drw a r e =>
    obtain ⟨g, c, cs, rfl, q⟩ := w.ok _ _ e
    exact ⟨a, g, c, cs, rfl, e, q⟩
theorem EnvR.draw (R : EnvR X.km w H0 Z0 r σ H Z o) (h : ∀ a, a ∉ w.dr → H2 a = H a) (hi : w.WD H2) : EnvR X.km w H0 Z0 r σ H2 Z o := by
  have out : ∀ {a}, a ∉ w.W → a ∉ w.dr := fun hn hm => hn (List.mem_append_left _ hm)
  refine ⟨⟨⟨fun a u e => ?_, R.good.zw, hi, R.good.wi.2.mono (Sub.refl _) fun p hp => h p.1 (Wd.apart R.good.wi hp)⟩, R.gr.zz, R.gr.new, fun a u e hw => ?_⟩, R.len, fun i s x h1 h2 => (R.sl i s x h1 h2).move (Sub.refl _) fun b hb v q => by rw [h b (out (R.fr i b hb).2.2)]; exact q, R.out, R.dis, R.fr, R.wo⟩
  · have nw : a ∉ w.W := fun hm => by rw [R.good.zw a hm] at e; cases e
    rw [h a (out nw)]; exact R.good.zh a u e
  · rw [h a (out hw)]; exact R.gr.hh a u e hw
/-- the slot that holds the draws -/
theorem EnvR.drw (R : EnvR X.km w H0 Z0 r σ H Z o) {i : Nat} (hr : r[i]? = some (.fz .drw)) : ∃ d g c cs, σ[i]? = some (some (.ref d)) ∧ w.dr = [d, g, c] ∧ (∀ H, w.WD H ↔ DrI d g c cs H) ∧ DrI d g c cs H := by
  have hi : i < σ.length := by
    have := (List.getElem?_eq_some_iff.mp hr).1
    rw [R.len] at this; exact this
  obtain ⟨_, v, ev, tr⟩ := R.sl i _ _ hr (List.getElem?_eq_getElem hi)
  obtain ⟨d, g, c, cs, rfl, e1, e2⟩ := tr_drw tr
  exact ⟨d, g, c, cs, (List.getElem?_eq_getElem hi).trans (congrArg some ev), e1, e2, (e2 H).mp R.good.wi.1⟩
/-- draw['rest'], draw['turn'] -/
def cDr (i : Nat) : EC := fun r => match r[i]? with
  | some (.fz .drw) => .any fun l => .ret (.int l.length)
  | _ => .stuck
theorem ce_dr (i : Nat) {x key : Str} {j : Nat} {p1 p2 pos : Pos} (hkey : key = "rest" ∨ key = "turn") (hr : Room k X.A) (hN : X.N[i]? = some x := by rfl) (hv : Vis X.env.scope x := by first | exact Or.inl rfl | exact Or.inr (Or.inl rfl) | exact Or.inr (Or.inr rfl)) (hd : (x == ("__debug__" : Str)) = false := by decide)
    (hcd : (x == ("__classdict__" : Str)) = false := by decide) (hs : PlainIx (.Constant (.str key) j p2) := by exact fun _ _ => rfl) : CE X w E (.Subscript (.Name x p1) (.Constant (.str key) j p2) pos) (cDr i) := by
  refine ⟨peImp (pe_ix (o_ix hr) (pe_var hN hv hd hcd) pe_str hs) fun σ H Q h => ?_⟩
  obtain ⟨H0, Z0, r, Z, o, R, h⟩ := h
  unfold cDr at h
  split at h
  · rename_i er
    obtain ⟨d, g, c, cs, es, hW, hWI, hdg, hdc, hgc, lc, gs, rest, turn, lg, e1, e2, e3⟩ := R.drw er
    refine ⟨.ref d, es, ?_⟩
    rcases hkey with rfl | rfl
    · have q := h (List.replicate rest 0) (.int rest) H Z (Grow.refl R.good) (by have z := Tr.int (K := X.K) (mg := X.mg) (w := w) (Z := Z) ((List.replicate rest 0).length : Int); rw [List.length_replicate] at z ⊢; exact z)
      exact .inr ⟨d, _, rfl, .inl ⟨_, _, .inl e1, rfl, dr_rest.symm⟩, q⟩
    · have q := h (List.replicate turn 0) (.int turn) H Z (Grow.refl R.good) (by have z := Tr.int (K := X.K) (mg := X.mg) (w := w) (Z := Z) ((List.replicate turn 0).length : Int); rw [List.length_replicate] at z ⊢; exact z)
      exact .inr ⟨d, _, rfl, .inl ⟨_, _, .inl e1, rfl, dr_turn.symm⟩, q⟩
  · exact False.elim h
/-- draw['rest'] = e, draw['turn'] = e -/
def cDrPut (i : Nat) (ca : EC) : SC := fun r => ca r >>= fun t => match r[i]?, t with
  | some (.fz .drw), .int n => if 0 ≤ n then .ret (.nx r) else .stuck
  | _, _ => .stuck
theorem cs_drPut (i : Nat) {x key : Str} {j : Nat} {p1 p2 pos' pos : Pos} (hkey : key = "rest" ∨ key = "turn") (hu : X.A.units + 1 < cLine) (he : CE X w E e ca) (hN : X.N[i]? = some x := by rfl) (hv : Vis X.env.scope x := by first | exact Or.inl rfl | exact Or.inr (Or.inl rfl) | exact Or.inr (Or.inr rfl))
    (hd : (x == ("__debug__" : Str)) = false := by decide) (hcd : (x == ("__classdict__" : Str)) = false := by decide) (hs : swapsWith e (some (.Subscript (.Name x p1) (.Constant (.str key) j p2) pos')) pos.line X.env = pure false := by rfl) :
    CS X w E fr (.Assign [.Subscript (.Name x p1) (.Constant (.str key) j p2) pos'] e pos) (cDrPut i ca) := by
  refine ⟨psImp (ps_dput hu (pe_var hN hv hd hcd) pe_str he.pe hs) fun D σ H h => ?_⟩
  obtain ⟨H0, Z0, r, Z, o, R, h⟩ := h
  refine evSeqS R h fun y H1 Z1 t R1 g1 t1 h1 => ?_
  split at h1
  · rename_i n er
    split at h1
    · rename_i hn
      cases t1
      obtain ⟨m, rfl⟩ := Int.eq_ofNat_of_zero_le hn
      obtain ⟨d, g, c, cs, es, hW, hWI, hdg, hdc, hgc, lc, gs, rest, turn, lg, e1, e2, e3⟩ := R1.drw er
      have out : ∀ u a, a ∉ w.dr → (upd H1 d u) a = H1 a := fun u a ha => upd_ne fun z => ha (by rw [hW, z]; simp)
      rcases hkey with rfl | rfl
      · refine ⟨.ref d, es, d, _, rfl, .inl ⟨_, .inr "rest", e1, rfl, by show (4 : Nat) < sizeLine; rw [sizeLine_eq]; decide, rfl⟩, ?_⟩
        rw [show putK [((.inr "great" : Key), V.ref g), (.inr "rest", .int rest), (.inr "cells", .ref c), (.inr "turn", .int turn)] (.inr "rest") (.int (m : Int)) = _ from dr_setRest (rest := rest)]
        refine h1 σ _ Z1 o (R1.draw (out _) ((hWI _).mpr ⟨hdg, hdc, hgc, lc, gs, m, turn, lg, upd_same, ?_, ?_⟩)) (Sub.refl _)
        · rw [upd_ne hdg.symm]; exact e2
        · rw [upd_ne hdc.symm]; exact e3
      · refine ⟨.ref d, es, d, _, rfl, .inl ⟨_, .inr "turn", e1, rfl, by show (4 : Nat) < sizeLine; rw [sizeLine_eq]; decide, rfl⟩, ?_⟩
        rw [show putK [((.inr "great" : Key), V.ref g), (.inr "rest", .int rest), (.inr "cells", .ref c), (.inr "turn", .int turn)] (.inr "turn") (.int (m : Int)) = _ from dr_setTurn (turn := turn)]
        refine h1 σ _ Z1 o (R1.draw (out _) ((hWI _).mpr ⟨hdg, hdc, hgc, lc, gs, rest, m, lg, upd_same, ?_, ?_⟩)) (Sub.refl _)
        · rw [upd_ne hdg.symm]; exact e2
        · rw [upd_ne hdc.symm]; exact e3
    · exact False.elim h1
  · exact False.elim h1
/-- for cell in draw['cells'] -/
def cDrCells (i : Nat) : List Sl → G (List T) := fun r => match r[i]? with
  | some (.fz .drw) => .any fun l => if l.length ≤ 1000 then .ret (l.map fun n : Nat => T.int (n : Int)) else .ret []
  | _ => .stuck
theorem ci_drCells (i : Nat) {tg : Expr} {x : Str} {j : Nat} {p1 p2 pos : Pos} (hr : Room k X.A) (hN : X.N[i]? = some x := by rfl) (hv : Vis X.env.scope x := by first | exact Or.inl rfl | exact Or.inr (Or.inl rfl) | exact Or.inr (Or.inr rfl)) (hd : (x == ("__debug__" : Str)) = false := by decide)
    (hcd : (x == ("__classdict__" : Str)) = false := by decide) (hs : PlainIx (.Constant (.str "cells") j p2) := by exact fun _ _ => rfl) : CI X w E tg (.Subscript (.Name x p1) (.Constant (.str "cells") j p2) pos) (cDrCells i) := by
  refine ⟨piImp (pi_list (pe_ix (o_ix hr) (pe_var hN hv hd hcd) pe_str hs)) fun σ H Rr h => ?_⟩
  obtain ⟨H0, Z0, r, Z, o, R, h⟩ := h
  unfold cDrCells at h
  split at h
  · rename_i er
    obtain ⟨d, g, c, cs, es, hW, hWI, hdg, hdc, hgc, lc, gs, rest, turn, lg, e1, e2, e3⟩ := R.drw er
    refine ⟨.ref d, es, .inr ⟨d, _, rfl, .inl ⟨_, _, .inl e1, rfl, dr_cells.symm⟩, ?_⟩⟩
    have q : (if cs.length ≤ 1000 then G.ret (cs.map fun n : Nat => T.int (n : Int)) else .ret [] : G (List T)).wp (fun ts => ∀ J H' Z', Grow w H Z H' Z' → ts.length ≤ sizeLine → IterOk X.km w J ts Z' → Rr J H') (PostX X.km w E H0 Z0) := h cs
    rw [if_pos lc] at q
    refine ⟨c, rfl, ⟨_, .inl (.inl e3)⟩, q _ H Z (Grow.refl R.good) (by rw [List.length_map]; exact Nat.le_of_lt (small1000 lc)) fun n H1 Z1 s g1 => ?_⟩
    obtain ⟨_, _, _, _, gs', rest', turn', _, _, _, f3⟩ := (hWI H1).mp g1.wi.1
    have hS : SqL X.K H1 c (cs.map fun n : Nat => V.int (n : Int)) := .inl (.inl f3)
    refine ⟨fun t ht => ?_, fun hl => ⟨_, hS, by rw [List.length_map] at hl ⊢; omega⟩⟩
    rw [List.getElem?_map, Option.map_eq_some_iff] at ht
    obtain ⟨m, hm, rfl⟩ := ht
    have hv : (cs.map fun n : Nat => V.int (n : Int))[n]? = some (.int m) := by rw [List.getElem?_map, hm]; rfl
    refine ⟨⟨_, _, hS, hv⟩, fun x H' y => ?_⟩
    obtain ⟨rfl, y⟩ := y
    have e := y _ hS
    rw [hv] at e
    cases e
    exact ⟨Z1, Grow.refl g1, .int _⟩
  · exact False.elim h
end
end TL
end s_TL24
section s_TL25
set_option Elab.async false
set_option linter.all false
set_option maxRecDepth 100000
set_option maxHeartbeats 4000000
/-! TL25: the draws' taking and making -/
namespace TL
open PySem PySem.Spec PyProof.Rows L2
theorem dp_nats {K : PySem.W.Frag} {H : Hp} : ∀ l : List Nat, DpAll K H (natsV l) (l.map fun n : Nat => PyData.int (n : Int))
  | [] => .nil
  | n :: l => .cons (.int _) (dp_nats l)
theorem lay_nats : ∀ l : List Nat, PyData.canLayAll0 (l.map fun n : Nat => PyData.int (n : Int)) = true ∧ PyData.depthAll (l.map fun n : Nat => PyData.int (n : Int)) = 0
  | [] => ⟨rfl, rfl⟩
  | n :: l => by
    obtain ⟨h1, h2⟩ := lay_nats l
    refine ⟨?_, ?_⟩
    · show (true && _) = true
      rw [Bool.true_and]; exact h1
    · show max 0 _ = 0
      rw [h2]; rfl
theorem shaped_nats (l : List Nat) : SeqAt.shaped (.list (l.map fun n : Nat => PyData.int (n : Int))) = true := by
  obtain ⟨h1, h2⟩ := lay_nats l
  show (PyData.canLayAll0 _ && decide (PyData.depthAll _ + 1 ≤ 64)) = true
  rw [h1, h2]; rfl
section
variable {X : Cx} {w : Wd} {E : XK} {fr : Bool} {H0 Z0 H Z H2 : Hp} {r : List Sl} {σ : L2.St} {o : Nat → List Addr} {D : Ends} {e : Expr} {ca : EC} {k : Nat}
def cDrIf (i : Nat) : SC := fun r => match r[i]? with
  | some (.fz .drw) => .ret (.nx r)
  | _ => .stuck
theorem cs_drIf (i : Nat) {x : Str} {p1 p2 p3 p4 p5 p6 p7 p8 p9 p10 p11 p12 p13 p14 p15 p16 p17 p18 p19 p20 pos apos : Pos} {j1 j2 j3 j4 j5 j6 : Nat} (hr : Room k X.A) (hN : X.N[i]? = some x := by rfl) (hv : Vis X.env.scope x := by first | exact Or.inl rfl | exact Or.inr (Or.inl rfl) | exact Or.inr (Or.inr rfl))
    (hd : (x == ("__debug__" : Str)) = false := by decide) (hcd : (x == ("__classdict__" : Str)) = false := by decide) (hline : (apos.endLine == p14.line) = true := by rfl) :
    CS X w E fr (.If (.BoolOp .And [.Compare (.Subscript (.Name x p1) (.Constant (.str "rest") j1 p2) p3) [.Eq] [.Constant (.int 0) j2 p4] p5,
        .Compare (.Subscript (.Name x p6) (.Constant (.str "great") j3 p7) p8) [.NotEq] [.List [] p9] p10] p11)
      [.Assign [.Subscript (.Name x p12) (.Constant (.str "rest") j4 p13) p15] (.Call (.Attribute (.Subscript (.Name x p16) (.Constant (.str "great") j5 p17) p18) "pop" apos) [.Constant (.int 0) j6 p19] [] p14) p20] [] pos) (cDrIf i) := by
  refine ⟨psImp (ps_if (PW.pt (pw_and (pt_cmpR (o_eq hr) (pe_ix (o_ix hr) (pe_var hN hv hd hcd) pe_str fun _ _ => rfl) pe_int rfl) (pw_and1 (pt_cmpR (o_ne hr) (pe_ix (o_ix hr) (pe_var hN hv hd hcd) pe_str fun _ _ => rfl) (pe_lst pa_nil) rfl))))
    (pss_one (ps_dput (hu_of hr) (pe_var hN hv hd hcd) pe_str (pe_bm F.plainAttrs_list F.slot_list_pop F.type_list_pop mt_popAt (pe_ix (o_ix hr) (pe_var hN hv hd hcd) pe_str fun _ _ => rfl) (pa_cons pe_int pa_nil) (hline := hline)) rfl)) pss_nil) fun D σ H h => ?_⟩
  obtain ⟨H0, Z0, r, Z, o, R, h⟩ := h
  unfold cDrIf at h
  split at h
  · rename_i er
    obtain ⟨d, g, c, cs, es, hW, hWI, hdg, hdc, hgc, lc, gs, rest, turn, lg, e1, e2, e3⟩ := R.drw er
    have g_rest : ∀ {H' : Hp} {v : V}, H' d = some (.dK [(.inr "great", .ref g), (.inr "rest", v), (.inr "cells", .ref c), (.inr "turn", .int turn)]) → DGet H' d (.str "rest") (some v) := fun q => .inl ⟨_, .inr "rest", .inl q, rfl, rfl⟩
    have g_great : ∀ {H' : Hp} {v : V}, H' d = some (.dK [(.inr "great", .ref g), (.inr "rest", v), (.inr "cells", .ref c), (.inr "turn", .int turn)]) → DGet H' d (.str "great") (some (.ref g)) := fun q => .inl ⟨_, .inr "great", .inl q, rfl, rfl⟩
    -- draw['rest'] == 0
    refine ⟨.ref d, es, .inr ⟨d, _, rfl, g_rest e1, .inl ⟨rfl, ?_⟩⟩⟩
    refine ⟨_, rfl, ?_⟩
    cases hz : decide (V.int (rest : Int) = V.int 0) with
    | true =>
      refine iteT ?_
      -- draw['great'] != []
      refine ⟨.ref d, es, .inr ⟨d, _, rfl, g_great e1, ?_⟩⟩
      refine ⟨Nat.zero_le _, fun p hp => ?_⟩
      have nd : d ≠ p := ne_of_none e1 hp
      have ng : g ≠ p := ne_of_none e2 hp
      have nc : c ≠ p := ne_of_none e3 hp
      have hpw : p ∉ w.W := fun hm => R.good.nw hp p hm rfl
      refine .inr ⟨.list (gs.map fun n : Nat => PyData.int (n : Int)), .list [], .lst (.inl (.inl (by rw [upd_ne ng]; exact e2))) (dp_nats gs), .lst (.inl (.inl upd_same)) .nil, shaped_nats gs, rfl, _, rfl, ?_⟩
      have R1 : EnvR X.km w H0 Z0 r σ (upd H p (.lst [])) Z o := R.grow (Grow.laid R.good hp)
      cases gs with
      | nil => exact iteF (h σ _ Z o R1 (Sub.refl _))
      | cons g0 gs =>
        refine iteT ?_
        refine ⟨.ref d, by exact es, .inr ⟨d, _, rfl, g_great (v := .int rest) (by rw [upd_ne nd]; exact e1), ?_⟩⟩
        have eg : (upd H p (.lst [])) g = some (.lst ((g0 :: gs).map fun n : Nat => V.int (n : Int))) := by rw [upd_ne ng]; exact e2
        refine ⟨.inl ⟨rfl, _, .inl (.inl eg)⟩, ?_⟩
        refine ⟨g, _, 0, 0, .int g0, rfl, rfl, eg, by decide, by decide, seqIndex_of (by decide) (by simp), rfl, ?_⟩
        have ed : (upd (upd H p (.lst [])) g (.lst (gs.map fun n : Nat => V.int (n : Int)))) d = some (.dK (drk g c rest turn)) := by
          rw [upd_ne hdg, upd_ne nd]; exact e1
        refine ⟨.ref d, es, d, _, rfl, .inl ⟨_, .inr "rest", ed, rfl, by show (4 : Nat) < sizeLine; rw [sizeLine_eq]; decide, rfl⟩, ?_⟩
        rw [dr_setRest]
        refine h σ _ Z o (R1.draw (fun a ha => ?_) ((hWI _).mpr ⟨hdg, hdc, hgc, lc, gs, g0, turn, by rw [List.length_cons] at lg; omega, upd_same, ?_, ?_⟩)) (Sub.refl _)
        · rw [hW] at ha
          simp only [List.mem_cons, List.not_mem_nil, or_false, not_or] at ha
          rw [upd_ne ha.1, upd_ne ha.2.1]
        · rw [upd_ne hdg.symm]; exact upd_same
        · rw [upd_ne hdc.symm, upd_ne hgc.symm, upd_ne nc]; exact e3
    | false => exact iteF (iteF (h σ H Z o R (Sub.refl _)))
  · exact False.elim h
end
end TL
end s_TL25
section s_TL26
set_option Elab.async false
set_option linter.all false
set_option maxRecDepth 100000
set_option maxHeartbeats 4000000
/-! TL26: the draws are made: a world of one's own from then on -/
namespace TL
open PySem PySem.Spec PyProof.Rows L2
/-- the world of draws at d, g, c -/
def drWd (d g c : Addr) (cs : List Nat) (w : Wd) : Wd where
  dr := [d, g, c]
  tb := w.tb
  WD := DrI d g c cs
  ld := fun H H' h ⟨a1, a2, a3, lc, gs, rest, turn, lg, e1, e2, e3⟩ => ⟨a1, a2, a3, lc, gs, rest, turn, lg, by rw [h d (by simp)]; exact e1, by rw [h g (by simp)]; exact e2, by rw [h c (by simp)]; exact e3⟩
  td := fun H ⟨a1, a2, a3, lc, gs, rest, turn, lg, e1, e2, e3⟩ a ha => by
    simp only [List.mem_cons, List.not_mem_nil, or_false] at ha
    rcases ha with rfl | rfl | rfl
    · rw [e1]; simp
    · rw [e2]; simp
    · rw [e3]; simp
  ok := fun a r e => by
    cases e
    exact ⟨g, c, cs, rfl, fun H => Iff.rfl⟩
  me := w.me
  wo := w.wo
  clo := w.clo
/-- what _law_begin is to do: the draws' dict of its own -/
def SpBegin (K : PySem.W.Frag) : Sp := fun vs H Q _ => ∃ (a : Addr) (ns : List Int), vs = [.ref a] ∧ SqL K H a (ns.map V.int) ∧ ns.length ≤ 1000 ∧
  ∀ d g c cs H', (∀ b u, H b = some u → H' b = some u) → H d = none → H g = none → H c = none → DrI d g c cs H' → Q (.ref d) H'
section
variable {X : Cx} {w : Wd} {E : XK} {fr : Bool} {k : Nat} {f : Addr} {fd : FuncData} {ps : List Str} {sts : List Stmt} {c : SC}
def plainSl : Sl → Bool
  | .un => true
  | .fz (.scr _) => true
  | _ => false
def cBegin (i j : Nat) (c : SC) : SC := fun r => match r[j]? with
  | some (.fz (.scr ns)) => if r.all plainSl = true then (c (r.set i (.fz .drw))).nox >>= fun k => (match k with | .rt (.bl b) => .ret (.rt (.bl b)) | _ => .stuck) else .stuck
  | _ => .stuck
/-- the first statement of the law: draw = _law_begin(script) -/
theorem css_begin (hw0 : w.dr = []) {x s : Str} {i j : Nat} {fn : Str} {p1 p2 p3 p4 pos : Pos} (hN : X.N.Nodup) (Fk : FnG X.prog X.w X.K X.mg X.base k f fd ps (SpBegin X.K)) (gd : X.A.guards = some []) (hr : Room k X.A) (hg : Gl X fn) (hm : X.mg fn = some (.ref f)) (hk : PySem.W.keepIn X.K (.ref f) = true) (hb : Binds X.K fd ps [])
    (rest : ∀ w' : Wd, w'.tb = w.tb → w'.clo = w.clo → CSs X w' E false sts c) (hi : X.N[i]? = some x := by rfl) (hx : Loc X.env.scope x := by first | exact Or.inl rfl | exact Or.inr rfl) (hj : X.N[j]? = some s := by rfl) (hv : Vis X.env.scope s := by first | exact Or.inl rfl | exact Or.inr (Or.inl rfl) | exact Or.inr (Or.inr rfl))
    (hd : (s == ("__debug__" : Str)) = false := by decide) (hcd : (s == ("__classdict__" : Str)) = false := by decide) (hdb : (fn == ("__debug__" : Str)) = false := by decide) (hij : i ≠ j := by decide)
    (hs : swapsWith (.Call (.Name fn p1) [.Name s p2] [] p3) (some (.Name x p4)) pos.line X.env = pure false := by rfl) (hf : X.fn x = true ∨ X.env.scope.names.lookup x = some .local := by first | exact .inl rfl | exact .inr rfl | assumption) :
    CSs X w E false (.Assign [.Name x p4] (.Call (.Name fn p1) [.Name s p2] [] p3) pos :: sts)
      (cBegin i j c) := by
  have hp := ps_set (pos' := p4) hN hi hx (peG (p := p1) (pos := p3) Fk gd hr hg hm hk hb (E := fun _ _ _ => False) passes_false (pa_cons (pe_var (pos := p2) hj hv hd hcd) pa_nil) hdb) hs hf
  have hrest : PSs X sts (fun D σ H => ∃ w' : Wd, (w'.tb = w.tb ∧ w'.clo = w.clo) ∧ EvS X.km w' E false c D σ H) := ⟨fun pins s σ H D I ⟨w', hq, h⟩ => (rest w' hq.1 hq.2).ps.run pins s σ H D I h⟩
  refine ⟨pssImp (pss_cons hp hrest) fun D σ H h => ?_⟩
  obtain ⟨H0, Z0, r, Z, o, R, h⟩ := h
  unfold cBegin at h
  split at h
  · rename_i ns er
    split at h
    · rename_i hall
      have hj' : j < σ.length := by
        have := (List.getElem?_eq_some_iff.mp er).1
        rw [R.len] at this; exact this
      obtain ⟨_, v, ev, tv⟩ := R.sl j _ _ er (List.getElem?_eq_getElem hj')
      cases tv with
      | @scr _ a hS hl =>
        refine ⟨.ref a, (List.getElem?_eq_getElem hj').trans (congrArg some ev), a, ns, rfl, R.good.sqL hS, hl, fun d g c' cs H' hext hd' hg' hc' hDr => ?_⟩
        have zn : ∀ b, H b = none → Z b = none := fun b hb => R.good.tracked hb
        have good' : Good (drWd d g c' cs w) H' Z := ⟨fun b u e => hext b u (R.good.zh b u e), fun b hb => by
          rcases List.mem_append.mp hb with hb | hb
          · have hb' : b = d ∨ b = g ∨ b = c' := by simpa [drWd] using hb
            rcases hb' with rfl | rfl | rfl
            · exact zn _ hd'
            · exact zn _ hg'
            · exact zn _ hc'
          · exact R.good.zw b (List.mem_append_right _ hb), hDr, R.good.wi.2.mono (Sub.refl _) fun p hp => by
          obtain ⟨ps, e, _⟩ := R.good.wi.2 p hp
          rw [e]; exact hext _ _ e⟩
        refine ⟨drWd d g c' cs w, ⟨rfl, rfl⟩, H', Z, r.set i (.fz .drw), Z, fun _ => [], ?_, ?_⟩
        · refine ⟨Grow.refl good', by rw [List.length_set, List.length_set]; exact R.len, fun n s y h1 h2 => ?_, fun _ _ => rfl, fun _ _ _ hm => (nomatch hm), fun _ _ hm => (nomatch hm), R.wo.1, fun p hp => (nomatch hp)⟩
          by_cases en : n = i
          · subst en
            have hn : n < r.length := by
              have := (List.getElem?_eq_some_iff.mp h1).1
              rwa [List.length_set] at this
            rw [List.getElem?_set_self hn] at h1
            rw [List.getElem?_set_self (R.len ▸ hn)] at h2
            cases h1; cases h2
            exact ⟨rfl, _, rfl, .drw rfl⟩
          · rw [List.getElem?_set_ne (Ne.symm en)] at h1 h2
            have q := R.sl n s y h1 h2
            have hs : plainSl s = true := List.all_eq_true.mp hall s (List.mem_of_getElem? h1)
            cases s with
            | un => exact rfl
            | fz t =>
              cases t with
              | scr ms =>
                obtain ⟨_, v, rfl, tv⟩ := q
                cases tv with
                | scr a b => exact ⟨rfl, _, rfl, .scr a b⟩
              | _ => cases hs
            | ow t => cases hs
            | me t => cases hs
            | dp t => cases hs
            | dq t => cases hs
            | dd t => cases hs
        · have h1 := G.wp_bind.mp h
          refine G.wp_nox (G.wp_mono h1 (fun kk hk => ?_) fun _ x => x)
          cases kk with
          | rt t =>
            cases t with
            | bl b =>
              · have goal : PostR X.km (drWd d g c' cs w) false H' Z (.bl b) D.rt := fun v H2 Z2 g2 tv => by
                  cases tv
                  have hk' : PostR X.km w false H0 Z0 (.bl b) D.rt := hk
                  refine hk' (.bl b) H2 Z2 ⟨⟨g2.good.zh, fun a ha => g2.good.zw a (by rcases List.mem_append.mp ha with q | q; (rw [hw0] at q; cases q); exact List.mem_append_right _ q), w.ld H H2 (fun a ha => (by rw [hw0] at ha; cases ha)) R.good.wi.1, g2.good.wi.2⟩, R.gr.zz.trans g2.zz, fun a u e => ?_, fun a u e hnw => ?_⟩ (.bl b)
                  · rcases g2.new a u e with q | q
                    · exact R.gr.new a u q
                    · refine .inr ?_
                      cases z : H0 a with
                      | none => rfl
                      | some u' =>
                        by_cases hm : a ∈ w.W
                        · have hm' : a ∈ (drWd d g c' cs w).W := by
                            rcases List.mem_append.mp hm with q2 | q2
                            · rw [hw0] at q2; cases q2
                            · exact List.mem_append_right _ q2
                          rw [g2.good.zw a hm'] at e; cases e
                        · have z1 := hext a u' (R.gr.hh a u' z hm)
                          rw [q] at z1; cases z1
                  · have z1 := R.gr.hh a u e hnw
                    refine g2.hh a u (hext a u z1) fun hm => ?_
                    rcases List.mem_append.mp hm with hm | hm
                    · have hm' : a = d ∨ a = g ∨ a = c' := by simpa [drWd] using hm
                      rcases hm' with rfl | rfl | rfl
                      · rw [hd'] at z1; cases z1
                      · rw [hg'] at z1; cases z1
                      · rw [hc'] at z1; cases z1
                    · exact hnw (List.mem_append_right _ hm)
                exact goal
            | _ => exact False.elim hk
          | nx r => exact False.elim hk
          | rm t r => exact False.elim hk
          | bk r => exact False.elim hk
          | ct r => exact False.elim hk
    · exact False.elim h
  · exact False.elim h
end
end TL
end s_TL26
section s_TL27
set_option Elab.async false
set_option linter.all false
set_option maxRecDepth 100000
set_option maxHeartbeats 4000000
/-! TL27: _law_begin -/
namespace TL
open PySem PySem.Spec PyProof.Rows L2
abbrev natsT (l : List Nat) : List T := l.map fun n : Nat => T.int (n : Int)
theorem trs_nats {K : PySem.W.Frag} {mg : Str → Option Value} {w : Wd} {Z : Hp} : ∀ {l : List Nat} {vs : List V}, Trs K mg w Z (natsT l) vs → vs = natsV l
  | [], _, h => by cases h; rfl
  | n :: l, _, h => by
    cases h with
    | cons a b =>
      cases a
      rw [trs_nats b]
      rfl
section
variable {X : Cx} {w : Wd} {E : XK} {e2 : Expr} {cc : EC}
/-- return {'great': great, 'rest': 0, 'cells': [..], 'turn': 0} -/
def tBeg (X : Km) (w : Wd) (E : XK) (i : Nat) (cc : EC) : TS := fun D σ H => ∃ H0 Z0 r Z o, w.W = [] ∧ EnvR X.km w H0 Z0 r σ H Z o ∧ ∃ gs : List Nat, r[i]? = some (.ow (.lst (natsT gs))) ∧ gs.length ≤ 1000 ∧
  (cc r).wp (fun t => ∃ cs : List Nat, t = .lst (natsT cs) ∧ cs.length ≤ 1000) (fun _ => False) ∧
  ∀ d g c cs H', (∀ b u, H0 b = some u → H' b = some u) → H0 d = none → H0 g = none → H0 c = none → DrI d g c cs H' → D.rt (.ref d) H'
theorem ps_beg (i : Nat) {x : Str} {p1 p2 p3 p4 p5 p6 p7 p8 pos : Pos} {j1 j2 j3 j4 j5 j6 : Nat} (hcc : CF X w E e2 cc) (hN : X.N[i]? = some x := by rfl) (hv : Vis X.env.scope x := by first | exact Or.inl rfl | exact Or.inr (Or.inl rfl) | exact Or.inr (Or.inr rfl)) (hd : (x == ("__debug__" : Str)) = false := by decide)
    (hcd : (x == ("__classdict__" : Str)) = false := by decide) :
    PS X (.Return (some (.Dict [some (.Constant (.str "great") j1 p1), some (.Constant (.str "rest") j2 p2), some (.Constant (.str "cells") j3 p3), some (.Constant (.str "turn") j4 p4)] [.Name x p5, .Constant (.int 0) j5 p6, e2, .Constant (.int 0) j6 p7] p8)) pos) (tBeg X.km w E i cc) := by
  refine psImp (ps_ret (pe_disp (pps_cons pe_str (pe_var hN hv hd hcd) (pps_cons pe_str pe_int (pps_cons pe_str hcc.pe (pps_cons pe_str pe_int pps_nil)))) rfl rfl (by intro h; cases h) (by simp))) fun D σ H h => ?_
  obtain ⟨H0, Z0, r, Z, o, hw0, R, gs, er, lg, hc, fin⟩ := h
  intro p hp
  obtain ⟨g, es, rt⟩ := R.own er
  obtain ⟨eo, vs, hg, lv, tr⟩ := rt
  have ev := trs_nats tr
  subst ev
  have nil : ∀ a, a ∉ w.W := fun a ha => by rw [hw0] at ha; cases ha
  have hz : Z p = none := R.good.tracked hp
  have back : ∀ a, H a = none → H0 a = none := fun a ha => by
    cases e : H0 a with
    | none => rfl
    | some u => have z := R.gr.hh a u e (nil a); rw [ha] at z; cases z
  have ho : ∀ n, p ∉ o n := fun n hm => R.tr n p hm hp
  have R1 : EnvR X.km w H0 Z0 r σ (upd H p (.dK [])) Z o := R.beside (back p hp) hz (nil p) ho
  have gp : g ≠ p := ne_of_none hg hp
  refine ⟨.ref g, es, ?_⟩
  refine ⟨H0, Z0, r, Z, o, R1, G.wp_mono hc (fun t ⟨cs, et, lc⟩ c oo H2 Z2 g2 rt2 f2 => ?_) fun _ x => False.elim x⟩
  subst et
  obtain ⟨eo2, vs2, hc2, lv2, tr2⟩ := rt2
  have ev2 := trs_nats tr2
  subst ev2 eo2
  have hcn := (f2 c (by simp)).1
  have cp : c ≠ p := fun z => by rw [z, upd_same] at hcn; cases hcn
  have hcn' : H c = none := by rw [upd_ne cp] at hcn; exact hcn
  have gc : g ≠ c := ne_of_none hg hcn'
  have hg2 : H2 g = some (.lst (natsV gs)) := g2.hh g _ (by rw [upd_ne gp]; exact hg) (nil g)
  refine ⟨g2.hh p _ upd_same (nil p), [(.inr "great", .ref g), (.inr "rest", .int 0), (.inr "cells", .ref c), (.inr "turn", .int 0)], rfl, by simp, ?_⟩
  refine fin p g c cs _ (fun b u e => ?_) (back p hp) (R.fr i g (by rw [eo]; simp)).1 (back c hcn') ⟨gp.symm, cp.symm, gc, lc, gs, 0, 0, lg, ?_, ?_, ?_⟩
  · have e1 := R.gr.hh b u e (nil b)
    have nb : b ≠ p := ne_of_none e1 hp
    rw [upd_ne nb]
    exact g2.hh b u (by rw [upd_ne nb]; exact e1) (nil b)
  · rw [upd_same]; rfl
  · rw [upd_ne gp]; exact hg2
  · rw [upd_ne cp]; exact hc2
end
section
variable {P : Program} {wd : World} {K : PySem.W.Frag} {mg : Str → Option Value} {base : Heap} {k : Nat} {f : Addr} {fd : FuncData} {N : List Str} {ps : List Str} {x qual : Str} {st st1 st2 : Stmt} {c1 : SC} {cc : EC}
theorem fn_begin (F : Fun K x qual st f fd) (S : FnScope N ps (defScope st)) (hps : ps.length = 1) (hst : defBody st = [st1, st2])
    (body : ∀ (w : Wd) (cdv : Value) (A : Around) (outer : List Env) (s : Shared) (H : Hp) (E : XK), (A.deeper (envOfC qual (defScope st) s.heap.objs.size f cdv)).guards = some [] → Room k (A.deeper (envOfC qual (defScope st) s.heap.objs.size f cdv)) →
      CS (cxOf (L2.CX P wd) P wd K mg base N qual (defScope st) f cdv A outer s H E) w E false st1 c1 ∧ PS (cxOf (L2.CX P wd) P wd K mg base N qual (defScope st) f cdv A outer s H E) st2 (tBeg ⟨K, mg, (P, wd)⟩ w E 1 cc))
    (hc : ∀ ns : List Int, ns.length ≤ 1000 → (c1 (.fz (.scr ns) :: List.replicate (N.length - 1) .un)).wp (fun k => ∃ r gs, k = .nx r ∧ r[1]? = some (.ow (.lst (natsT gs))) ∧ gs.length ≤ 1000 ∧
      (cc r).wp (fun t => ∃ cs : List Nat, t = .lst (natsT cs) ∧ cs.length ≤ 1000) (fun _ => False)) (fun _ => False)) : FnG P wd K mg base (k + 1) f fd ps (SpBegin K) := by
  have hpl : ps.length ≤ N.length := by have := congrArg List.length S.pre; rw [List.length_take] at this; omega
  refine fnG_of F S (fun vs H Q E h => by obtain ⟨a, ns, rfl, _⟩ := h; rw [hps]; rfl) fun cdv A outer s H vs Q E gd hr h => ?_
  obtain ⟨a, ns, rfl, hS, hl, hQ⟩ := h
  obtain ⟨b1, b2⟩ := body (Wd.base (P, wd) []) cdv A outer s H E gd hr
  refine ⟨_, by rw [hst]; exact pss_cons b1.ps (pss_one b2), ?_⟩
  have g0 : Good (Wd.base (P, wd) []) H H := ⟨Sub.refl _, fun a ha => (nomatch ha), trivial, fun p hp => (nomatch hp)⟩
  have es := env_start (M := ⟨K, mg, (P, wd)⟩) (N := N) (ts := [.scr ns]) (vs := [.ref a]) g0 (.cons (.scr hS hl) .nil) (by rw [List.length_singleton]; omega) ⟨rfl, fun p hp => (nomatch hp)⟩
  refine ⟨H, H, _, H, _, es, G.wp_mono (hc ns hl) (fun kk ⟨r, gs, ek, er, lg, hcc⟩ => ?_) fun _ x => False.elim x⟩
  subst ek
  refine fun σ' H' Z' o' R' s' => ?_
  exact ⟨H, H, r, Z', o', rfl, R', gs, er, lg, hcc, hQ⟩
end
end TL
end s_TL27
section s_TL28
set_option Elab.async false
set_option linter.all false
set_option maxRecDepth 100000
set_option maxHeartbeats 4000000
/-! TL28: numbers' operators; what the draws compute; the take -/
namespace TL
open PySem PySem.Spec PyProof.Rows L2
section
variable {M : Km} {w : Wd} {E : XK}
def fDivI : T → T → G T
  | .int i, .int j => if 0 < j ∧ j < 1073741824 then .ret (.int (i / j)) else .stuck
  | _, _ => .stuck
def fModI : T → T → G T
  | .int i, .int j => if 0 < j then .ret (.int (i % j)) else .stuck
  | _, _ => .stuck
def fMulI : T → T → G T
  | .int i, .int j => if (-(2 ^ 64) < i ∧ i < 2 ^ 64) ∨ (-(2 ^ 64) < j ∧ j < 2 ^ 64) then .ret (.int (i * j)) else .stuck
  | _, _ => .stuck
instance : ∀ i j, Decidable (CMul i j) := fun i j => by unfold CMul; infer_instance
def fPowI : T → T → G T
  | .int i, .int j => if 0 ≤ j ∧ j ≤ 1000000 ∧ i.natAbs < 2 ^ 64 then .ret (.int (i ^ j.toNat)) else .stuck
  | _, _ => .stuck
theorem t2_rI {C : Int → Int → Prop} [∀ i j, Decidable (C i j)] {g : Int → Int → Int} {f : T → T → G T} (hf : ∀ i j, f (.int i) (.int j) = if C i j then .ret (.int (g i j)) else .stuck) (hs : ∀ a b, (∀ i j, ¬ (a = .int i ∧ b = .int j)) → f a b = .stuck) : T2 M w E (rI C fun i j => .int (g i j)) f := fun H0 Z0 r σ H Z o R a b x y Q ta tb hw => by
  by_cases h : ∃ i j, a = .int i ∧ b = .int j
  · obtain ⟨i, j, rfl, rfl⟩ := h
    rw [hf] at hw
    by_cases hc : C i j
    · rw [if_pos hc] at hw
      cases ta; cases tb
      exact ⟨i, j, rfl, rfl, hc, hw _ H Z (Grow.refl R.good) (.int _)⟩
    · rw [if_neg hc] at hw; exact False.elim hw
  · rw [hs a b fun i j q => h ⟨i, j, q⟩] at hw; exact False.elim hw
instance : ∀ i j, Decidable (CDiv i j) := fun i j => by unfold CDiv; infer_instance
instance : ∀ i j, Decidable (CPow i j) := fun i j => by unfold CPow; infer_instance
theorem t2_div : T2 M w E (rI CDiv fun i j => .int (i / j)) fDivI := t2_rI (fun i j => by unfold fDivI; by_cases h : 0 < j ∧ j < 1073741824 <;> simp [CDiv, h]) fun a b h => by
  unfold fDivI; split
  · exact absurd ⟨rfl, rfl⟩ (h _ _)
  · rfl
theorem t2_mod : T2 M w E (rI (fun _ j => 0 < j) fun i j => .int (i % j)) fModI := t2_rI (fun i j => by unfold fModI; by_cases h : 0 < j <;> simp [h]) fun a b h => by
  unfold fModI; split
  · exact absurd ⟨rfl, rfl⟩ (h _ _)
  · rfl
theorem t2_pow : T2 M w E (rI CPow fun i j => .int (i ^ j.toNat)) fPowI := t2_rI (fun i j => by unfold fPowI; by_cases h : 0 ≤ j ∧ j ≤ 1000000 ∧ i.natAbs < 2 ^ 64 <;> simp [CPow, h]) fun a b h => by
  unfold fPowI; split
  · exact absurd ⟨rfl, rfl⟩ (h _ _)
  · rfl
theorem t2_mul : T2 M w E (rI CMul fun i j => .int (i * j)) fMulI := t2_rI (fun i j => by unfold fMulI; by_cases h : (-(2 ^ 64) < i ∧ i < 2 ^ 64) ∨ (-(2 ^ 64) < j ∧ j < 2 ^ 64) <;> simp [CMul, h]) fun a b h => by
  unfold fMulI; split
  · exact absurd ⟨rfl, rfl⟩ (h _ _)
  · rfl
end
end TL
end s_TL28
section s_TL29
set_option Elab.async false
set_option linter.all false
set_option maxRecDepth 100000
set_option maxHeartbeats 4000000
/-! TL29: defs by their names: what a law's text is walked with -/
namespace TL
open PySem PySem.Spec PyProof.Rows L2
/-- what a body is walked with -/
structure Bd (X : Cx) (k : Nat) (E : XK) : Prop where
  gd : X.A.guards = some []
  hr : Room k X.A
  hx : Passes (L2.CX X.prog X.w) X E
  po : PassesOwn (model X.prog X.w) X.A X.env X.xe
theorem Bd.blk {X : Cx} {k : Nat} {E : XK} (B : Bd X k E) (s : Shared) (H : Hp) (scope : Scope) (env : Env) (fp : List Addr) : Bd (X.blk s H scope env fp) k (fun _ _ _ => False) := ⟨B.gd, B.hr, passes_false, PassesOwn.never⟩
/-- the def x stands at the top -/
structure FunAt (K : PySem.W.Frag) (mg : Str → Option Value) (x qual : Str) (st : Stmt) (ps : List Str) : Prop where
  ex : ∃ f fd, mg x = some (.ref f) ∧ PySem.W.keepIn K (.ref f) = true ∧ Fun K x qual st f fd ∧ Binds K fd ps []
/-- it may be called -/
structure CallG (P : Program) (wd : World) (K : PySem.W.Frag) (mg : Str → Option Value) (base : Heap) (k : Nat) (x : Str) (sp : Sp) : Prop where
  ex : ∃ f fd ps, mg x = some (.ref f) ∧ PySem.W.keepIn K (.ref f) = true ∧ Binds K fd ps [] ∧ FnG P wd K mg base k f fd ps sp
abbrev CallT (P : Program) (wd : World) (K : PySem.W.Frag) (mg : Str → Option Value) (base : Heap) (k : Nat) (x : Str) (n : Nat) (F : List T → G T) : Prop := CallG P wd K mg base k x (SpT (P, wd) K mg n F)
abbrev CallN (P : Program) (wd : World) (K : PySem.W.Frag) (mg : Str → Option Value) (base : Heap) (k : Nat) (x : Str) (n : Nat) (F : List T → G T) : Prop := CallG P wd K mg base k x (SpF (P, wd) K mg n F)
section
variable {X : Cx} {w : Wd} {E : XK} {j k n : Nat} {x : Str} {p pos : Pos} {e : Expr} {es : List Expr} {cs : List Sl → G (List T)} {F : List T → G T}
theorem ce_fn (B : Bd X k E) (C : CallT X.prog X.w X.K X.mg X.base j x n F) (ha : CA X w E (e :: es) cs) (hl : Len cs n) (hj : j ≤ k := by decide) (hg : Gl X x := by rfl) (hdb : (x == ("__debug__" : Str)) = false := by decide) (he : starEach (e :: es) X.env = (false, eval e X.env) :: starEach es X.env := by rfl)
    (hpl : (backTo pos (starEach es X.env)).any (·.1) = false := by rfl) : CE X w E (.Call (.Name x p) (e :: es) [] pos) (cCall F cs) := by
  obtain ⟨f, fd, ps, hm, hk, hb, Fk⟩ := C.ex
  exact ce_callG (Fk.mono hj) B.gd B.hr B.hx hg hm hk hb ha hl hdb he hpl
end
section
variable {P : Program} {wd : World} {K : PySem.W.Frag} {mg : Str → Option Value} {base : Heap} {k : Nat} {ps N : List Str} {x qual : Str} {st : Stmt} {c : SC}
/-- the context of a def's body -/
abbrev bx (P : Program) (wd : World) (K : PySem.W.Frag) (mg : Str → Option Value) (base : Heap) (N : List Str) (qual : Str) (st : Stmt) (f : Addr) (cdv : Value) (A : Around) (outer : List Env) (s : Shared) (H : Hp) (E : XK) : Cx :=
  cxOf (L2.CX P wd) P wd K mg base N qual (defScope st) f cdv A outer s H E
theorem fn_at (A : FunAt K mg x qual st ps) (S : FnScope N ps (defScope st))
    (body : ∀ (f : Addr) (cdv : Value) (A : Around) (outer : List Env) (s : Shared) (H : Hp) (w : Wd) (E : XK), Bd (bx P wd K mg base N qual st f cdv A outer s H E) k E → CSs (bx P wd K mg base N qual st f cdv A outer s H E) w E false (defBody st) c) :
    CallT P wd K mg base (k + 1) x ps.length (runB c N.length) := by
  obtain ⟨f, fd, hm, hk, F, hb⟩ := A.ex
  exact ⟨f, fd, ps, hm, hk, hb, fnT F S fun w cdv A outer s H E gd hr hx => body f cdv A outer s H w E ⟨gd, hr, hx, passes_of rfl⟩⟩
end
/-- the body of a class -/
def clsBody : Stmt → List Stmt
  | .ClassDef (body := b) .. => b
  | _ => []
def inBody (l : List Stmt) (i : Nat) : Stmt := l.getD i (.Pass ⟨0, 0, 0, 0⟩)
end TL
end s_TL29
section s_TL30
set_option Elab.async false
set_option linter.all false
set_option maxRecDepth 100000
set_option maxHeartbeats 4000000
/-! TL30: what the draws compute -/
namespace TL
open PySem PySem.Spec PyProof.Rows L2
theorem forG_inv {g : GC} {c : SC} {I : List Sl → Prop} : ∀ {ts : List T} {r : List Sl}, (∀ t ∈ ts, ∀ r, I r → (g t r).wp (fun r' => (c r').wp (fun k => ∃ r2, (k = .nx r2 ∨ k = .ct r2) ∧ I r2) (fun _ => False)) (fun _ => False)) → I r →
    (forG g c ts r).wp (fun k => ∃ r', k = .nx r' ∧ I r') (fun _ => False)
  | [], r, _, h => ⟨r, rfl, h⟩
  | t :: ts, r, hs, h => by
    unfold forG
    refine G.wp_bind.mpr (G.wp_mono (hs t (by simp) r h) (fun r' h' => G.wp_bind.mpr (G.wp_mono h' (fun k hk => ?_) fun _ x => x)) fun _ x => x)
    obtain ⟨r2, e, h2⟩ := hk
    have ih := forG_inv (ts := ts) (r := r2) (fun t ht => hs t (by simp [ht])) h2
    rcases e with rfl | rfl <;> exact ih
theorem CallG.imp {P : Program} {wd : World} {K : PySem.W.Frag} {mg : Str → Option Value} {base : Heap} {k : Nat} {x : Str} {sp sp' : Sp} (C : CallG P wd K mg base k x sp) (h : ∀ vs H Q E, sp' vs H Q E → sp vs H Q E) : CallG P wd K mg base k x sp' :=
  let ⟨f, fd, ps, a, b, c, F⟩ := C.ex; ⟨f, fd, ps, a, b, c, F.imp h⟩
theorem SpT.le {pw : Program × World} {K : PySem.W.Frag} {mg : Str → Option Value} {n : Nat} {F F' : List T → G T} (h : ∀ ts Q E, (F' ts).wp Q E → (F ts).wp Q E) : ∀ vs H Q E, SpT pw K mg n F' vs H Q E → SpT pw K mg n F vs H Q E :=
  fun vs H Q E ⟨w, ts, Z, o, a, b, c, q⟩ => ⟨w, ts, Z, o, a, b, c, h _ _ _ q⟩
/-! ### _law_blend -/
@[irreducible] def c_law_blend : SC :=
  cSeq (cSet 1 (cOp2 fAdd (cDr 0) (cC (.int 1)))) (cSeq (cDrPut 0 (cVar 1)) (cSeq (cSet 2 (cC (.int 0))) (cSeq
    (cFor (fun r => (cLst (caCons (cC (.int 2147483629)) (caCons (cC (.int 2147483587)) (caCons (cC (.int 2147483579)) (caCons (cC (.int 2147483563)) caNil))))) r >>= anyOf) (gcName 3)
      (cSeq (cSet 4 (cOp2 fModI (cCall fInt (caCons (cOp2 fAdd (cOp2 fMulI (cVar 1) (cC (.int 69621))) (cOp2 fDivI (cVar 3) (cC (.int 7)))) caNil)) (cVar 3)))
      (cSeq (cFor (cDrCells 0) (gcName 5) (cSet 4 (cOp2 fModI (cCall fInt (caCons (cOp2 fAdd (cOp2 fMulI (cVar 4) (cC (.int 48271))) (cVar 5)) caNil)) (cVar 3))))
        (cSet 2 (cOp2 fAdd (cOp2 fMulI (cVar 2) (cC (.int 2147483647))) (cOp2 fModI (cCall fInt (caCons (cOp2 fPowI (cVar 4) (cC (.int 5))) caNil)) (cVar 3)))))))
    (cRet (cVar 2)))))
/-- a state inside the loop over the primes -/
def BlI (p : Int) (r : List Sl) : Prop := ∃ (a b v : Int) (s5 : Sl), r = [.fz .drw, .fz (.int a), .fz (.int b), .fz (.int p), .fz (.int v), s5] ∧ 0 ≤ a ∧ 0 ≤ b ∧ 0 ≤ v ∧ v < 2147483648
theorem blend_cell (p : Int) (hp : 0 < p ∧ p < 2147483648) (n : Nat) (r : List Sl) (h : BlI p r) :
    (gcName 5 (.int n) r).wp (fun r' => (cSet 4 (cOp2 fModI (cCall fInt (caCons (cOp2 fAdd (cOp2 fMulI (cVar 4) (cC (.int 48271))) (cVar 5)) caNil)) (cVar 3)) r').wp (fun k => ∃ r2, (k = .nx r2 ∨ k = .ct r2) ∧ BlI p r2) (fun _ => False)) (fun _ => False) := by
  obtain ⟨a, b, v, s5, rfl, ha, hb, hv, hv2⟩ := h
  have hm : (-(2 ^ 64) < v ∧ v < 2 ^ 64) ∨ (-(2 ^ 64) < (48271 : Int) ∧ (48271 : Int) < 2 ^ 64) := .inr (by decide)
  have hmod := Int.emod_nonneg (v * 48271 + n) (show p ≠ 0 by omega)
  have hmod2 := Int.emod_lt_of_pos (v * 48271 + n) hp.1
  simp [gcName, cSet, cOp2, cCall, caCons, caNil, cVar, cC, fMulI, fAdd, fInt, fModI, hp.1, G.wp]
  exact ⟨a, b, _, _, rfl, ha, hb, hmod, by omega⟩
theorem wp_seq {c d : SC} {r : List Sl} {Q : Ctl → Prop} {E : T → Prop} : (cSeq c d r).wp Q E ↔ (c r).wp (fun k => (match k with | .nx r' => d r' | k => .ret k : G Ctl).wp Q E) E := G.wp_bind
theorem wp_eq {α : Type} {m : G α} {a : α} {Q : α → Prop} {E : T → Prop} (e : m = .ret a) (h : Q a) : m.wp Q E := by rw [e]; exact h
theorem cells_wp {r : List Sl} {Q : List T → Prop} (h0 : r[0]? = some (.fz .drw)) (h : ∀ ts : List T, (∀ t ∈ ts, ∃ n : Nat, t = .int n) → Q ts) : (cDrCells 0 r).wp Q (fun _ => False) := by
  unfold cDrCells
  rw [h0]
  intro l
  by_cases hl : l.length ≤ 1000
  · show (if l.length ≤ 1000 then G.ret (l.map fun n : Nat => T.int (n : Int)) else G.ret [] : G (List T)).wp Q _
    rw [if_pos hl]
    exact h _ fun t ht => by obtain ⟨n, _, rfl⟩ := List.mem_map.mp ht; exact ⟨n, rfl⟩
  · show (if l.length ≤ 1000 then G.ret (l.map fun n : Nat => T.int (n : Int)) else G.ret [] : G (List T)).wp Q _
    rw [if_neg hl]
    exact h _ fun t ht => nomatch ht
/-- between two primes -/
def BlO (r : List Sl) : Prop := ∃ (a b : Int) (s3 s4 s5 : Sl), r = [.fz .drw, .fz (.int a), .fz (.int b), s3, s4, s5] ∧ 0 ≤ a ∧ 0 ≤ b
theorem blend_prime (p : Int) (hp : 0 < p ∧ p < 2147483648) (r : List Sl) (h : BlO r) :
    (gcName 3 (.int p) r).wp (fun r' => ((cSeq (cSet 4 (cOp2 fModI (cCall fInt (caCons (cOp2 fAdd (cOp2 fMulI (cVar 1) (cC (.int 69621))) (cOp2 fDivI (cVar 3) (cC (.int 7)))) caNil)) (cVar 3)))
      (cSeq (cFor (cDrCells 0) (gcName 5) (cSet 4 (cOp2 fModI (cCall fInt (caCons (cOp2 fAdd (cOp2 fMulI (cVar 4) (cC (.int 48271))) (cVar 5)) caNil)) (cVar 3))))
        (cSet 2 (cOp2 fAdd (cOp2 fMulI (cVar 2) (cC (.int 2147483647))) (cOp2 fModI (cCall fInt (caCons (cOp2 fPowI (cVar 4) (cC (.int 5))) caNil)) (cVar 3)))))) r').wp (fun k => ∃ r2, (k = .nx r2 ∨ k = .ct r2) ∧ BlO r2) (fun _ => False)) (fun _ => False) := by
  obtain ⟨a, b, s3, s4, s5, rfl, ha, hb⟩ := h
  have hmod := Int.emod_nonneg (a * 69621 + p / 7) (show p ≠ 0 by omega)
  have hmod2 := Int.emod_lt_of_pos (a * 69621 + p / 7) hp.1
  have first : BlI p [.fz .drw, .fz (.int a), .fz (.int b), .fz (.int p), .fz (.int ((a * 69621 + p / 7) % p)), s5] := ⟨a, b, _, _, rfl, ha, hb, hmod, by omega⟩
  refine wp_seq.mpr (wp_eq (a := .nx [.fz .drw, .fz (.int a), .fz (.int b), .fz (.int p), .fz (.int ((a * 69621 + p / 7) % p)), s5]) ?_ ?_)
  · simp [cSet, cOp2, cCall, caCons, caNil, cVar, cC, fMulI, fAdd, fInt, fModI, fDivI, hp.1]
  refine wp_seq.mpr (G.wp_bind.mpr (cells_wp rfl fun ts hts => ?_))
  refine G.wp_mono (forG_inv (I := BlI p) (fun t ht r hr => ?_) first) (fun k hk => ?_) fun _ x => x
  · obtain ⟨n, rfl⟩ := hts t ht
    exact blend_cell p hp n r hr
  · obtain ⟨r', rfl, a', b', v, s5', rfl, ha', hb', hv, hv2⟩ := hk
    have hv3 : v.natAbs < 2 ^ 64 := by omega
    have q1 := Int.emod_nonneg (v ^ (5 : Int).toNat) (show p ≠ 0 by omega)
    have hq : (0 : Int) ≤ b' * 2147483647 + v ^ (5 : Int).toNat % p := by
      have := Int.mul_nonneg hb' (show (0 : Int) ≤ 2147483647 by decide)
      omega
    refine wp_eq (a := .nx [.fz .drw, .fz (.int a'), .fz (.int (b' * 2147483647 + v ^ (5 : Int).toNat % p)), .fz (.int p), .fz (.int v), s5']) ?_ ⟨_, .inl rfl, a', _, _, _, _, rfl, ha', hq⟩
    simp [cSet, cOp2, cCall, caCons, caNil, cVar, cC, fMulI, fAdd, fInt, fModI, fPowI, hp.1]
    simp [hv3, fInt, hp.1]
theorem blend_head {D : SC} {Q : Ctl → Prop} {E : T → Prop} (h : ∀ a : Int, 0 ≤ a → (D [.fz .drw, .fz (.int a), .un, .un, .un, .un]).wp Q E) :
    (cSeq (cSet 1 (cOp2 fAdd (cDr 0) (cC (.int 1)))) (cSeq (cDrPut 0 (cVar 1)) D) [.fz .drw, .un, .un, .un, .un, .un]).wp Q E := by
  have e1 : cSet 1 (cOp2 fAdd (cDr 0) (cC (.int 1))) [.fz .drw, .un, .un, .un, .un, .un] = .any fun l => .ret (.nx [.fz .drw, .fz (.int ((l.length : Int) + 1)), .un, .un, .un, .un]) := by
    simp [cSet, cOp2, cDr, cC, fAdd]
  refine wp_seq.mpr ?_
  rw [e1]
  intro l
  have h0 : (0 : Int) ≤ (l.length : Int) + 1 := by omega
  have e2 : cDrPut 0 (cVar 1) [.fz .drw, .fz (.int ((l.length : Int) + 1)), .un, .un, .un, .un] = .ret (.nx [.fz .drw, .fz (.int ((l.length : Int) + 1)), .un, .un, .un, .un]) := by simp [cDrPut, cVar, h0]
  have e3 : cSeq (cDrPut 0 (cVar 1)) D [.fz .drw, .fz (.int ((l.length : Int) + 1)), .un, .un, .un, .un] = D [.fz .drw, .fz (.int ((l.length : Int) + 1)), .un, .un, .un, .un] := by
    unfold cSeq; rw [e2]; rfl
  have q := h _ h0
  rw [← e3] at q
  exact q
theorem blend_tail {B : SC} (hB : ∀ p : Int, 0 < p ∧ p < 2147483648 → ∀ r, BlO r → (gcName 3 (.int p) r).wp (fun r' => (B r').wp (fun k => ∃ r2, (k = .nx r2 ∨ k = .ct r2) ∧ BlO r2) (fun _ => False)) (fun _ => False)) (a : Int) (ha : 0 ≤ a) :
    (cSeq (cSet 2 (cC (.int 0))) (cSeq (cFor (fun r => (cLst (caCons (cC (.int 2147483629)) (caCons (cC (.int 2147483587)) (caCons (cC (.int 2147483579)) (caCons (cC (.int 2147483563)) caNil))))) r >>= anyOf) (gcName 3) B) (cRet (cVar 2))) [.fz .drw, .fz (.int a), .un, .un, .un, .un]).wp
      (fun k => ∃ n : Int, k = .rt (.int n) ∧ 0 ≤ n) (fun _ => False) := by
  refine wp_seq.mpr (wp_eq (a := .nx [.fz .drw, .fz (.int a), .fz (.int 0), .un, .un, .un]) (by simp [cSet, cC]) ?_)
  refine wp_seq.mpr (G.wp_bind.mpr (wp_eq (a := [.int 2147483629, .int 2147483587, .int 2147483579, .int 2147483563]) (by simp [cLst, caCons, caNil, cC, anyOf]) ?_))
  refine G.wp_mono (forG_inv (I := BlO) (fun t ht r hr => ?_) ⟨_, 0, .un, .un, .un, rfl, ha, by decide⟩) (fun k hk => ?_) fun _ x => x
  · simp only [List.mem_cons, List.not_mem_nil, or_false] at ht
    rcases ht with rfl | rfl | rfl | rfl <;> exact hB _ (by decide) r hr
  · obtain ⟨r', rfl, a', b', s3, s4, s5, rfl, ha', hb'⟩ := hk
    refine wp_eq (a := .rt (.int b')) (by simp [cRet, cVar]) ⟨b', rfl, hb'⟩
theorem blend_body : (c_law_blend [.fz .drw, .un, .un, .un, .un, .un]).wp (fun k => ∃ n : Int, k = .rt (.int n) ∧ 0 ≤ n) (fun _ => False) := by
  unfold c_law_blend
  exact @blend_head _ _ _ fun a ha => @blend_tail _ blend_prime a ha
theorem runB_wp {c : SC} {m : Nat} {ts : List T} {Q : T → Prop} {E : T → Prop} {P : Ctl → Prop} (h : (c (ts.map .fz ++ List.replicate (m - ts.length) .un)).wp P E) (hP : ∀ k, P k → ∃ t, k = .rt t ∧ Q t) : (runB c m ts).wp Q E :=
  G.wp_bind.mpr (G.wp_mono h (fun k hk => by obtain ⟨t, rfl, ht⟩ := hP k hk; exact ht) fun _ x => x)
theorem blend_wp : (runB c_law_blend 6 [.drw]).wp (fun t => ∃ n : Int, t = .int n ∧ 0 ≤ n) (fun _ => False) :=
  runB_wp blend_body fun k ⟨n, e, hn⟩ => ⟨.int n, e, n, rfl, hn⟩
end TL
end s_TL30
section s_TL31
set_option Elab.async false
set_option linter.all false
set_option maxRecDepth 100000
set_option maxHeartbeats 4000000
/-! TL31: a take is a pick -/
namespace TL
open PySem PySem.Spec PyProof.Rows L2
def fBlend : List T → G T
  | [.drw] => .any fun l => .ret (.int l.length)
  | _ => .stuck
theorem blend_le : ∀ ts Q E, (fBlend ts).wp Q E → (runB c_law_blend 6 ts).wp Q E := fun ts Q E h => by
  unfold fBlend at h
  split at h
  · refine G.wp_mono blend_wp (fun t ht => ?_) fun _ x => False.elim x
    obtain ⟨n, rfl, hn⟩ := ht
    obtain ⟨m, rfl⟩ := Int.eq_ofNat_of_zero_le hn
    have q : Q (.int ((List.replicate m 0).length : Int)) := h (List.replicate m 0)
    rw [List.length_replicate] at q
    exact q
  · exact False.elim h
@[irreducible] def c_law_take : SC := cSeq (cDrIf 0) (cSeq (cIfS (cB (cOp2 fEq (cDr 0) (cC (.int 0)))) (cDrPut 0 (cCall fBlend (caCons (cVar 0) caNil))) (fun r => .ret (.nx r)))
  (cSeq (cSet 2 (cOp2 fModI (cCall fInt (caCons (cDr 0) caNil)) (cVar 1))) (cSeq (cDrPut 0 (cOp2 fDivI (cDr 0) (cVar 1))) (cRet (cVar 2)))))
theorem take_tail {n : Int} (hn : 1 ≤ n ∧ n < 1073741824) {Q : T → Prop} {E : T → Prop} (h : ∀ i : Nat, i < n.toNat → Q (.int i)) {s2 : Sl} :
    ((cSeq (cSet 2 (cOp2 fModI (cCall fInt (caCons (cDr 0) caNil)) (cVar 1))) (cSeq (cDrPut 0 (cOp2 fDivI (cDr 0) (cVar 1))) (cRet (cVar 2)))) [.fz .drw, .fz (.int n), s2]).wp (fun k => ∃ t, k = .rt t ∧ Q t) E := by
  have h0 : (0 : Int) < n := by omega
  have e1 : cSet 2 (cOp2 fModI (cCall fInt (caCons (cDr 0) caNil)) (cVar 1)) [.fz .drw, .fz (.int n), s2] = .any fun l => .ret (.nx [.fz .drw, .fz (.int n), .fz (.int ((l.length : Int) % n))]) := by
    simp [cSet, cOp2, cCall, caCons, caNil, cDr, cVar, fInt, fModI, h0]
  refine wp_seq.mpr ?_
  rw [e1]
  intro l
  have e2 : cDrPut 0 (cOp2 fDivI (cDr 0) (cVar 1)) [.fz .drw, .fz (.int n), .fz (.int ((l.length : Int) % n))] = .any fun l2 => if 0 ≤ (l2.length : Int) / n then .ret (.nx [.fz .drw, .fz (.int n), .fz (.int ((l.length : Int) % n))]) else .stuck := by
    simp [cDrPut, cOp2, cDr, cVar, fDivI, h0, hn.2]
  have q : (cSeq (cDrPut 0 (cOp2 fDivI (cDr 0) (cVar 1))) (cRet (cVar 2)) [.fz .drw, .fz (.int n), .fz (.int ((l.length : Int) % n))]).wp (fun k => ∃ t, k = .rt t ∧ Q t) E := by
    refine wp_seq.mpr ?_
    rw [e2]
    intro l2
    have hd : 0 ≤ (l2.length : Int) / n := Int.ediv_nonneg (by omega) (by omega)
    have q3 : ∃ t, Ctl.rt (T.int ((l.length : Int) % n)) = .rt t ∧ Q t := by
      have a1 := Int.emod_nonneg (l.length : Int) (show n ≠ 0 by omega)
      have a2 := Int.emod_lt_of_pos (l.length : Int) h0
      obtain ⟨m, hm⟩ := Int.eq_ofNat_of_zero_le a1
      refine ⟨_, rfl, ?_⟩
      rw [hm]
      exact h m (by omega)
    simp only [if_pos hd]
    exact q3
  exact q
theorem take_body {n : Int} (hn : 1 ≤ n ∧ n < 1073741824) {Q : T → Prop} {E : T → Prop} (h : ∀ i : Nat, i < n.toNat → Q (.int i)) : (c_law_take [.fz .drw, .fz (.int n), .un]).wp (fun k => ∃ t, k = .rt t ∧ Q t) E := by
  unfold c_law_take
  refine wp_seq.mpr (wp_eq (a := .nx [.fz .drw, .fz (.int n), .un]) (by simp [cDrIf]) ?_)
  refine wp_seq.mpr ?_
  have e1 : (cB (cOp2 fEq (cDr 0) (cC (.int 0)))) [.fz .drw, .fz (.int n), .un] = .any fun l => fEq (.int l.length) (.int 0) >>= asB := by
    simp [cB, cOp2, cDr, cC]
  have e2 : ∀ b : Bool, (fun r : List Sl => (if b = true then cDrPut 0 (cCall fBlend (caCons (cVar 0) caNil)) r else .ret (.nx r) : G Ctl)) [.fz .drw, .fz (.int n), .un] = if b = true then .any fun _ => .ret (.nx [.fz .drw, .fz (.int n), .un]) else .ret (.nx [.fz .drw, .fz (.int n), .un]) := by
    intro b; cases b
    · rfl
    · simp [cDrPut, cCall, caCons, caNil, cVar, fBlend]
  have fin : ∀ k, k = Ctl.nx [Sl.fz .drw, .fz (.int n), .un] → ((match k with | .nx r' => cSeq (cSet 2 (cOp2 fModI (cCall fInt (caCons (cDr 0) caNil)) (cVar 1))) (cSeq (cDrPut 0 (cOp2 fDivI (cDr 0) (cVar 1))) (cRet (cVar 2))) r' | k => .ret k : G Ctl)).wp (fun k => ∃ t, k = .rt t ∧ Q t) E := by
    rintro _ rfl
    exact take_tail hn h
  refine G.wp_mono (Q := fun k => k = Ctl.nx [Sl.fz .drw, .fz (.int n), .un]) (E := fun _ => False) ?_ fin fun _ x => False.elim x
  unfold cIfS
  refine G.wp_bind.mpr ?_
  rw [e1]
  intro l
  have e3 : (fEq (.int l.length) (.int 0) >>= asB) = .ret (eqT (.int l.length) (.int 0)) := by
    simp [fEq, fEqB, okT, toPy, asB, SeqAt.shaped, PyData.canLay0, PyData.depth]
  have e4 : ∀ b : Bool, (if b = true then cDrPut 0 (cCall fBlend (caCons (cVar 0) caNil)) [.fz .drw, .fz (.int n), .un] else .ret (.nx [.fz .drw, .fz (.int n), .un]) : G Ctl).wp (fun k => k = Ctl.nx [Sl.fz .drw, .fz (.int n), .un]) (fun _ => False) := fun b => by
    have := e2 b
    simp only at this
    rw [this]
    cases b
    · rfl
    · intro _; rfl
  have q : (fEq (.int l.length) (.int 0) >>= asB : G Bool).wp (fun p => (if p = true then cDrPut 0 (cCall fBlend (caCons (cVar 0) caNil)) [.fz .drw, .fz (.int n), .un] else .ret (.nx [.fz .drw, .fz (.int n), .un]) : G Ctl).wp (fun k => k = Ctl.nx [Sl.fz .drw, .fz (.int n), .un]) (fun _ => False)) (fun _ => False) := by
    rw [e3]; exact e4 _
  exact q
def fTake : List T → G T
  | [.drw, .int n] => if 1 ≤ n ∧ n < 1073741824 then .pick n.toNat fun i => .ret (.int i) else .stuck
  | _ => .stuck
theorem take_le : ∀ ts Q E, (fTake ts).wp Q E → (runB c_law_take 3 ts).wp Q E := fun ts Q E h => by
  unfold fTake at h
  split at h
  · rename_i n
    split at h
    · rename_i hn
      exact runB_wp (P := fun k => ∃ t, k = .rt t ∧ Q t) (take_body hn fun i hi => h i hi) fun k x => x
    · exact False.elim h
  · exact False.elim h
end TL
end s_TL31
section s_TL32
set_option Elab.async false
set_option linter.all false
set_option maxRecDepth 100000
set_option maxHeartbeats 4000000
/-! TL32: what _law_begin and _law_pick compute -/
namespace TL
open PySem PySem.Spec PyProof.Rows L2
abbrev fSubI := fII fun i j => T.int (i - j)
abbrev fGeI := fII fun i j => T.bl (decide (j ≤ i))
abbrev cAbs2 : EC := cCall fAbs (caCons (cVar 2) caNil)
abbrev cE18 : EC := cOp2 fPowI (cC (.int 10)) (cC (.int 18))
@[irreducible] def c_begin1 : SC := cSetO 1 (cComp (fun r => cVar 0 r >>= anyOf) (gcName 2) (cB (cOp2 fGeI cAbs2 cE18)) (cOp2 fSubI cAbs2 cE18) [2])
@[irreducible] def c_begin2 : EC := cComp (fun r => cVar 0 r >>= anyOf) (gcName 2) (fun _ => .ret true) cAbs2 [2]
/-- a comprehension over whole numbers that gives natural numbers -/
theorem compG_nats {tt : List Sl → G Bool} {te : EC} {r : List Sl} (h : ∀ n : Int, ∃ b, tt (r.set 2 (.fz (.int n))) = .ret b ∧ (b = true → ∃ m : Nat, te (r.set 2 (.fz (.int n))) = .ret (.int m))) :
    ∀ ns : List Int, ∃ l : List Nat, compG (gcName 2) tt te (ns.map .int) r = .ret (natsT l) ∧ l.length ≤ ns.length
  | [] => ⟨[], rfl, Nat.le_refl _⟩
  | n :: ns => by
    obtain ⟨l, e, hl⟩ := compG_nats h ns
    obtain ⟨b, eb, hb⟩ := h n
    cases b with
    | false => exact ⟨l, by simp [compG, gcName, G.nox, eb, e], by simp; omega⟩
    | true =>
      obtain ⟨m, em⟩ := hb rfl
      exact ⟨m :: l, by simp [compG, gcName, G.nox, eb, em, e], by simp; omega⟩
theorem begin_wp (ns : List Int) (hl : ns.length ≤ 1000) : (c_begin1 [.fz (.scr ns), .un, .un]).wp (fun k => ∃ r gs, k = .nx r ∧ r[1]? = some (.ow (.lst (natsT gs))) ∧ gs.length ≤ 1000 ∧
    (c_begin2 r).wp (fun t => ∃ cs : List Nat, t = .lst (natsT cs) ∧ cs.length ≤ 1000) (fun _ => False)) (fun _ => False) := by
  have ab : ∀ n : Int, ∃ m : Nat, (if n < 0 then -n else n) = (m : Int) := fun n => ⟨n.natAbs, by split <;> omega⟩
  obtain ⟨g, eg, lg⟩ := compG_nats (tt := cB (cOp2 fGeI cAbs2 cE18)) (te := cOp2 fSubI cAbs2 cE18) (r := [.fz (.scr ns), .un, .un]) (fun n => by
    refine ⟨decide ((10 : Int) ^ (18 : Int).toNat ≤ if n < 0 then -n else n), by simp [cB, cOp2, cCall, caCons, caNil, cVar, cC, fAbs, fPowI, fII, asB], fun hb => ?_⟩
    have hb' := of_decide_eq_true hb
    obtain ⟨m, hm⟩ := Int.eq_ofNat_of_zero_le (show 0 ≤ (if n < 0 then -n else n) - (10 : Int) ^ (18 : Int).toNat by omega)
    refine ⟨m, ?_⟩
    have e : (cOp2 fSubI cAbs2 cE18) ([Sl.fz (.scr ns), .un, .un].set 2 (.fz (.int n))) = .ret (.int ((if n < 0 then -n else n) - (10 : Int) ^ (18 : Int).toNat)) := by simp [cOp2, cCall, caCons, caNil, cVar, cC, fAbs, fPowI, fII]
    rw [e, hm]) ns
  obtain ⟨c, ec, lc⟩ := compG_nats (tt := fun _ => .ret true) (te := cAbs2) (r := [.fz (.scr ns), .ow (.lst (natsT g)), .un]) (fun n => by
    refine ⟨true, rfl, fun _ => ?_⟩
    obtain ⟨m, hm⟩ := ab n
    refine ⟨m, ?_⟩
    have e : cAbs2 ([Sl.fz (.scr ns), .ow (.lst (natsT g)), .un].set 2 (.fz (.int n))) = .ret (.int (if n < 0 then -n else n)) := by simp [cCall, caCons, caNil, cVar, fAbs]
    rw [e, hm]) ns
  have e1 : c_begin1 [.fz (.scr ns), .un, .un] = .ret (.nx [.fz (.scr ns), .ow (.lst (natsT g)), .un]) := by
    unfold c_begin1
    simp [cSetO, cComp, cVar, anyOf, wipeR, eg]
  have e2 : c_begin2 [.fz (.scr ns), .ow (.lst (natsT g)), .un] = .ret (.lst (natsT c)) := by
    unfold c_begin2
    simp [cComp, cVar, anyOf, wipeR, ec]
  exact wp_eq e1 ⟨_, g, rfl, rfl, by omega, wp_eq e2 ⟨c, rfl, by omega⟩⟩
@[irreducible] def c_law_pick : SC := cRet (cOp2 fIx (cVar 1) (cCall fTake (caCons (cVar 0) (caCons (cCall fLen (caCons (cVar 1) caNil)) caNil))))
end TL
end s_TL32
section s_TL33
set_option Elab.async false
set_option linter.all false
set_option maxRecDepth 100000
set_option maxHeartbeats 4000000
/-! TL33: classes by their names -/
namespace TL
open PySem PySem.Spec PyProof.Rows L2
section
variable (P : Program) (wd : World) (K : PySem.W.Frag) (mg : Str → Option Value) (base : Heap) (k : Nat) (c : Str)
/-- the class c may be called with n values -/
structure MakeT (n : Nat) (F : List T → G T) : Prop where
  ex : ∃ C f fd ps, mg c = some (.ref C) ∧ Mk K C f ∧ Binds K fd ps [] ∧ ps.length = n + 1 ∧ FnG P wd K mg base k f fd ps (SpI (P, wd) K mg c C n F)
/-- .. with keywords -/
structure MakeK (ks : List Str) (perm : List Nat) (n : Nat) (F : List T → G T) : Prop where
  ex : ∃ C f fd ps, mg c = some (.ref C) ∧ Mk K C f ∧ KwB K fd ps ks perm ∧ FnG P wd K mg base k f fd ps (SpI (P, wd) K mg c C n F)
/-- the class c has the property m, which gives the attribute own -/
structure PropT (m own : Str) : Prop where
  ex : ∃ C p g fd ps, mg c = some (.ref C) ∧ Cls K C ∧ PropOf K C m p g ∧ Binds K fd ps [] ∧ FnOk P wd K mg base (L2.CX P wd) k g fd ps (getSp C own)
/-- the class c has the method m -/
structure MethT (m : Str) (n : Nat) (F : List T → G T) : Prop where
  ex : ∃ C f fd ps, mg c = some (.ref C) ∧ Cls K C ∧ Meth K C m f ∧ Binds K fd ps [] ∧ FnG P wd K mg base k f fd ps (SpT (P, wd) K mg (n + 1) F)
/-- the class c has __eq__ -/
structure EqT (F : List T → G T) : Prop where
  ex : ∃ C f fd ps, EqF K mg c C f ∧ Binds K fd ps [] ∧ FnG P wd K mg base k f fd ps (SpT (P, wd) K mg 2 F)
end
structure FldT (K : PySem.W.Frag) (mg : Str → Option Value) (c f : Str) : Prop where
  ex : ∃ C, FldF K mg c f C
structure InsT (K : PySem.W.Frag) (mg : Str → Option Value) (c : Str) : Prop where
  ex : ∃ C, InsF K mg c C
section
variable {X : Cx} {w : Wd} {E : XK} {fr : Bool} {j k n : Nat} {c m own f x : Str} {pn pos apos p1 p2 : Pos} {e e2 o : Expr} {es : List Expr} {kws : List Keyword} {ca cb co : EC} {cs ck : List Sl → G (List T)} {F : List T → G T} {ks : List Str} {perm : List Nat}
end
end TL
end s_TL33
section s_TL34
set_option Elab.async false
set_option linter.all false
set_option maxRecDepth 100000
set_option maxHeartbeats 4000000
/-! TL34: what the printed derivations use -/
namespace TL
open PySem PySem.Spec PyProof.Rows L2
section
variable {X : Cx} {w : Wd} {E : XK} {fr : Bool} {k n : Nat} {c f x s : Str} {pos pos' p p0 p1 : Pos} {e b : Expr} {es : List Expr} {st : Stmt} {ca : EC} {cc : SC}
/-! ### a value stored is frozen at once -/
theorem ps_lkN {t : TS} (h : PS X st t) : PS X st (fun D σ H => t { D with nx := fun σ' H' => Fz (D.nx σ') H' } σ H) := by
  refine ⟨fun pins s σ H D I hw => ?_⟩
  refine thn (h.run pins s σ H _ I hw) fun f s1 q => ?_
  cases f with
  | next =>
    obtain ⟨σ', H', I2, q⟩ := q
    rcases q with q | ⟨d, u, hd, mu, q⟩
    · exact ⟨σ', H', I2, q⟩
    · obtain ⟨od, I3⟩ := I2.lock hd mu
      exact ⟨σ', _, I3, q od⟩
  | brk => exact q
  | cont => exact q
  | ret v => exact q
def cSeqFrz (i : Nat) (c : SC) : SC := fun r => c r >>= fun k => match k with
  | .nx r' => .ret (.nx (frzS i r'))
  | k => .ret k
theorem cs_thenFrz (i : Nat) (h : CS X w E fr st cc) : CS X w E fr st (cSeqFrz i cc) := by
  refine ⟨psImp (ps_lkN h.ps) fun D σ H hh => ?_⟩
  obtain ⟨H0, Z0, r, Z, o, R, hh⟩ := hh
  refine ⟨H0, Z0, r, Z, o, R, G.wp_mono (G.wp_bind.mp hh) (fun k hk => ?_) fun _ x => x⟩
  cases k with
  | nx r' =>
    refine fun σ' H' Z' o' R' s' => ?_
    exact (R'.frz i).imp fun H2 ⟨Z2, o2, R2, s2, _⟩ => hk σ' H2 Z2 o2 R2 (s'.trans s2)
  | bk r' => exact hk
  | ct r' => exact hk
  | rt t => exact hk
  | rm t r => exact fun σ' H' Z' o' v R' s' => hk σ' H' Z' o' v R' s'
/-! ### self.f = e by the class's facts -/
/-! ### isinstance -/
end
/-- the class c's __init__ stands -/
structure InitAt (K : PySem.W.Frag) (mg : Str → Option Value) (c x qual : Str) (st : Stmt) (ps : List Str) : Prop where
  ex : ∃ C f fd, mg c = some (.ref C) ∧ Mk K C f ∧ Fun K x qual st f fd ∧ Binds K fd ps []
end TL
end s_TL34
section s_TL35
set_option Elab.async false
set_option linter.all false
set_option maxRecDepth 100000
set_option maxHeartbeats 4000000
/-! TL35: repr -/
namespace TL
open PySem PySem.Spec PyProof.Rows L2
def rRepr (K : PySem.W.Frag) : List V → Hp → VK → Prop := fun xs H Q => ∃ x d, xs = [x] ∧ Dp K H x d ∧ d.showable = true ∧ d.hasDict = false ∧ d.depth ≤ 60 ∧ d.shown.length ≤ sizeLine ∧ Q (.str d.shown) H
section
variable {X : Cx} {M : Km} {w : Wd} {E : XK} {k : Nat}
theorem o_repr (gd : X.A.guards = some []) (hr : Room k X.A) : CallR X (.builtin "repr") (rRepr X.K) := by
  intro pins s σ H xs us Q I rx h
  obtain ⟨x, d, rfl, hd, hs, hn, hdp, hsz, q⟩ := h
  obtain ⟨u, rfl, ru⟩ := rx.one
  have hu := hr.units
  have big : ∀ a, u = .ref a → wpAny (model X.prog X.w) X.A (call (.builtin "repr") [u]) (EP X pins σ Q) X.xe s := fun a e => by
    subst e
    obtain ⟨as, r⟩ := Dp.reads I d x _ hd ru
    exact repr_of_reads' r hs (fun z => by rw [hn] at z; cases z) gd (by omega) (fun _ _ z => z) (fun h' t tk hk => ⟨.str d.shown, H, I.kept (t' := tk) hk, ⟨_, rfl⟩, q⟩) hsz
  cases hd with
  | non => cases ru; exact PySem.P.repr_of_none ⟨.str _, H, I.tok _, ⟨_, rfl⟩, q⟩
  | bl b => cases ru; exact PySem.P.repr_of_bool ⟨.str _, H, I.tok _, ⟨_, rfl⟩, q⟩
  | int i =>
    obtain ⟨t, rfl⟩ := ru
    exact PySem.P.repr_of_int (of_decide_eq_true hs) ⟨.str _, H, I.tok _, ⟨_, rfl⟩, q⟩
  | str z =>
    obtain ⟨t, rfl⟩ := ru
    exact PySem.P.repr_of_str ⟨.str _, H, I.tok _, ⟨_, rfl⟩, q⟩ hsz
  | @lst a xs ds h1 h2 => cases ru; exact big a rfl
  | @tup a xs ds h1 h2 => cases ru; exact big a rfl
def fRepr : List T → G T
  | [t] => match toPy t with
    | some d => if d.showable && !d.hasDict && decide (d.depth ≤ 60) && fits d.shown.length then .ret (.str d.shown) else .stuck
    | none => .stuck
  | _ => .stuck
theorem tn_repr : TN M w E (rRepr M.K) fRepr := fun H0 Z0 r σ H Z o R ts vs Q tr hw => by
  unfold fRepr at hw
  split at hw
  · rename_i t
    obtain ⟨v, rfl, tv⟩ := trs1 tr
    split at hw
    · rename_i d hd
      split at hw
      · rename_i hc
        simp only [Bool.and_eq_true, Bool.not_eq_true', decide_eq_true_eq] at hc
        obtain ⟨⟨⟨h1, h2⟩, h3⟩, h4⟩ := hc
        exact ⟨v, d, rfl, tv.dp R.good.zh hd, h1, h2, h3, fits_line h4, hw _ H Z (Grow.refl R.good) (.str _)⟩
      · exact False.elim hw
    · exact False.elim hw
  · exact False.elim hw
end
end TL
end s_TL35
section s_TL36
set_option Elab.async false
set_option linter.all false
set_option maxRecDepth 100000
set_option maxHeartbeats 4000000
/-! TL36: list(d.values()) -/
namespace TL
open PySem PySem.Spec PyProof.Rows L2
def VW (v d : Addr) : HO := .ext fun h => h.IsValuesView v d
section
variable {X : Cx} {w : Wd} {E : XK} {e : Expr} {te : TE} {ca : EC} {p pos apos cpos : Pos}
def rListView : List V → Hp → VK → Prop := fun xs H Q => ∃ v d kvs, xs = [.ref v] ∧ H v = some (VW v d) ∧ Rd H d (.dK kvs) ∧ ∀ q, H q = none → Q (.ref q) (upd H q (.lst (kvs.map (·.2))))
def cListVals (ca : EC) : EC := fun r => ca r >>= fun t => match t with
  | .dic kts => .ret (.lst (kts.map (·.2)))
  | _ => .stuck
end
end TL
end s_TL36
section s_TL37
set_option Elab.async false
set_option linter.all false
set_option maxRecDepth 100000
set_option maxHeartbeats 4000000
/-! TL37: dict(zip(a, b)), a and b anything walked -/
namespace TL
open PySem PySem.Spec PyProof.Rows L2
section
variable {prog : Program} {w : World} {A : Around} {E : Value → Shared → Prop} {s : Shared} {z TI TO T i1 i2 : Addr} {fp1 fp2 : List Addr} {n1 n2 i : Nat} {P1 P2 : Nat → Value → Prop} {St1 St2 : Nat → Heap → Prop} {f : Bool} {oT : Obj}
end
end TL
end s_TL37
section s_TL38
set_option Elab.async false
set_option linter.all false
set_option maxRecDepth 100000
set_option maxHeartbeats 4000000
/-! TL38: dict(zip(a, b)) -/
namespace TL
open PySem PySem.Spec PyProof.Rows L2
section
variable {prog : Program} {w : World} {A : Around} {E : Value → Shared → Prop} {s : Shared} {z TI TO T i1 i2 : Addr} {fp1 fp2 : List Addr} {n1 n2 i : Nat} {P1 P2 : Nat → Value → Prop} {St1 St2 : Nat → Heap → Prop} {f : Bool} {oT : Obj}
end
end TL
end s_TL38
section s_TL39
set_option Elab.async false
set_option linter.all false
set_option maxRecDepth 100000
set_option maxHeartbeats 4000000
/-! TL39: dict(zip(a, b)) as an expression -/
namespace TL
open PySem PySem.Spec PyProof.Rows L2
section
variable {X : Cx} {w : Wd} {E : XK} {e e2 : Expr} {ta : TA} {cs : List Sl → G (List T)} {p pz pos pos2 : Pos} {P0 : Str} {kts : List (Str × T)}
end
end TL
end s_TL39
section s_TL40
set_option Elab.async false
set_option linter.all false
set_option maxRecDepth 100000
set_option maxHeartbeats 4000000
/-! TL40: dict(zip(a, b)), by computations -/
namespace TL
open PySem PySem.Spec PyProof.Rows L2
def isKey (t : T) : Bool := (keyT t).isSome
def dictZipOf (P0 : Str) (kts : List (Str × T)) : List T → G T
  | [a, b] => match srcT P0 kts a, srcT P0 kts b with
    | some ts, some us => if ts.all isKey = true then .ret (.dic (mergeT [] (ts.zip us))) else .stuck
    | _, _ => .stuck
  | _ => .stuck
section
variable {X : Cx} {w : Wd} {E : XK} {e e2 : Expr} {cs : List Sl → G (List T)} {p pz pos pos2 : Pos} {P0 : Str} {kts : List (Str × T)}
end
end TL
end s_TL40
section s_TL41
set_option Elab.async false
set_option linter.all false
set_option maxRecDepth 100000
set_option maxHeartbeats 4000000
/-! TL41: methods by their bodies -/
namespace TL
open PySem PySem.Spec PyProof.Rows L2
structure MethAt (K : PySem.W.Frag) (mg : Str → Option Value) (c m x qual : Str) (st : Stmt) (ps : List Str) : Prop where
  ex : ∃ C f fd, mg c = some (.ref C) ∧ Cls K C ∧ Meth K C m f ∧ Fun K x qual st f fd ∧ Binds K fd ps []
structure EqAt (K : PySem.W.Frag) (mg : Str → Option Value) (c x qual : Str) (st : Stmt) (ps : List Str) : Prop where
  ex : ∃ C f fd, EqF K mg c C f ∧ Fun K x qual st f fd ∧ Binds K fd ps []
section
variable {P : Program} {wd : World} {K : PySem.W.Frag} {mg : Str → Option Value} {base : Heap} {k n : Nat} {ps N : List Str} {cl m x qual : Str} {st : Stmt} {c : SC}
end
end TL
end s_TL41
section s_TL42
set_option Elab.async false
set_option linter.all false
set_option maxRecDepth 100000
set_option maxHeartbeats 4000000
/-! TL42: tests of the table; the law's own promise (the world is the trivial one) -/
namespace TL
open PySem PySem.Spec PyProof.Rows L2
section
variable {X : Cx} {w : Wd} {E : XK} {tg e e2 : Expr} {p pos tpos : Pos} {ca cb : EC} {cs : List Sl → G (List T)} {P0 : Str} {kts : List (Str × T)} {H Z : Hp}
end
def SpL (pw : Program × World) (K : PySem.W.Frag) (mg : Str → Option Value) (tb : List (Addr × Str)) (n : Nat) (F : List T → G T) : Sp := fun vs H Q E => ∃ (w : Wd) (ts : List T) (Z : Hp), (w.wo = pw ∧ ∀ p, w.home = some p → Grow w p.1 p.2 H Z) ∧ (w.dr = [] ∧ w.tb = tb) ∧ vs.length = n ∧ Good w H Z ∧ (∀ cl, Trs K mg { w with clo := cl } Z ts vs) ∧
  (F ts).wp (fun t => ∀ cl v H' Z', Grow w H Z H' Z' → Tr K mg { w with clo := cl } Z' t v → Q v H') (fun e => ∀ cl cls d H' Z', Grow w H Z H' Z' → ExR K mg { w with clo := cl } Z' H' e cls d → E cls d H')
theorem Grow.clo {w : Wd} {cl : Nat → Addr → Addr → HO × HO} {H Z H' Z' : Hp} (g : Grow { w with clo := cl } H Z H' Z') : Grow w H Z H' Z' := ⟨⟨g.good.zh, g.good.zw, g.good.wi⟩, g.zz, g.new, g.hh⟩
section
variable {P : Program} {wd : World} {K : PySem.W.Frag} {mg : Str → Option Value} {base : Heap} {k : Nat} {f : Addr} {fd : FuncData} {ps N : List Str} {x qual : Str} {st : Stmt} {c : SC}
theorem fnL {tb : List (Addr × Str)} {cl : Env → Nat → Addr → Addr → HO × HO} (F : Fun K x qual st f fd) (S : FnScope N ps (defScope st))
    (body : ∀ (w : Wd) (cdv : Value) (A : Around) (outer : List Env) (s : Shared) (H : Hp) (E : XK), w.dr = [] → w.tb = tb → w.clo = cl (envOfC qual (defScope st) s.heap.objs.size f cdv) → fd.code = cdv → (A.deeper (envOfC qual (defScope st) s.heap.objs.size f cdv)).guards = some [] → Room k (A.deeper (envOfC qual (defScope st) s.heap.objs.size f cdv)) →
      Passes (L2.CX P wd) (cxOf (L2.CX P wd) P wd K mg base N qual (defScope st) f cdv A outer s H E) E →
      CSs (cxOf (L2.CX P wd) P wd K mg base N qual (defScope st) f cdv A outer s H E) w E false (defBody st) c) : FnG P wd K mg base (k + 1) f fd ps (SpL (P, wd) K mg tb ps.length (runB c N.length)) := by
  have hpl : ps.length ≤ N.length := by have := congrArg List.length S.pre; rw [List.length_take] at this; omega
  refine fnG_ofC F S (fun vs H Q E h => let ⟨_, _, _, _, _, h, _⟩ := h; h) fun cdv ecd A outer s H vs Q E gd hr h => ?_
  obtain ⟨w, ts, Z, hwo, w0, hl, g, tr, hw⟩ := h
  let w' : Wd := { w with clo := cl (envOfC qual (defScope st) s.heap.objs.size f cdv) }
  have g' : Good w' H Z := ⟨g.zh, g.zw, g.wi⟩
  refine ⟨_, (body w' cdv A outer s H E w0.1 w0.2 rfl ecd gd hr (passes_call (takes_of rfl rfl rfl rfl) fun _ _ _ _ q => q)).ps, ?_⟩
  refine ⟨H, Z, _, Z, fun _ => [], env_start g' (tr _) (by omega) ⟨hwo.1, fun p hp => ⟨⟨(hwo.2 p hp).good.zh, (hwo.2 p hp).good.zw, (hwo.2 p hp).good.wi⟩, (hwo.2 p hp).zz, (hwo.2 p hp).new, (hwo.2 p hp).hh⟩⟩, G.wp_mono (G.wp_bind.mp hw) (fun kk hk => ?_) fun ex hx cls d H' Z' gg q => hx (cl (envOfC qual (defScope st) s.heap.objs.size f cdv)) cls d H' Z' gg.clo q⟩
  cases kk with
  | nx r => exact fun σ' H' Z' o' R' s' => hk w.clo _ H' Z' R'.gr.clo .non
  | bk r => exact hk.elim
  | ct r => exact hk.elim
  | rm t r => exact hk.elim
  | rt t =>
    have goal : PostR ⟨K, mg, (P, wd)⟩ w' false H Z t Q := fun v H' Z' gg tt => hk (cl (envOfC qual (defScope st) s.heap.objs.size f cdv)) v H' Z' gg.clo tt
    exact goal
end
/-- the law's first world -/
theorem spL_base {P : Program} {wd : World} {K : PySem.W.Frag} {mg : Str → Option Value} {tb : List (Addr × Str)} {F : List T → G T} {H : Hp} {a : Addr} {ns : List Int} (hT : ∀ p ∈ tb, H p.1 = some (.tbl #[])) (hS : SqL K (fun b => if b ∈ tb.map (·.1) then none else H b) a (ns.map V.int)) (hl : ns.length ≤ 1000) (hsp : (F [.scr ns]).wp (fun t => t = .bl true) (fun _ => False)) :
    SpL (P, wd) K mg tb 1 F [.ref a] H (fun v _ => v = .bl true) fun _ _ _ => False := by
  refine ⟨Wd.base (P, wd) tb, [.scr ns], fun b => if b ∈ tb.map (·.1) then none else H b, ⟨rfl, fun p hp => (nomatch hp)⟩, ⟨rfl, rfl⟩, rfl, ⟨fun b o e => ?_, fun b hb => if_pos hb, trivial, fun p hp => ?_⟩, fun cl => .cons (.scr hS hl) .nil, G.wp_mono hsp (fun t ht cl v H' Z' g tr => ?_) fun e h => False.elim h⟩
  · by_cases q : b ∈ tb.map (·.1)
    · have e' := (if_pos q).symm.trans e; cases e'
    · exact (if_neg q).symm.trans e
  · refine ⟨#[], hT p hp, True.intro, fun pos cv hc => ?_⟩
    have z : codeAmong pos [] = some cv := hc
    simp [codeAmong] at z
  · subst ht
    cases tr
    rfl
section
variable {P : Program} {wd : World} {K : PySem.W.Frag} {mg : Str → Option Value} {base : Heap} {k : Nat} {x : Str} {qual : Str} {st : Stmt} {ps N : List Str} {c : SC}
structure CallL (P : Program) (wd : World) (K : PySem.W.Frag) (mg : Str → Option Value) (base : Heap) (k : Nat) (x : Str) (F : List T → G T) (tb : List (Addr × Str) := []) : Prop where
  ex : ∃ f fd ps, mg x = some (.ref f) ∧ Binds K fd ps [] ∧ FnG P wd K mg base k f fd ps (SpL (P, wd) K mg tb 1 F)
theorem law_at {y : Str} (A : FunAt K mg x qual st [y]) (S : FnScope N [y] (defScope st))
    (body : ∀ (f : Addr) (cdv : Value) (A : Around) (outer : List Env) (s : Shared) (H : Hp) (w : Wd) (E : XK), w.dr = [] → Bd (bx P wd K mg base N qual st f cdv A outer s H E) k E → CSs (bx P wd K mg base N qual st f cdv A outer s H E) w E false (defBody st) c) :
    CallL P wd K mg base (k + 1) x (runB c N.length) := by
  obtain ⟨f, fd, hm, hk, F, hb⟩ := A.ex
  exact ⟨f, fd, [y], hm, hb, fnL (cl := fun _ _ _ _ => (.rng 0 0, .rng 0 0)) F S fun w cdv A outer s H E w0 _ _ _ gd hr hx => body f cdv A outer s H w E w0 ⟨gd, hr, hx, passes_of rfl⟩⟩
theorem css_begin0 {X : Cx} {w : Wd} {E : XK} {j k : Nat} {i0 j0 : Nat} {x s fn : Str} {sts : List Stmt} {c : SC} {p1 p2 p3 p4 pos : Pos} (hw0 : w.dr = []) (B : Bd X k E) (C : CallG X.prog X.w X.K X.mg X.base j fn (SpBegin X.K)) (hN : X.N.Nodup)
    (rest : ∀ w' : Wd, w'.tb = w.tb → w'.clo = w.clo → CSs X w' E false sts c) (hjk : j ≤ k := by decide) (hg : Gl X fn := by rfl) (hi : X.N[i0]? = some x := by rfl) (hx : Loc X.env.scope x := by first | exact Or.inl rfl | exact Or.inr rfl) (hj : X.N[j0]? = some s := by rfl) (hv : Vis X.env.scope s := by first | exact Or.inl rfl | exact Or.inr (Or.inl rfl) | exact Or.inr (Or.inr rfl))
    (hd : (s == ("__debug__" : Str)) = false := by decide) (hcd : (s == ("__classdict__" : Str)) = false := by decide) (hdb : (fn == ("__debug__" : Str)) = false := by decide) (hij : i0 ≠ j0 := by decide)
    (hs : swapsWith (.Call (.Name fn p1) [.Name s p2] [] p3) (some (.Name x p4)) pos.line X.env = pure false := by rfl) (hf : X.fn x = true ∨ X.env.scope.names.lookup x = some .local := by first | exact .inl rfl | exact .inr rfl | assumption) :
    CSs X w E false (.Assign [.Name x p4] (.Call (.Name fn p1) [.Name s p2] [] p3) pos :: sts) (cBegin i0 j0 c) := by
  obtain ⟨f, fd, ps, hm, hk, hb, F⟩ := C.ex
  exact css_begin hw0 hN (F.mono hjk) B.gd B.hr hg hm hk hb rest hi hx hj hv hd hcd hdb hij hs hf
end
end TL
end s_TL42
section s_TL43
set_option Elab.async false
set_option linter.all false
set_option maxRecDepth 100000
set_option maxHeartbeats 4000000
/-! TL43: what the top has written, in the form that the texts ask for -/
namespace TL
open PySem PySem.Spec PyProof.Rows L2
section
variable {K : PySem.W.Frag} {h : Heap} {mg : Str → Option Value} {x qual : Str} {st : Stmt} {ps : List Str} {f C : Addr} {oc kV doc pm cdv ct : Value} {od an : Option Addr} {osl : Array (Option Value)} {c m : Str}
/-- the arguments of a def bind with no defaults -/
def BindsSt (x qual : Str) (st : Stmt) (ps : List Str) : Prop := ∀ (kV doc pm : Value) (an : Option Addr) (cdv ct : Value) (us : List Value), us.length = ps.length → bindArgs (PySem.W.fnOf x qual (defArgs st) (defBody st) (defScope st) .none kV doc pm an cdv ct) ⟨us, []⟩ = pure (ps.zip us)
theorem funAt_mk (KX : K.In h) (G : h.Ns mainGlobals mg) (hb : BindsSt x qual st ps) (a : PySem.W.nsIn K mainGlobals x = some (some (.ref f)))
    (l : K.lookup f = some ⟨oc, od, .func (PySem.W.fnOf x qual (defArgs st) (defBody st) (defScope st) .none kV doc pm an cdv ct), osl⟩) (cd : PySem.W.codeIn K cdv qual = true) (k : PySem.W.keepIn K (.ref f) = true) : FunAt K mg x qual st ps := by
  have F := fun_mk (st := st) l cd k
  exact ⟨f, _, PySem.W.mg_of KX G a, k, F, F.binds hb⟩
end
end TL
end s_TL43
section s_TL44
set_option Elab.async false
set_option linter.all false
set_option maxRecDepth 100000
set_option maxHeartbeats 4000000
/-! TL44: the law's end, by CallL -/
namespace TL
open PySem PySem.Spec PyProof.Rows L2
theorem law_callL {P : Program} {w : World} {K : PySem.W.Frag} {mg mb : Str → Option Value} {k : Nat} {fa a : Addr} {lw : Str} {F0 : List T → G T} {s : Shared} {vs : List Value} {ns : List Int}
    (KX : K.In s.heap) (hns : s.heap.Ns mainGlobals mg) (hb : s.heap.Ns builtinsNs mb) (hbb : ∀ y : Str, y ≠ "__name__" → mb y = bootBuiltins y) (hlim : s.heap.NoLimit) (hg : s.gens = #[])
    (ha : s.heap.get? a = some { cls := .type "list", data := .seq vs.toArray }) (hi : IntsAre vs ns) (hl : ns.length ≤ sizeLine) (hr : Room k callerA)
    (hfa : mg lw = some (.ref fa)) (F : ∀ base : Heap, K.In base → base.Ns mainGlobals mg → CallL P w K mg base k lw F0)
    (hsp : ∀ H : Hp, SqL K H a (ns.map V.int) → SpL (P, w) K mg [] 1 F0 [.ref a] H (fun v _ => v = .bl true) fun _ _ _ => False) :
    codeAny (model P w) callerA (.call (.ref fa) ⟨[.ref a], []⟩) (fun r s' => r = .ok (.ret (.bool true)) ∧ OldK s.heap s'.heap ∧ s'.os = s.os ∧ AllBare s'.gens) s := by
  obtain ⟨H, S⟩ := scr_of KX ha hi hl
  have hok : HOk P w H s.heap := scr_hok S ha hi hl
  -- the base: what is not tracked
  have gone : ∀ {b : Addr} {o : Obj}, s.heap.get? b = some o → b ≠ a ∨ H a = none → (hidT s.heap H).get? b = some o := fun {b o} e h => hidT_get e (by
    cases q : H b with
    | none => rfl
    | some u =>
      obtain ⟨rfl, _⟩ := S.only b u q
      rcases h with h | h
      · exact absurd rfl h
      · rw [q] at h; cases h)
  have nsB : ∀ {b : Addr} {m : Str → Option Value}, s.heap.Ns b m → (hidT s.heap H).Ns b m := fun {b m} ⟨o, es, ep, e, d, r⟩ => ⟨o, es, ep, gone e (.inl fun z => by
    subst z
    rw [ha] at e; cases e
    have d' : Data.seq vs.toArray _ = Data.dict es ep := d
    cases d'), d, r⟩
  have kB : K.In (hidT s.heap H) := fun b o e => gone (KX b o e) (by
    by_cases z : H a = none
    · exact .inr z
    · exact .inl fun q => by subst q; rw [S.out z] at e; cases e)
  have modB : Mod K mg (hidT s.heap H) := ⟨kB, nsB hns, ⟨mb, nsB hb, hbb⟩, let ⟨mc, h1, h2⟩ := hlim; ⟨mc, nsB h1, h2⟩⟩
  have env : Env0 P w K mg (hidT s.heap H) callerA [] s H := ⟨rfl, modB, fun b o e => of_hidT e, Nat.le_of_eq (hidT_size _ _), trivial, fun b hb => (nomatch hb), hok, .of_eq hg⟩
  obtain ⟨f, fd, ps, hm, hb1, Fg⟩ := (F _ kB (nsB hns)).ex
  have ef := hm.symm.trans hfa
  cases ef
  have hps : ps.length = 1 := (Fg.len _ H _ _ (hsp H S.seq)).symm
  refine codeAny_mono (Fg.go callerA [] s H ⟨[.ref a], []⟩ [.ref a] [.ref a] _ _ rfl hr env (hb1 s [.ref a] KX hps.symm) (.cons rfl .nil) (hsp H S.seq)) fun r s' hq => ?_
  rcases r with e | (_ | _ | _ | u)
  · obtain ⟨_, _, _, _, _, _, _, _, _, _, _, _, f⟩ := hq; exact False.elim f
  · exact False.elim hq
  · exact False.elim hq
  · exact False.elim hq
  · obtain ⟨v, H', os, bare, un, hok', r', q⟩ := hq
    have q' : v = .bl true := q
    subst q'
    obtain rfl : u = Value.bool true := r'
    refine ⟨rfl, OldK.of_keep fun b o e => ?_, os, bare⟩
    cases z : H b with
    | none => exact un.keep b o e z (fun q => nomatch q) (by simp)
    | some u =>
      obtain ⟨rfl, xs, rfl, g⟩ := S.only b u z
      have z2 := un.frzs b _ _ z
      obtain ⟨e2, _⟩ := hok' b _ z2
      rw [g] at e; cases e
      exact e2
theorem walk_ofM {l : PySem.W.OpenLaw} {n k : Nat} {q : Program} {loose : List Str} {XP : (Str → Option Value) → Heap → Prop} {YP : World → Heap → Prop} {d : DefRec} {K : Params → PySem.W.Frag} {F : List T → G T}
    (hn : l.most = some n) (hn2 : n ≤ 1000) (hdf : d.params.defaults = []) (hr : Room k callerA)
    (hY : ∀ (w : World) (h : Heap), YP w h → (K w.params).In h)
    (hF : ∀ (w : World) (mg : Str → Option Value) (fa : Addr) (h : Heap), (K w.params).In h → h.Ns mainGlobals mg → mg d.name = some (.ref fa) →
      ∀ base : Heap, (K w.params).In base → base.Ns mainGlobals mg → CallL l.prog w (K w.params) mg base k d.name F)
    (hsp : ∀ ns : List Int, (F [.scr ns]).wp (fun t => t = .bl true) (fun _ => False)) :
    PySem.W.WalkO q loose XP YP l.row.toRowW d [] (fun f vs => PySem.call f vs) := by
  refine Att.attach_call hn hdf fun w s₀ s₁ mg mb fa o pm cd doc a vs ns G0 Y ho hd hcd hmg hobj hints hlen hg => ?_
  have KX := hY w _ Y
  have hfn := hF w mg fa _ KX G0.T.g hmg
  have hl : ns.length ≤ 1000 := Nat.le_trans hlen hn2
  refine law_callL KX G0.T.g G0.T.b G0.T.builtins G0.T.nolimit hg hobj hints (Nat.le_of_lt (small1000 hl)) hr hmg hfn fun H hS => ?_
  exact spL_base (tb := []) (fun p hp => (nomatch hp)) (by simpa using hS) hl (hsp ns)
end TL
end s_TL44
section s_TL45
set_option Elab.async false
set_option linter.all false
set_option maxRecDepth 100000
set_option maxHeartbeats 4000000
/-! TL45: an own class called with keywords: what the top has written -/
namespace TL
open PySem PySem.Spec PyProof.Rows L2
structure InitAtK (K : PySem.W.Frag) (mg : Str → Option Value) (c x qual : Str) (st : Stmt) (ps ks : List Str) (perm : List Nat) : Prop where
  ex : ∃ C f fd, mg c = some (.ref C) ∧ Mk K C f ∧ Fun K x qual st f fd ∧ KwB K fd ps ks perm
end TL
end s_TL45
section s_TL46
set_option Elab.async false
set_option linter.all false
set_option maxRecDepth 100000
set_option maxHeartbeats 4000000
/-! TL46: a table of the module from what the top has written -/
namespace TL
open PySem PySem.Spec PyProof.Rows L2
mutual
/-- a tree that the top has written -/
inductive TrK (K : PySem.W.Frag) : T → Value → Prop
  | non : TrK K .non .none
  | bl (b : Bool) : TrK K (.bl b) (.bool b)
  | int (i : Int) (t : Tok) : TrK K (.int i) (.int i t)
  | str (x : Str) (t : Tok) : TrK K (.str x) (.str x t)
  | tup {ts : List T} {p : Addr} {od : Option Addr} {its : Array Value} {n : Nat} {sl : Array (Option Value)} : K.lookup p = some ⟨.type "tuple", od, .seq its n, sl⟩ → decide (its.size ≤ 1000) = true → TrKs K ts its.toList → TrK K (.tup ts) (.ref p)
inductive TrKs (K : PySem.W.Frag) : List T → List Value → Prop
  | nil : TrKs K [] []
  | cons {t v ts vs} : TrK K t v → TrKs K ts vs → TrKs K (t :: ts) (v :: vs)
end
section
variable {K : PySem.W.Frag} {mg : Str → Option Value}
mutual
theorem TrK.tr : ∀ {t : T} {u : Value}, TrK K t u → ∃ v, RelV v u ∧ ∀ (w : Wd) Z, Tr K mg w Z t v
  | _, _, .non => ⟨.non, rfl, fun _ _ => .non⟩
  | _, _, .bl b => ⟨.bl b, rfl, fun _ _ => .bl b⟩
  | _, _, .int i t => ⟨.int i, ⟨t, rfl⟩, fun _ _ => .int i⟩
  | _, _, .str x t => ⟨.str x, ⟨t, rfl⟩, fun _ _ => .str x⟩
  | _, _, .tup l s r => by
    obtain ⟨vs, h1, h2⟩ := TrKs.tr r
    have hs := of_decide_eq_true s
    refine ⟨.ref _, rfl, fun w Z => .tup (.inr ⟨_, _, _, l, rfl, rfl, Nat.le_of_lt (small1000 hs), h1⟩) ?_ (h2 w Z)⟩
    rw [h1.length, Array.length_toList]
    exact Nat.le_of_lt (small1000 hs)
theorem TrKs.tr : ∀ {ts : List T} {us : List Value}, TrKs K ts us → ∃ vs, Vals vs us ∧ ∀ (w : Wd) Z, Trs K mg w Z ts vs
  | _, _, .nil => ⟨[], .nil, fun _ _ => .nil⟩
  | _, _, .cons a b => by
    obtain ⟨v, h1, h2⟩ := TrK.tr a
    obtain ⟨vs, h3, h4⟩ := TrKs.tr b
    exact ⟨v :: vs, .cons h1 h3, fun w Z => .cons (h2 w Z) (h4 w Z)⟩
end
/-- the entries of a table -/
inductive TabK (K : PySem.W.Frag) : List (Str × T) → List DictEntry → Prop
  | nil : TabK K [] []
  | cons {x : Str} {t : T} {kts : List (Str × T)} {hs : Int} {tk : Tok} {u : Value} {es : List DictEntry} : TrK K t u → TabK K kts es → TabK K ((x, t) :: kts) (⟨hs, .str x tk, u⟩ :: es)
theorem TabK.keys : ∀ {kts : List (Str × T)} {es : List DictEntry}, TabK K kts es → Vals (kts.map fun p => V.str p.1) (es.map (·.key))
  | _, _, .nil => .nil
  | _, _, .cons _ r => .cons ⟨_, rfl⟩ r.keys
theorem TabK.get : ∀ {kts : List (Str × T)} {es : List DictEntry}, TabK K kts es → ∀ k, (∀ t, (kts.find? fun p => p.1 == k).map (·.2) = some t → ∃ u e, es.find? (·.key.isStr k) = some e ∧ e.val = u ∧ TrK K t u) ∧
    ((kts.find? fun p => p.1 == k) = none → es.find? (·.key.isStr k) = none ∧ es.any (·.refKey) = false)
  | _, _, .nil, k => ⟨fun t h => (nomatch h), fun _ => ⟨rfl, rfl⟩⟩
  | _, _, .cons (x := x) (tk := tk) (u := u) h r, k => by
    have e0 : (Value.str x tk).isStr k = (x == k) := by
      rw [PySem.W.isStr_of]; rfl
    obtain ⟨r1, r2⟩ := r.get k
    simp only [List.find?_cons, e0]
    cases hx : x == k with
    | true => exact ⟨fun t q => ⟨_, _, rfl, rfl, by cases q; exact h⟩, fun q => (nomatch q)⟩
    | false => exact ⟨fun t q => r1 t q, fun q => ⟨(r2 q).1, by rw [List.any_cons, (r2 q).2]; rfl⟩⟩
end
end TL
end s_TL46
section s_TL47
set_option Elab.async false
set_option linter.all false
set_option maxRecDepth 100000
set_option maxHeartbeats 4000000
/-! TL47: keywords bind -/
namespace TL
open PySem PySem.Spec PyProof.Rows L2
section
variable {K : PySem.W.Frag} {h : Heap} {mg : Str → Option Value} {x qual : Str} {st : Stmt} {ps ks : List Str} {perm : List Nat} {f C : Addr} {oc kV doc pm cdv ct : Value} {od an : Option Addr} {osl : Array (Option Value)} {c m : Str}
def BindsKw (x qual : Str) (st : Stmt) (ps ks : List Str) (perm : List Nat) : Prop := ∀ (kV doc pm : Value) (an : Option Addr) (cdv ct : Value) (v : Value) (ws : List Value), ws.length = ks.length →
  bindArgs (PySem.W.fnOf x qual (defArgs st) (defBody st) (defScope st) .none kV doc pm an cdv ct) ⟨[v], ks.zip ws⟩ = pure (ps.zip (v :: pickL perm ws))
end
end TL
end s_TL47
section s_TL48
set_option Elab.async false
set_option linter.all false
set_option maxRecDepth 100000
set_option maxHeartbeats 4000000
/-! TL48: trees that are data: == and repr of them -/
namespace TL
open PySem PySem.Spec PyProof.Rows L2
/-- t is the data d, at most n deep, its repr at most m long -/
structure RO (n m : Nat) (t : T) (d : PyData) : Prop where
  py : toPy t = some d
  sh : d.showable = true
  ly : d.canLay0 = true
  dp : d.depth ≤ n
  ln : d.shown.length ≤ m
structure ROs (n m : Nat) (ts : List T) (ds : List PyData) : Prop where
  py : toPys ts = some ds
  sh : PyData.showableAll ds = true
  ly : PyData.canLayAll0 ds = true
  dp : PyData.depthAll ds ≤ n
  ln : piled (PyData.shownAll ds) ≤ m
theorem RO.mono {n m n' m' : Nat} {t : T} {d : PyData} (h : RO n m t d) (h1 : n ≤ n') (h2 : m ≤ m') : RO n' m' t d := ⟨h.py, h.sh, h.ly, Nat.le_trans h.dp h1, Nat.le_trans h.ln h2⟩
theorem ROs.mono {n m n' m' : Nat} {t : List T} {d : List PyData} (h : ROs n m t d) (h1 : n ≤ n') (h2 : m ≤ m') : ROs n' m' t d := ⟨h.py, h.sh, h.ly, Nat.le_trans h.dp h1, Nat.le_trans h.ln h2⟩
theorem ROs.nil {n : Nat} : ROs n 0 [] [] := ⟨rfl, rfl, rfl, Nat.zero_le _, Nat.le_refl _⟩
theorem ROs.cons {n m k : Nat} {t : T} {d : PyData} {ts : List T} {ds : List PyData} (h : RO n m t d) (r : ROs n k ts ds) : ROs n (m + 2 + k) (t :: ts) (d :: ds) := by
  refine ⟨by simp [toPys, h.py, r.py], by simp [PyData.showableAll, h.sh, r.sh], by simp [PyData.canLayAll0, h.ly, r.ly], ?_, ?_⟩
  · simp only [PyData.depthAll]
    exact Nat.max_le.mpr ⟨h.dp, r.dp⟩
  · simp only [PyData.shownAll, piled_cons]
    have := h.ln; have := r.ln
    omega
theorem ROs.map {α : Type} {n m : Nat} {f : α → T} {g : α → PyData} : ∀ {l : List α}, (∀ x ∈ l, RO n m (f x) (g x)) → ROs n ((m + 2) * l.length) (l.map f) (l.map g)
  | [], _ => by exact ROs.nil
  | x :: l, h => by
    have r := ROs.cons (h x (by simp)) (ROs.map (l := l) fun y hy => h y (by simp [hy]))
    refine r.mono (Nat.le_refl _) ?_
    rw [List.length_cons, Nat.mul_add, Nat.mul_one]
    omega
theorem ROs.append {n m k : Nat} {ts us : List T} {ds es : List PyData} (h : ROs n m ts ds) (r : ROs n k us es) : ROs n (m + k) (ts ++ us) (ds ++ es) := by
  induction ts generalizing m ds with
  | nil =>
    have := h.py
    simp only [toPys, Option.some.injEq] at this
    subst this
    exact r.mono (Nat.le_refl _) (by omega)
  | cons t ts ih =>
    have hp := h.py
    simp only [toPys, Option.bind_eq_some_iff, Option.map_eq_some_iff] at hp
    obtain ⟨d, e1, ds', e2, rfl⟩ := hp
    have h1 := h.sh; have h2 := h.ly; have h3 := h.dp; have h4 := h.ln
    simp only [PyData.showableAll, PyData.canLayAll0, Bool.and_eq_true, PyData.depthAll, PyData.shownAll, piled_cons] at h1 h2 h3 h4
    have q : ROs n (piled (PyData.shownAll ds')) ts ds' := ⟨e2, h1.2, h2.2, (Nat.max_le.mp h3).2, Nat.le_refl _⟩
    have := ROs.cons (⟨e1, h1.1, h2.1, (Nat.max_le.mp h3).1, Nat.le_refl _⟩ : RO n d.shown.length t d) (ih q)
    exact this.mono (Nat.le_refl _) (by omega)
theorem tupleText_len (ts : List Str) : (tupleText ts).length ≤ piled ts + 3 := by
  unfold tupleText
  rw [Str.length_append, Str.length_append]
  have l1 : (("(" : Str)).length = 1 := by decide +kernel
  have l2 : ((if ts.length == 1 then ",)" else ")" : String) : Str).length ≤ 2 := by split <;> decide +kernel
  have l3 : (Str.join ", " ts).length ≤ piled ts := by
    by_cases e : ts = []
    · subst e; decide +kernel
    · have := join_length_add ts e; omega
  rw [l1]
  omega
theorem listText_len (ts : List Str) : (listText ts).length ≤ piled ts + 2 := by
  unfold listText
  rw [Str.length_append]
  have l1 : (("]" : Str)).length = 1 := by decide +kernel
  have l3 : (textFrom 0 "[" ts).length ≤ piled ts + 1 := by
    cases ts with
    | nil => decide +kernel
    | cons t ts =>
      unfold textFrom
      rw [textFrom_length_pos _ _ _ (Nat.succ_pos 0), Str.length_append, Str.length_append, piled_cons]
      have l5 : (("[" : Str)).length = 1 := by decide +kernel
      have l6 : ((if 0 > 0 then ", " else "" : String) : Str).length = 0 := by decide +kernel
      rw [l5, l6]
      omega
  rw [l1]
  omega
theorem RO.tup {n m : Nat} {ts : List T} {ds : List PyData} (h : ROs n m ts ds) : RO (n + 1) (m + 3) (.tup ts) (.tuple ds) :=
  ⟨by simp [toPy, h.py], by simp [PyData.showable, h.sh], by simp [PyData.canLay0, h.ly], by simp only [PyData.depth]; have := h.dp; omega,
    by simp only [PyData.shown]; have := tupleText_len (PyData.shownAll ds); have := h.ln; omega⟩
theorem RO.lst {n m : Nat} {ts : List T} {ds : List PyData} (h : ROs n m ts ds) : RO (n + 1) (m + 3) (.lst ts) (.list ds) :=
  ⟨by simp [toPy, h.py], by simp [PyData.showable, h.sh], by simp [PyData.canLay0, h.ly], by simp only [PyData.depth]; have := h.dp; omega,
    by simp only [PyData.shown]; have := listText_len (PyData.shownAll ds); have := h.ln; omega⟩
theorem RO.non {n : Nat} : RO n 4 .non .none := ⟨rfl, rfl, rfl, Nat.zero_le _, by decide +kernel⟩
theorem RO.bl {n : Nat} (b : Bool) : RO n 5 (.bl b) (.bool b) := ⟨rfl, rfl, rfl, Nat.zero_le _, by cases b <;> decide +kernel⟩
/-- one that is written -/
theorem RO.of {n m : Nat} {t : T} {d : PyData} (h1 : toPy t = some d) (h2 : (d.showable && d.canLay0 && decide (d.depth ≤ n) && decide (d.shown.length ≤ m)) = true) : RO n m t d := by
  simp only [Bool.and_eq_true, decide_eq_true_eq] at h2
  exact ⟨h1, h2.1.1.1, h2.1.1.2, h2.1.2, h2.2⟩
theorem RO.okT {n m : Nat} {t : T} {d : PyData} (h : RO n m t d) (hn : n ≤ 64) : okT t = true := by
  unfold TL.okT
  rw [h.py]
  show (d.canLay0 && decide (d.depth ≤ 64)) = true
  rw [h.ly, Bool.true_and]
  exact decide_eq_true (Nat.le_trans h.dp hn)
theorem RO.repr {n m : Nat} {t : T} {d : PyData} (h : RO n m t d) (hn : n ≤ 60) (hm : m ≤ 16777216) : fRepr [t] = .ret (.str d.shown) := by
  unfold fRepr
  simp only [h.py]
  show (if d.showable && !d.hasDict && decide (d.depth ≤ 60) && fits d.shown.length then G.ret (T.str d.shown) else .stuck) = _
  have h1 : decide (d.depth ≤ 60) = true := decide_eq_true (Nat.le_trans h.dp hn)
  have h2 : fits d.shown.length = true := decide_eq_true (Nat.le_trans h.ln hm)
  rw [h.sh, PyData.hasDict_of_canLay d h.ly, h1, h2]
  rfl
end TL
end s_TL48
section s_TL49
set_option Elab.async false
set_option linter.all false
set_option maxRecDepth 100000
set_option maxHeartbeats 4000000
/-! TL49: computations step by step -/
namespace TL
open PySem PySem.Spec PyProof.Rows L2
section
variable {c d : SC} {r r' : List Sl} {i : Nat} {ca cb : EC} {ta tb : List Sl → G Bool} {t u : T} {x : G Ctl} {ts : List T} {cs : List Sl → G (List T)} {F : List T → G T} {f : T → T → G T}
end
/-! lists of data -/
theorem ROs.uncons {n m : Nat} {t : T} {ts : List T} {ds : List PyData} (h : ROs n m (t :: ts) ds) : ∃ d ds' k k', ds = d :: ds' ∧ RO n k t d ∧ ROs n k' ts ds' ∧ k + 2 + k' = m := by
  have hp := h.py
  simp only [toPys, Option.bind_eq_some_iff, Option.map_eq_some_iff] at hp
  obtain ⟨d, e1, ds', e2, rfl⟩ := hp
  have h1 := h.sh; have h2 := h.ly; have h3 := h.dp; have h4 := h.ln
  simp only [PyData.showableAll, PyData.canLayAll0, Bool.and_eq_true, PyData.depthAll, PyData.shownAll, piled_cons] at h1 h2 h3 h4
  exact ⟨d, ds', d.shown.length, m - (d.shown.length + 2), rfl, ⟨e1, h1.1, h2.1, (Nat.max_le.mp h3).1, Nat.le_refl _⟩, ⟨e2, h1.2, h2.2, (Nat.max_le.mp h3).2, by omega⟩, by omega⟩
theorem ROs.set {n k : Nat} {t : T} {d : PyData} (g : RO n k t d) : ∀ {ts : List T} {ds : List PyData} (i : Nat) {m : Nat}, ROs n m ts ds → ROs n (m + k + 2) (ts.set i t) (ds.set i d)
  | [], ds, i, m, h => by
    have := h.py
    simp only [toPys, Option.some.injEq] at this
    subst this
    exact h.mono (Nat.le_refl _) (by omega)
  | u :: ts, ds, i, m, h => by
    obtain ⟨e, ds', k1, k2, rfl, qu, q, hm⟩ := h.uncons
    cases i with
    | zero => exact (ROs.cons g q).mono (Nat.le_refl _) (by omega)
    | succ i => exact (ROs.cons qu (ROs.set g i q)).mono (Nat.le_refl _) (by omega)
theorem ROs.get {n : Nat} : ∀ {ts : List T} {ds : List PyData} {m : Nat} (i : Nat) {t : T}, ROs n m ts ds → ts[i]? = some t → ∃ d k, ds[i]? = some d ∧ RO n k t d
  | [], _, _, _, _, _, e => by simp at e
  | u :: ts, ds, m, i, t, h, e => by
    obtain ⟨e', ds', k1, k2, rfl, qu, q, hm⟩ := h.uncons
    cases i with
    | zero => simp at e; subst e; exact ⟨e', k1, rfl, qu⟩
    | succ i => exact ROs.get i q (by simpa using e)
end TL
end s_TL49
section s_TL50
set_option Elab.async false
set_option linter.all false
set_option maxRecDepth 100000
set_option maxHeartbeats 4000000
/-! TL50: a < b < c, whole numbers of the module, is True, tuples and lists turned round -/
namespace TL
open PySem PySem.Spec PyProof.Rows L2
section
variable {X : Cx} {w : Wd} {E : XK} {a b c e : Expr} {pos : Pos} {ca cb cc : EC}
def cChain (f g : Int → Int → Bool) (ca cb cc : EC) : EC := fun r => ca r >>= fun a => cb r >>= fun b => match a, b with
  | .int i, .int j => if f i j then (cc r >>= fun c => match c with | .int k => .ret (.bl (g j k)) | _ => .stuck) else .ret (.bl false)
  | _, _ => .stuck
/-- x is True, x is not True (bools) -/
def fIsBl (neg : Bool) : T → T → G T
  | .bl a, .bl b => .ret (.bl (neg != decide (a = b)))
  | _, _ => .stuck
end
end TL
end s_TL50
section s_TL51
set_option Elab.async false
set_option linter.all false
set_option maxRecDepth 100000
set_option maxHeartbeats 4000000
/-! TL51: t[::-1], xs[::-1] -/
namespace HT
open PySem PySem.Spec PyProof.Rows L2
section
variable {prog : Program} {w : World} {A : Around} {E : Value → Shared → Prop} {s : Shared}
end
end HT
namespace TL
open PySem PySem.Spec PyProof.Rows L2
section
variable {X : Cx} {w : Wd} {E : XK} {e k : Expr} {p2 pos : Pos} {ca : EC} {te tk : TE}
def tRev (K : PySem.W.Frag) (te tk : TE) : TE := fun σ H Q => te σ H fun x H1 => tk σ H1 fun i H2 => i = .int (-1) ∧ ∃ a xs, x = .ref a ∧
  ((SqT K H2 a xs ∧ ∀ p, H2 p = none → Q (.ref p) (upd H2 p (.tup xs.reverse))) ∨ (SqL K H2 a xs ∧ ∀ p, H2 p = none → Q (.ref p) (upd H2 p (.lst xs.reverse))))
def fRev : T → G T
  | .tup ts => .ret (.tup ts.reverse)
  | .lst ts => .ret (.lst ts.reverse)
  | _ => .stuck
end
end TL
end s_TL51
section s_TL52
set_option Elab.async false
set_option linter.all false
set_option maxRecDepth 100000
set_option maxHeartbeats 4000000
/-! TL52: defs called with defaults and keywords -/
namespace TL
open PySem PySem.Spec PyProof.Rows L2
theorem pickL_length {α : Type} {l : List α} : ∀ {perm : List Nat}, (∀ i ∈ perm, i < l.length) → (pickL perm l).length = perm.length
  | [], _ => rfl
  | i :: r, q => by
    unfold pickL
    rw [List.filterMap_cons, List.getElem?_eq_getElem (q i (by simp))]
    exact congrArg Nat.succ (pickL_length (l := l) (perm := r) fun j hj => q j (by simp [hj]))
structure CallS (P : Program) (wd : World) (K : PySem.W.Frag) (mg : Str → Option Value) (base : Heap) (k : Nat) (x : Str) (n : Nat) (ks : List Str) (perm : List Nat) (dts : List T) (m : Nat) (F : List T → G T) : Prop where
  ex : ∃ f fd ps dvs ds, mg x = some (.ref f) ∧ PySem.W.keepIn K (.ref f) = true ∧ Vals dvs ds ∧ (∀ (w : Wd) Z, Trs K mg w Z dts dvs) ∧ ps.length = m ∧
    (∀ (s : Shared) (us ws : List Value), K.In s.heap → us.length = n → ws.length = ks.length → BindsTo s fd ⟨us, ks.zip ws⟩ (ps.zip (pickL perm (us ++ ws ++ ds)))) ∧ FnG P wd K mg base k f fd ps (SpT (P, wd) K mg m F)
  len : perm.length = m
  low : ∀ i ∈ perm, i < n + ks.length + dts.length
theorem SpT.pick {pw : Program × World} {K : PySem.W.Frag} {mg : Str → Option Value} {n m : Nat} {perm : List Nat} {dts : List T} {dvs : List V} {F : List T → G T} {vs : List V} {H : Hp} {Q : VK} {E : XK} (h : SpT pw K mg n (fun ts => F (pickL perm (ts ++ dts))) vs H Q E)
    (hd : ∀ (w : Wd) Z, Trs K mg w Z dts dvs) (hp : perm.length = m) (hl : ∀ i ∈ perm, i < n + dts.length) : SpT pw K mg m F (pickL perm (vs ++ dvs)) H Q E := by
  obtain ⟨w, ts, Z, hwo, hn, g, tr, q⟩ := h
  refine ⟨w, pickL perm (ts ++ dts), Z, hwo, ?_, g, pick_trs (tr.append (hd w Z)) perm, q⟩
  rw [pickL_length, hp]
  intro i hi
  have := hl i hi
  rw [List.length_append, hn, ← (hd w Z).length]
  exact this
section
variable {X : Cx} {w : Wd} {E : XK} {j k n m : Nat} {x : Str} {p pos : Pos} {e : Expr} {es : List Expr} {kws : List Keyword} {cs ck : List Sl → G (List T)} {F : List T → G T} {ks : List Str} {perm : List Nat} {dts : List T}
def cApp (cs ck : List Sl → G (List T)) : List Sl → G (List T) := fun r => cs r >>= fun a => ck r >>= fun b => .ret (a ++ b)
end
end TL
end s_TL52
section s_TL53
set_option Elab.async false
set_option linter.all false
set_option maxRecDepth 100000
set_option maxHeartbeats 4000000
/-! TL53: from a def's body to CallS -/
namespace TL
open PySem PySem.Spec PyProof.Rows L2
/-- a def as it stands, whatever its defaults -/
def FunA (K : PySem.W.Frag) (x qual : Str) (st : Stmt) (f : Addr) (fd : FuncData) : Prop := ∃ (oc : Value) (od : Option Addr) (dV kV doc pm : Value) (an : Option Addr) (cdv ct : Value) (osl : Array (Option Value)),
  fd = PySem.W.fnOf x qual (defArgs st) (defBody st) (defScope st) dV kV doc pm an cdv ct ∧ K.lookup f = some ⟨oc, od, .func fd, osl⟩ ∧ PySem.W.codeIn K cdv qual = true
section
variable {P : Program} {wd : World} {K : PySem.W.Frag} {mg : Str → Option Value} {base : Heap} {k : Nat} {f : Addr} {fd : FuncData} {ps N : List Str} {x qual : Str} {st : Stmt} {sp : Sp} {c : SC}
/-- a def that stands and binds: n positional values, keywords ks, the defaults dts behind them, put in order by perm -/
structure FunAtS (K : PySem.W.Frag) (mg : Str → Option Value) (x qual : Str) (st : Stmt) (ps : List Str) (n : Nat) (ks : List Str) (perm : List Nat) (dts : List T) : Prop where
  ex : ∃ f fd dvs ds, mg x = some (.ref f) ∧ PySem.W.keepIn K (.ref f) = true ∧ FunA K x qual st f fd ∧ Vals dvs ds ∧ (∀ (w : Wd) Z, Trs K mg w Z dts dvs) ∧
    ∀ (s : Shared) (us ws : List Value), K.In s.heap → us.length = n → ws.length = ks.length → BindsTo s fd ⟨us, ks.zip ws⟩ (ps.zip (pickL perm (us ++ ws ++ ds)))
end
section
variable {K : PySem.W.Frag} {h : Heap} {mg : Str → Option Value} {x qual : Str} {st : Stmt} {ps ks : List Str} {perm : List Nat} {dts : List T} {n : Nat} {f Td : Addr} {oc kV doc pm cdv ct : Value} {od an od2 : Option Addr} {osl sl2 : Array (Option Value)} {its : Array Value} {m : Nat}
/-- keywords, no defaults -/
def BindsS (x qual : Str) (st : Stmt) (ps : List Str) (n : Nat) (ks : List Str) (perm : List Nat) : Prop := ∀ (kV doc pm : Value) (an : Option Addr) (cdv ct : Value) (us ws : List Value), us.length = n → ws.length = ks.length →
  bindArgs (PySem.W.fnOf x qual (defArgs st) (defBody st) (defScope st) .none kV doc pm an cdv ct) ⟨us, ks.zip ws⟩ = pure (ps.zip (pickL perm (us ++ ws)))
/-- defaults -/
def BindsD (x qual : Str) (st : Stmt) (ps : List Str) (n : Nat) (ks : List Str) (perm : List Nat) (nd : Nat) : Prop := ∀ (T : Addr) (kV doc pm : Value) (an : Option Addr) (cdv ct : Value) (us ws its : List Value), us.length = n → ws.length = ks.length → its.length = nd →
  ∃ k, bindArgs (PySem.W.fnOf x qual (defArgs st) (defBody st) (defScope st) (.ref T) kV doc pm an cdv ct) ⟨us, ks.zip ws⟩ = seqItems? (.ref T) >>= k ∧ k (some its.toArray) = pure (ps.zip (pickL perm (us ++ ws ++ its)))
end
end TL
end s_TL53
section s_TL54
set_option Elab.async false
set_option linter.all false
set_option maxRecDepth 100000
set_option maxHeartbeats 4000000
/-! TL54: expressions that change a slot's own thing: l.pop(e), l.pop(); x = .., l.append(..) of such -/
namespace TL
open PySem PySem.Spec PyProof.Rows L2
abbrev MC := List Sl → G (T × List Sl)
section
variable (X : Km) (w : Wd) (E : XK)
def PostY (H0 Z0 Z : Hp) (σ : L2.St) (Q : VK) : T × List Sl → Prop := fun q => ∀ v H' Z' o', EnvR X.km w H0 Z0 q.2 σ H' Z' o' → Sub Z Z' → Tr X.K X.mg w Z' q.1 v → Q v H'
def EvY (c : MC) : TE := fun σ H Q => ∃ H0 Z0 r Z o, EnvR X.km w H0 Z0 r σ H Z o ∧ (c r).wp (PostY X.km w H0 Z0 Z σ Q) (PostX X.km w E H0 Z0)
end
structure CY (X : Cx) (w : Wd) (E : XK) (e : Expr) (c : MC) : Prop where
  pe : PE X e (EvY X.km w E c)
section
variable {X : Cx} {w : Wd} {E : XK} {fr : Bool} {H0 Z0 H Z Z1 : Hp} {r : List Sl} {σ : L2.St} {o : Nat → List Addr} {D : Ends} {pos apos cpos p0 : Pos} {e : Expr} {cs : List Sl → G (List T)} {ca : EC} {c : MC} {Q : VK}
theorem PostY.weak {q : T × List Sl} (s : Sub Z Z1) (h : PostY X.km w H0 Z0 Z σ Q q) : PostY X.km w H0 Z0 Z1 σ Q q := fun v H' Z' o' R s' t => h v H' Z' o' R (s.trans s') t
def popK (ts : List T) (r : List Sl) (i : Nat) : List T → G (T × List Sl)
  | [.int j] => (match ixN ts.length j with
    | some m => (match ts[m]? with | some t => .ret (t, r.set i (.ow (.lst (ts.eraseIdx m)))) | none => .stuck)
    | none => .stuck)
  | _ => .stuck
def cPopAt (i : Nat) (cs : List Sl → G (List T)) : MC := fun r => match r[i]? with
  | some (.ow (.lst ts)) => cs r >>= popK ts r i
  | _ => .stuck
def cPopL (i : Nat) : MC := fun r => match r[i]? with
  | some (.ow (.lst ts)) => (match ts[ts.length - 1]? with | some t => .ret (t, r.set i (.ow (.lst ts.dropLast))) | none => .stuck)
  | _ => .stuck
/-- x = e, e such an expression -/
def cSetY (i : Nat) (c : MC) : SC := fun r => c r >>= fun q => .ret (.nx (q.2.set i (.fz q.1)))
/-- l.append(e), e such an expression -/
def cAppY (i : Nat) (c : MC) : SC := fun r => match r[i]? with
  | some (.ow (.lst _)) => c r >>= fun q => (match q.2[i]? with
    | some (.ow (.lst ts)) => if fits (ts.length + 1) then .ret (.nx (q.2.set i (.ow (.lst (ts ++ [q.1]))))) else .stuck
    | _ => .stuck)
  | _ => .stuck
end
end TL
end s_TL54
section s_TL55
set_option Elab.async false
set_option linter.all false
set_option maxRecDepth 100000
set_option maxHeartbeats 4000000
/-! TL55: dict comprehensions, sep.join(xs) -/
namespace TL
open PySem PySem.Spec PyProof.Rows L2
def dcompG (g : GC) (tt : List Sl → G Bool) (tk tv : EC) : List T → List Sl → List (T × T) → G (List (T × T))
  | [], _, acc => .ret acc
  | t :: ts, r, acc => (g t r).nox >>= fun r1 => (tt r1).nox >>= fun b => if b then ((tk r1).nox >>= fun k => (tv r1).nox >>= fun v => if (keyT k).isSome then dcompG g tt tk tv ts r (putT acc k v) else .stuck) else dcompG g tt tk tv ts r acc
def cDComp (ci : List Sl → G (List T)) (g : GC) (tt : List Sl → G Bool) (tk tv : EC) (vs : List Nat) : EC := fun r => ci r >>= fun ts => dcompG g tt tk tv ts (wipeR r vs) [] >>= fun kts => .ret (.dic kts)
section
variable {X : Cx} {w : Wd} {E : XK} {fr : Bool} {tg iter kx vx : Expr} {ifs : List Expr} {pos : Pos} {tk tv : EC} {ci : List Sl → G (List T)} {g : GC} {S : List Nat} {tt : List Sl → G Bool}
variable {H0 Z0 H Z Z1 : Hp} {r : List Sl} {σ σ' : L2.St} {o : Nat → List Addr}
end
end TL
end s_TL55
section s_TL56
set_option Elab.async false
set_option linter.all false
set_option maxRecDepth 100000
set_option maxHeartbeats 4000000
/-! TL56: sep.join(xs) -/
namespace TL
open PySem PySem.Spec PyProof.Rows L2
def strsT : List T → Option (List Str)
  | [] => some []
  | .str x :: ts => (strsT ts).map (x :: ·)
  | _ :: _ => none
def joinK (a : Str) (ts : List T) : G T := match strsT ts with
  | some ys => if decide ((ys.map (·.length)).sum + ys.length * a.length ≤ 16777216) then .ret (.str (Txt.join a ys)) else .stuck
  | none => .stuck
def fJoin : T → T → G T
  | .str a, .lst ts => joinK a ts
  | .str a, .tup ts => joinK a ts
  | _, _ => .stuck
def cJoin (co ca : EC) : EC := fun r => co r >>= fun a => match a with
  | .str x => ca r >>= fun b => fJoin (.str x) b
  | _ => .stuck
section
variable {X : Cx} {w : Wd} {E : XK} {o e : Expr} {apos pos : Pos} {ca co : EC} {K : PySem.W.Frag} {mg : Str → Option Value} {Z : Hp}
end
end TL
end s_TL56
section s_TL57
set_option Elab.async false
set_option linter.all false
set_option maxRecDepth 100000
set_option maxHeartbeats 4000000
/-! TL57: a call that gives a pair with a list of its own; x[1].append(..) -/
namespace TL
open PySem PySem.Spec PyProof.Rows L2
mutual
def noLst : T → Bool
  | .lst _ => false
  | .dn _ => false
  | .scr _ => false
  | .exc _ _ => false
  | .clo _ => false
  | .tup ts => noLsts ts
  | .dic kts => noLstd kts
  | .ins _ fs => noLstf fs
  | _ => true
def noLsts : List T → Bool
  | [] => true
  | t :: ts => noLst t && noLsts ts
def noLstd : List (T × T) → Bool
  | [] => true
  | (_, t) :: ts => noLst t && noLstd ts
def noLstf : List (Str × T) → Bool
  | [] => true
  | (_, t) :: ts => noLst t && noLstf ts
end
/-- what is frozen, the lists left out -/
def Zn (Z : Hp) : Hp := fun a => match Z a with
  | some (.lst _) => none
  | o => o
theorem Zn.sub (Z : Hp) : Sub (Zn Z) Z := fun a o e => by
  unfold Zn at e
  split at e
  · cases e
  · exact e
theorem Zn.keep {Z : Hp} {a : Addr} {o : HO} (e : Z a = some o) (h : ∀ vs, o ≠ .lst vs) : Zn Z a = some o := by
  unfold Zn
  split
  · rename_i vs q
    rw [e] at q
    exact absurd (Option.some.inj q) (h vs)
  · exact e
theorem Zn.lst {Z : Hp} {a : Addr} {vs : List V} : Zn Z a ≠ some (.lst vs) := fun e => by
  unfold Zn at e
  split at e
  · cases e
  · rename_i h
    exact h vs e
section
variable {K : PySem.W.Frag} {mg : Str → Option Value} {w : Wd}
theorem Zn.wi {H Z : Hp} (i : w.WI H Z) : w.WI H (Zn Z) := ⟨i.1, fun p hp => by
  obtain ⟨ps, h1, h2, h3⟩ := i.2 p hp
  refine ⟨ps, h1, h2, fun pos cv hc => ?_⟩
  obtain ⟨c, e1, e2⟩ := h3 pos cv hc
  exact ⟨c, e1, Zn.keep e2 fun vs z => by unfold LamX.CodeO at z; cases z⟩⟩
theorem Zn.sqT {Z : Hp} {p : Addr} {vs : List V} (h : SqT K Z p vs) : SqT K (Zn Z) p vs := h.elim (fun h => .inl (h.elim (fun e => .inl (Zn.keep e fun _ z => by cases z)) fun ⟨o, e⟩ => .inr ⟨o, Zn.keep e fun _ z => by cases z⟩)) .inr
mutual
theorem Tr.zn {Z : Hp} : ∀ {t : T} {v : V}, Tr K mg w Z t v → noLst t = true → Tr K mg w (Zn Z) t v
  | _, _, .non, _ => .non
  | _, _, .bl b, _ => .bl b
  | _, _, .int i, _ => .int i
  | _, _, .str x, _ => .str x
  | _, _, .ty n, _ => .ty n
  | _, _, .tup h l r, e => .tup (Zn.sqT h) l (Trs.zn r (by simpa only [noLst] using e))
  | _, _, .lst h l r, e => by simp only [noLst, Bool.false_eq_true] at e
  | _, _, .dic h l r, e => .dic (let ⟨o, q⟩ := h; ⟨o, Zn.keep q fun _ z => by cases z⟩) l (Trd.zn r (by simpa only [noLst] using e))
  | _, _, .dn h l n r, e => by simp only [noLst, Bool.false_eq_true] at e
  | _, _, .ins a h d r, e => .ins a (Zn.keep h fun _ z => by cases z) (Zn.keep d fun _ z => by cases z) (Trf.zn r (by simpa only [noLst] using e))
  | _, _, .adr a, _ => .adr a
  | _, _, .fn h, _ => .fn h
  | _, _, .drw h, _ => .drw h
  | _, _, .scr h l, e => by simp only [noLst, Bool.false_eq_true] at e
theorem Trs.zn {Z : Hp} : ∀ {ts : List T} {vs : List V}, Trs K mg w Z ts vs → noLsts ts = true → Trs K mg w (Zn Z) ts vs
  | _, _, .nil, _ => .nil
  | _, _, .cons a b, e => by
    simp only [noLsts, Bool.and_eq_true] at e
    exact .cons (Tr.zn a e.1) (Trs.zn b e.2)
theorem Trd.zn {Z : Hp} : ∀ {ts : List (T × T)} {vs : List (Key × V)}, Trd K mg w Z ts vs → noLstd ts = true → Trd K mg w (Zn Z) ts vs
  | _, _, .nil, _ => .nil
  | _, _, .cons k a b, e => by
    simp only [noLstd, Bool.and_eq_true] at e
    exact .cons k (Tr.zn a e.1) (Trd.zn b e.2)
theorem Trf.zn {Z : Hp} : ∀ {ts : List (Str × T)} {vs : List (Str × V)}, Trf K mg w Z ts vs → noLstf ts = true → Trf K mg w (Zn Z) ts vs
  | _, _, .nil, _ => .nil
  | _, _, .cons a b, e => by
    simp only [noLstf, Bool.and_eq_true] at e
    exact .cons (Tr.zn a e.1) (Trf.zn b e.2)
end
end
def pairT : T → G T
  | .tup [a, .lst bs] => if noLst a && noLsts bs then .ret (.tup [a, .lst bs]) else .stuck
  | _ => .stuck
def cCallP (F : List T → G T) (cs : List Sl → G (List T)) : EC := fun r => cs r >>= fun ts => if noLsts ts then (F ts).nox >>= pairT else .stuck
section
variable {X : Cx} {w : Wd} {E : XK} {fr : Bool} {H0 Z0 H Z H1 Z1 H' Z' : Hp} {r : List Sl} {σ : L2.St} {o : Nat → List Addr} {D : Ends} {j k n : Nat} {x : Str} {p pos : Pos} {e : Expr} {es : List Expr} {cs : List Sl → G (List T)} {F : List T → G T}
/-- x[1].append(e): x isn't looked at any more -/
def cAppUn (i : Nat) (cs : List Sl → G (List T)) : SC := fun r => match r[i]? with
  | some (.ow (.tup [_, .lst bs])) => cs r >>= fun ts => if ts.length = 1 ∧ fits (bs.length + 1) = true then .ret (.nx (r.set i .un)) else .stuck
  | _ => .stuck
theorem EnvR.drop (R : EnvR X.km w H0 Z0 r σ H Z o) {i : Nat} {q : Addr} {u : HO} (hi : i < r.length) (hq : q ∈ o i) : EnvR X.km w H0 Z0 (r.set i .un) σ (upd H q u) Z (fun j => if j = i then [] else o j) := by
  obtain ⟨h0, hz, hw⟩ := R.fr i q hq
  refine ⟨R.gr.beside h0 hz hw, by rw [List.length_set]; exact R.len, fun j s x h1 h2 => ?_, fun j hj => ?_, fun j k a h1 h2 => ?_, fun j a ha => ?_, R.wo⟩
  · by_cases e : j = i
    · subst e
      rw [List.getElem?_set_self hi] at h1
      cases h1
      exact if_pos rfl
    · rw [List.getElem?_set_ne (Ne.symm e)] at h1
      simp only [if_neg e]
      exact (R.sl j s x h1 h2).move (Sub.refl _) fun b hb v z => by
        have ne : b ≠ q := fun y => e (R.dis j i q (y ▸ hb) hq)
        rw [upd_ne ne]; exact z
  · by_cases e : j = i
    · simp [e]
    · simp only [if_neg e]; exact R.out j (by rw [List.length_set] at hj; exact hj)
  · by_cases e1 : j = i
    · simp [e1] at h1
    · by_cases e2 : k = i
      · simp [e2] at h2
      · simp only [if_neg e1] at h1; simp only [if_neg e2] at h2; exact R.dis j k a h1 h2
  · by_cases e1 : j = i
    · simp [e1] at ha
    · simp only [if_neg e1] at ha; exact R.fr j a ha
end
end TL
end s_TL57
section s_TL58
set_option Elab.async false
set_option linter.all false
set_option maxRecDepth 100000
set_option maxHeartbeats 4000000
/-! TL58: is not True, .. -/
namespace TL
open PySem PySem.Spec PyProof.Rows L2
section
variable {X : Cx} {w : Wd} {E : XK}
end
end TL
end s_TL58
section s_TL59
set_option Elab.async false
set_option linter.all false
set_option maxRecDepth 100000
set_option maxHeartbeats 4000000
/-! TL59: tests that look at an own thing in passing; a, b = e, f where a name is a cell -/
namespace TL
open PySem PySem.Spec PyProof.Rows L2
section
variable {X : Cx} {w : Wd} {E : XK} {fr : Bool} {e a b c : Expr} {pos : Pos} {l : List (Bool × EC)} {tb : List Sl → G Bool}
theorem pt_fz {t : TT} (h : PT X e t) : PT X e (fun σ H Q => t σ H Q ∨ ∃ d u, H d = some u ∧ Mut (some u) ∧ ∀ od, t σ (upd H d (.frz od u)) fun v H' => H' d = some (.frz od u) ∧ Q v (upd H' d u)) := by
  refine ⟨fun pins s σ H Q I hw => ?_⟩
  rcases hw with q | ⟨d, u, hd, mu, hw⟩
  · exact h.run pins s σ H Q I q
  · obtain ⟨od, I1⟩ := I.lock hd mu
    refine thn (h.run pins s σ _ _ I1 (hw od)) fun v s1 ⟨H1, I2, e2, q⟩ => ?_
    exact ⟨_, I2.unlock e2 (I.nofrz hd mu), q⟩
def cPkT (i : Nat) (c : List Sl → G Bool) : List Sl → G Bool := fun r => c (frzS i r)
theorem CT.pk0 (htb : w.tb = []) (i : Nat) (h : CT X w E e tb) : CT X w E e (cPkT i tb) := by
  refine ⟨ptImp (pt_fz h.pt) fun σ H Q hh => ?_⟩
  obtain ⟨H0, Z0, r, Z, o, R, hw⟩ := hh
  rcases R.frz i with ⟨Z', o', R', sb, hW⟩ | ⟨d, u, hd, mu, P⟩
  · refine .inl ⟨H0, Z0, _, Z', o', R', G.wp_mono hw (fun t ht H2 Z2 g => ?_) fun _ x => x⟩
    exact ht H2 Z ⟨⟨fun a q e => g.good.zh _ _ (g.zz _ _ (sb _ _ e)), R.good.zw, (w.wi0 htb g.good.wi)⟩, Sub.refl _, fun _ _ q => .inl q, g.hh⟩
  · refine .inr ⟨d, u, hd, mu, fun od => ?_⟩
    obtain ⟨Z', o', R', sb, hW⟩ := P od
    have hdw : d ∉ w.W := fun hm => by
      have e := hW d hm
      rw [upd_same, hd] at e
      exact absurd (Option.some.inj e) (mut_frz mu)
    have hdz : Z d = none := by
      cases e : Z d with
      | none => rfl
      | some q =>
        have e1 := R.good.zh _ _ e
        have e2 := R'.good.zh _ _ (sb _ _ e)
        rw [hd] at e1; cases e1
        rw [upd_same] at e2
        exact absurd (Option.some.inj e2) (mut_frz mu)
    refine ⟨H0, Z0, _, Z', o', R', G.wp_mono hw (fun t ht H2 Z2 g => ?_) fun _ x => x⟩
    refine ⟨g.hh d _ upd_same hdw, ht _ Z ⟨⟨fun a q e => ?_, R.good.zw, w.loc (fun a ha => upd_ne fun z => hdw (z ▸ ha)) (Sub.refl _) (w.wi0 htb g.good.wi)⟩, Sub.refl _, fun _ _ q => .inl q, fun a q e hb => ?_⟩⟩
    · have ne : a ≠ d := fun z => by rw [z, hdz] at e; cases e
      rw [upd_ne ne]; exact g.good.zh _ _ (g.zz _ _ (sb _ _ e))
    · by_cases ne : a = d
      · subst ne; rw [hd] at e; cases e; exact upd_same
      · rw [upd_ne ne]; exact g.hh a q (by rw [upd_ne ne]; exact e) hb
/-! a, b = e, f: not swapped (a name is a cell) -/
theorem CT.pk (i : Nat) (h : CT X w.nt E e tb) : CT X w E e (cPkT i tb) := CT.nt (CT.pk0 rfl i h)
end
end TL
end s_TL59
section s_TL60
set_option Elab.async false
set_option linter.all false
set_option maxRecDepth 100000
set_option maxHeartbeats 4000000
/-! TL60: a module's int or text, from the top's facts -/
namespace TL
open PySem PySem.Spec PyProof.Rows L2
section
variable {K : PySem.W.Frag} {h : Heap} {mg : Str → Option Value} {x s : Str} {i : Int} {v : Value} {t : Tok}
end
end TL
end s_TL60
section s_TL61
set_option Elab.async false
set_option linter.all false
set_option maxRecDepth 100000
set_option maxHeartbeats 4000000
/-! TL61: enumerate of a list or a tuple -/
namespace TL
open PySem PySem.Spec PyProof.Rows L2
section
variable {prog : Program} {w : World} {A : Around} {E : Value → Shared → Prop} {s : Shared} {a : Addr} {xs : Array Value} {oa : Obj} {sa : Addr → Nat → Heap → Prop} {fa : Heap → Prop}
set_option maxHeartbeats 8000000 in
theorem meets_enumG (Ra : Raw1 prog w a xs oa sa fa) :
    MeetsIn prog w (Builtin.«enumerate.__new__» ⟨[.type "enumerate", .ref a], []⟩) (fun _ R s => fa s.heap ∧ R (.ok (.ret (.ref (s.heap.push oa).objs.size)))
      { s with heap := (s.heap.push oa).push { cls := .type "enumerate", data := .fields #[.none, .bool false, .ref s.heap.objs.size, rawInt 0, .none, .none] } }) :=
  .of_wp fun A R s h => by
    obtain ⟨hp, g, d, tk, os⟩ := s; obtain ⟨hl, h⟩ := h
    have hsub := sub_enumerate
    have q1 : ∀ {A' : Around} {E : Value → Shared → Prop} {Q : Value → Shared → Prop}, Q (.ref hp.objs.size) ⟨hp.push oa, g, d, tk, os⟩ → wpAny (model prog w) A' (pyIter (.ref a)) Q E ⟨hp, g, d, tk, os⟩ :=
      fun q => Ra.iter _ _ ⟨hp, g, d, tk, os⟩ _ hl q
    wp_walk using q1
    refine wpAny_stack_any fun st => wpAny_pure ?_
    split
    · rename_i c _ _ _ _ _
      cases (c == Value.type "enumerate")
      · wp_walk using q1
        exact ⟨_, rfl, h⟩
      · wp_walk using q1
        exact ⟨_, rfl, h⟩
    · wp_walk using q1
      exact ⟨_, rfl, h⟩
theorem call_enumG (Ra : Raw1 prog w a xs oa sa fa) {Q : Value → Shared → Prop} (ha : fa s.heap)
    (h : ∀ h', IsEnum h' (s.heap.objs.size + 1) s.heap.objs.size 0 .none → sa s.heap.objs.size 0 h' → h'.objs.size = s.heap.objs.size + 2 →
      (∀ c o, s.heap.get? c = some o → h'.get? c = some o) → Q (.ref (s.heap.objs.size + 1)) { s with heap := h' }) :
    wpAny (model prog w) A (call (.type "enumerate") [.ref a]) Q E s := by
  refine callType_newIn F.called_enumerate (by decide) (F.typeCall_enumerate_1 _) (F.newCall_enumerate_1 _) (fun obj => F.args_object_init_2 obj _) F.entry_enumerate_new (meets_enumG Ra) ⟨ha, ?_⟩
  have hz : (s.heap.push oa).objs.size = s.heap.objs.size + 1 := Heap.size_push ..
  show _ ∧ _
  rw [hz]
  have he : IsEnum ((s.heap.push oa).push { cls := .type "enumerate", data := .fields #[.none, .bool false, .ref s.heap.objs.size, rawInt 0, .none, .none] }) (s.heap.objs.size + 1) s.heap.objs.size 0 .none := by
    have := Heap.get?_push_size (s.heap.push oa) (o := { cls := .type "enumerate", data := .fields #[.none, .bool false, .ref s.heap.objs.size, rawInt 0, .none, .none] }) rfl
    rw [hz] at this; exact this
  refine ⟨⟨_, he, rfl⟩, h _ he (Ra.keep _ _ _ _ (Ra.st0 s.heap) fun o e => Heap.get?_push_of_some _ e) (by rw [Heap.size_push, hz]) fun c o x => Heap.get?_push_of_some _ (Heap.get?_push_of_some _ x)⟩
end
section
variable {P : Program} {wd : World} {K : PySem.W.Frag} {a : Addr} {xs : List V} {oa : Obj} {sa : Addr → Nat → Heap → Prop} {pa : Hp → Prop}
/-- each item in a new pair with its place -/
def ItE (pa : Hp → Prop) (xs : List V) : It :=
  ⟨fun i H => pa H ∧ i < xs.length,
    fun i H v H' => ∃ T x, v = .ref T ∧ H T = none ∧ H' = upd H T (.tup [.int (i : Nat), x]) ∧ xs[i]? = some x,
    fun i H => pa H ∧ i = xs.length⟩
theorem turn_enumG (Sa : Sr P wd K a xs oa sa pa) {elts : List Expr} {kk : Nat} {tpos : Pos} {I0 : Nat} (la : a < I0)
    (ka : ∀ it i h h', sa it i h → (∀ o, h.get? it = some o → h'.get? it = some o) → sa it i h')
    (oka : ∀ it i h, sa it i h → ∃ o, h.get? it = some o ∧ ∀ v, o.data ≠ .cell v) :
    Turn P wd K (.Tuple elts kk tpos) (ItE pa xs) [I0 + 1, I0] (I0 + 1)
      (fun i h => (∃ old, IsEnum h (I0 + 1) I0 ((i : Nat) : Int) old) ∧ sa I0 i h) where
  mem := by simp
  obj := fun i h st c hc => by
    obtain ⟨⟨old, he⟩, h1⟩ := st
    have e' : c = I0 + 1 ∨ c = I0 := by simpa using hc
    rcases e' with q | q
    · rw [q]; exact ⟨_, he, fun v q => nomatch q⟩
    · rw [q]; exact oka _ _ _ h1
  keep := fun i h h' st k => by
    obtain ⟨⟨old, he⟩, h1⟩ := st
    exact ⟨⟨old, k _ (by simp) _ he⟩, ka _ _ _ _ h1 fun o q => k _ (by simp) o q⟩
  item := by
    intro X hP hw hK hc i pins s σ H E I hf st hg
    subst hP hw hK
    obtain ⟨⟨old, he⟩, h1⟩ := st
    obtain ⟨ha, hx⟩ := hg
    obtain ⟨its, f1, R1, p1, rv⟩ := Sa.ex X rfl rfl rfl pins σ H s I ha
    obtain ⟨u, hu, ru⟩ := rv.get (List.getElem?_eq_getElem hx)
    have l1 := rv.length
    have hel : I0 + 1 < s.heap.objs.size := Heap.lt_size he
    have hd1 : X.A.in1.handled = none := I.ok.hd hc
    refine wpAny_pyNext_enum_itemD (R1.draws X.A.in1 I0 hd1 (Nat.ne_of_lt la)) he ⟨h1, p1⟩ (by simp; omega) (Nat.succ_ne_self I0) (by simp only [List.mem_cons, List.not_mem_nil, or_false, not_or]; exact ⟨Nat.succ_ne_self I0, Nat.ne_of_gt (Nat.lt_succ_of_lt la)⟩) fun x h' tk y1 ho hs' hT hsz hk => ?_
    have e1 : x = u := by
      have q : its.toArray[i]? = some u := by simpa using hu
      rw [q] at y1; cases y1; rfl
    subst e1
    refine ⟨_, rfl, wpAny_letOwnedTupleGo_enum (s := { s with heap := h', toks := tk + 1 }) ho fun h'' he' sb => ?_⟩
    have hT2 : h''.get? s.heap.objs.size = some { cls := .type "tuple", data := .seq #[.int i tk, x] } := (sb.2 _ (Nat.ne_of_gt hel)).trans hT
    have new : ObjOk X.prog X.w (upd H s.heap.objs.size (.tup [.int (i : Nat), xs[i]])) h'' s.heap.objs.size (.tup [.int (i : Nat), xs[i]]) :=
      ⟨by show 2 ≤ sizeLine; decide, [.int i tk, x], .cons ⟨_, rfl⟩ (.cons ru .nil), ⟨_, hT2, rfl, _, rfl⟩⟩
    have I1 : Inv X pins σ (upd H s.heap.objs.size (.tup [.int (i : Nat), xs[i]])) { s with heap := h'', toks := tk + 1 } :=
      I.turnedNew (t' := tk + 1) (ch := [I0 + 1, I0]) (fun c o hb q => (sb.2 c (fun q' => hb (by simp [q']))).trans (hk c o (fun q' => hb (by simp [q'])) (fun q' => hb (by simp [q'])) q)) hf (Nat.le_refl _) new
    refine ⟨.ref s.heap.objs.size, _, I1, rfl, ⟨_, xs[i], rfl, I.hok.fresh (Nat.le_refl _), rfl, List.getElem?_eq_getElem hx⟩, ⟨⟨x, ?_⟩, ?_⟩, fun c hcm => ?_⟩
    · have e1 : ((i + 1 : Nat) : Int) = (i : Int) + 1 := by omega
      rw [e1]; exact he'
    · exact ka _ _ _ _ hs'.1 fun o q => (sb.2 _ (by refine neA ?_; omega)).trans q
    · have hlt : c < s.heap.objs.size := by
        have e' : c = I0 + 1 ∨ c = I0 := by simpa using hcm
        rcases e' with q | q <;> (rw [q]; first | exact hel | exact Nat.lt_of_le_of_lt (by omega) hel)
      rw [upd_ne (Nat.ne_of_lt hlt)]
      exact (hf c hcm).1
  done := by
    intro X hP hw hK hc i pins s σ H E I hf st hg
    subst hP hw hK
    obtain ⟨⟨old, he⟩, h1⟩ := st
    obtain ⟨ha, hx⟩ := hg
    obtain ⟨its, f1, R1, p1, rv⟩ := Sa.ex X rfl rfl rfl pins σ H s I ha
    have l1 := rv.length
    have hd1 : X.A.in1.handled = none := I.ok.hd hc
    have D := R1.draws X.A.in1 I0 hd1 (Nat.ne_of_lt la)
    have ez : i = its.toArray.size := by simp; omega
    refine wpAny_pyNext_enum_endD D he (by rw [← ez]; exact ⟨h1, p1⟩) fun h' eb => ⟨rfl, ?_⟩
    exact I.turnedL (t' := s.toks) (ch := [I0 + 1, I0]) (fun c o hb q => eb c o (fun q' => hb (by simp [q'])) q) hf
  self := fun A i s Q E st h => let ⟨⟨_, he⟩, _⟩ := st; wpAny_pyIter_enum he h
end
def iEnumG (P : Program) (wd : World) (K : PySem.W.Frag) (ta : TA) : TI := fun σ H R => ta σ H fun vs H1 => ∃ a xs oa sa pa, vs = [.ref a] ∧ Sr P wd K a xs oa sa pa ∧ pa H1 ∧ R (ItE pa xs) H1
theorem pi_enumG {X : Cx} {e : Expr} {ta : TA} {p pos tpos : Pos} {elts : List Expr} {kk : Nat} (hg : Gl X "enumerate") (hm : X.mg "enumerate" = none) (ha : PA X [e] ta) (hs : starEach [e] X.env = [(false, eval e X.env)] := by rfl) :
    PI X (.Tuple elts kk tpos) (.Call (.Name "enumerate" p) [e] [] pos) (iEnumG X.prog X.w X.K ta) := by
  refine ⟨fun pins s σ H R I h => ?_⟩
  refine Call_ (ld_blt I hg hm boot_enumerate (PyProof.Rows.callWith_type1 (thn (ha.run pos pins s σ H _ I h) fun us s1 ⟨vs, H1, I1, r1, q1⟩ => ?_) hs rfl))
  obtain ⟨a, xs, oa, sa, pa, ex, Sa, ha1, q⟩ := q1
  subst ex
  cases r1 with
  | cons r rr =>
    cases rr
    cases r
    obtain ⟨its, f1, R1, p1, rv⟩ := Sa.ex X rfl rfl rfl pins σ H1 s1 I1 ha1
    refine call_enumG R1 p1 fun h' he h1 hsz hk => wpAny_pyIter_enum he ?_
    have I2 : Inv X pins σ H1 { s1 with heap := h' } := I1.kept (t' := s1.toks) hk
    refine ⟨s1.heap.objs.size + 1, [s1.heap.objs.size + 1, s1.heap.objs.size], _, _, H1, rfl, I2, turn_enumG Sa (R1.lt _ p1) R1.keep R1.obj, ⟨⟨.none, he⟩, h1⟩, fun c hcm => ?_, q⟩
    have e' : c = s1.heap.objs.size + 1 ∨ c = s1.heap.objs.size := by simpa using hcm
    have hle : s1.heap.objs.size ≤ c := by rcases e' with z | z <;> (rw [z]; first | exact Nat.le_add_right _ _ | exact Nat.le_refl _)
    exact I1.fpOk hle (I1.hok.fresh hle)
section
variable {X : Cx} {w : Wd} {E : XK} {tg e : Expr} {p pos tpos : Pos} {cs : List Sl → G (List T)} {H0 Z0 H Z : Hp} {r : List Sl} {σ : L2.St} {o : Nat → List Addr}
def enumT : Nat → List T → List T
  | _, [] => []
  | k, t :: ts => .tup [.int (k : Nat), t] :: enumT (k + 1) ts
theorem enumT_len : ∀ (k : Nat) (ts : List T), (enumT k ts).length = ts.length
  | _, [] => rfl
  | k, t :: ts => by simp only [enumT, List.length_cons, enumT_len (k + 1) ts]
theorem enumT_get : ∀ (k : Nat) (ts : List T) (i : Nat) (t : T), (enumT k ts)[i]? = some t → ∃ a, ts[i]? = some a ∧ t = .tup [.int ((k + i : Nat) : Int), a]
  | k, a :: as, 0, t, e => by simp only [enumT, List.getElem?_cons_zero, Option.some.injEq] at e; exact ⟨a, rfl, e.symm⟩
  | k, a :: as, i + 1, t, e => by
    obtain ⟨x, h1, h2⟩ := enumT_get (k + 1) as i t (by simpa [enumT] using e)
    exact ⟨x, by simpa using h1, by rw [h2]; congr 3; omega⟩
  | _, [], _, _, e => by simp [enumT] at e
theorem iter_enum {M : Km} {xs : List V} {pa : Hp → Prop} {ts : List T} {Zs : Hp} (ha : ∀ H' Z', Sub Zs Z' → Good w H' Z' → pa H') (t1 : Trs M.K M.mg w Zs ts xs) : IterOk M w (ItE pa xs) (enumT 0 ts) Zs := fun i H Z s g => by
  have l1 := t1.length
  refine ⟨fun t ht => ?_, fun hl => ?_⟩
  · obtain ⟨a, h1, rfl⟩ := enumT_get _ _ _ _ ht
    obtain ⟨x, hx, tx⟩ := t1.get h1
    refine ⟨⟨ha H Z s g, (List.getElem?_eq_some_iff.mp hx).1⟩, fun v H' q => ?_⟩
    obtain ⟨p, x', rfl, hp, rfl, e1⟩ := q
    rw [hx] at e1; cases e1
    have gl := Grow.laidF (o := .tup [.int ((i : Nat) : Int), x]) g hp
    refine ⟨_, gl, ?_⟩
    rw [Nat.zero_add]
    exact .tup (SqT.of upd_same) (by show 2 ≤ sizeLine; decide) (.cons (.int _) (.cons ((tx.mono s).mono gl.zz) .nil))
  · rw [enumT_len] at hl
    exact ⟨ha H Z s g, by omega⟩
def enumOf : List T → G (List T)
  | [.lst ts] => .ret (enumT 0 ts)
  | [.tup ts] => .ret (enumT 0 ts)
  | _ => .stuck
theorem ci_enum {elts : List Expr} {kk : Nat} (hg : Gl X "enumerate") (hm : X.mg "enumerate" = none) (ha : CA X w E [e] cs) (hs : starEach [e] X.env = [(false, eval e X.env)] := by rfl) :
    CI X w E (.Tuple elts kk tpos) (.Call (.Name "enumerate" p) [e] [] pos) (fun r => cs r >>= enumOf) := by
  refine ⟨piImp (pi_enumG hg hm ha.pa hs) fun σ H Rr h => ?_⟩
  obtain ⟨H0, Z0, r, Z, o, R, h⟩ := h
  refine evSeqA (P := fun H Z => fun ts => ∀ J H' Z', Grow w H Z H' Z' → ts.length ≤ sizeLine → IterOk X.km w J ts Z' → Rr J H') R (fun g h J H' Z' g' => h J H' Z' (g.trans g')) h fun xs H1 Z1 ts R1 g1 t1 h1 => ?_
  unfold enumOf at h1
  split at h1
  · rename_i us
    obtain ⟨v, rfl, tv⟩ := trs1 t1
    cases tv with
    | @lst _ p vs hz l tr =>
      have q : ∀ H' Z', Sub Z1 Z' → Good w H' Z' → SqL X.K H' p vs := fun H' Z' s g => SqL.of (g.zh _ _ (s _ _ hz))
      exact ⟨p, vs, _, _, _, rfl, sr_list, q H1 Z1 (Sub.refl _) R1.good, h1 _ H1 Z1 (Grow.refl R1.good) (by rw [enumT_len, tr.length]; exact l) (iter_enum q tr)⟩
  · rename_i us
    obtain ⟨v, rfl, tv⟩ := trs1 t1
    cases tv with
    | @tup _ p vs hz l tr =>
      have q : ∀ H' Z', Sub Z1 Z' → Good w H' Z' → SqT X.K H' p vs := fun H' Z' s g => g.sqT (s.sqT hz)
      exact ⟨p, vs, _, _, _, rfl, sr_tup, q H1 Z1 (Sub.refl _) R1.good, h1 _ H1 Z1 (Grow.refl R1.good) (by rw [enumT_len, tr.length]; exact l) (iter_enum q tr)⟩
  · exact False.elim h1
end
end TL
end s_TL61
section s_TL62
set_option Elab.async false
set_option linter.all false
set_option maxRecDepth 100000
set_option maxHeartbeats 4000000
/-! TL62: a dict of own lists: x = {k: [..] for ..}, x[k][j] op= e, x[k][j] = e -/
namespace TL
open PySem PySem.Spec PyProof.Rows L2
def addD : List (T × T) → T → T → List (T × T)
  | [], k, t => [(k, t)]
  | (q, u) :: r, k, t => if keyT q = keyT k then (q, t) :: r else (q, u) :: addD r k t
section
variable {K : PySem.W.Frag} {mg : Str → Option Value} {w : Wd} {Z H : Hp} {key : Key} {k : T}
theorem TrD.get : ∀ {kts : List (T × T)} {kvs : List (Key × V)} {qs : List Addr}, TrD K mg w Z H kts kvs qs → ∀ {t : T}, dGet kts key = some t → ∃ ts vs q, t = .lst ts ∧ valV kvs key = some (.ref q) ∧ q ∈ qs ∧ H q = some (.lst vs) ∧ vs.length ≤ sizeLine ∧ Trs K mg w Z ts vs
  | _, _, _, .nil, t, e => by simp [dGet] at e
  | _, _, _, .cons (k := k1) (key := key1) (q := q1) (ts := ts1) (vs := vs1) (kts := kts) (kvs := kvs) e h l tr r, t, g => by
    by_cases hk : key1 = key
    · have : dGet ((k1, T.lst ts1) :: kts) key = some (.lst ts1) := by unfold dGet; rw [List.find?_cons_of_pos (by simp [e, hk])]; rfl
      rw [this] at g; cases g
      exact ⟨ts1, vs1, q1, rfl, valV_pos hk, by simp, h, l, tr⟩
    · have : dGet ((k1, T.lst ts1) :: kts) key = dGet kts key := by unfold dGet; rw [List.find?_cons_of_neg (by simp [e, hk])]
      rw [this] at g
      obtain ⟨ts, vs, q, e1, e2, e3, e4, e5, e6⟩ := TrD.get r g
      exact ⟨ts, vs, q, e1, by rw [valV_neg hk]; exact e2, by simp [e3], e4, e5, e6⟩
theorem TrD.mem : ∀ {kts : List (T × T)} {kvs : List (Key × V)} {qs : List Addr}, TrD K mg w Z H kts kvs qs → ∀ {q : Addr}, valV kvs key = some (.ref q) → q ∈ qs
  | _, _, _, .nil, q, e => by simp [valV] at e
  | _, _, _, .cons (key := key1) (q := q1) e h l tr r, q, g => by
    by_cases hk : key1 = key
    · rw [valV_pos hk] at g; cases g; simp
    · rw [valV_neg hk] at g; exact List.mem_cons_of_mem _ (TrD.mem r g)
theorem TrD.set (hk : keyT k = some key) {q : Addr} {vs' : List V} {ts' : List T} (hl : vs'.length ≤ sizeLine) (ht : Trs K mg w Z ts' vs') :
    ∀ {kts : List (T × T)} {kvs : List (Key × V)} {qs : List Addr}, TrD K mg w Z H kts kvs qs → qs.Nodup → valV kvs key = some (.ref q) → TrD K mg w Z (upd H q (.lst vs')) (addD kts k (.lst ts')) kvs qs
  | _, _, _, .nil, _, e => by simp [valV] at e
  | _, _, _, .cons (k := k1) (key := key1) (q := q1) (qs := qs) e h l tr r, nd, g => by
    obtain ⟨n1, n2⟩ := List.nodup_cons.mp nd
    by_cases hk1 : key1 = key
    · rw [valV_pos hk1] at g; cases g
      have e2 : keyT k1 = keyT k := by rw [e, hk, hk1]
      simp only [addD, if_pos e2]
      refine .cons e upd_same hl ht (r.move (Sub.refl _) fun a ha u hu => ?_)
      have ne : a ≠ q := fun z => n1 (by rw [← z]; exact ha)
      rw [upd_ne ne]; exact hu
    · rw [valV_neg hk1] at g
      have e2 : ¬ keyT k1 = keyT k := by rw [e, hk]; simpa using hk1
      simp only [addD, if_neg e2]
      have hm := TrD.mem r g
      have ne : q1 ≠ q := fun z => n1 (by rw [z]; exact hm)
      exact .cons e (by rw [upd_ne ne]; exact h) l tr (TrD.set hk hl ht r n2 g)
end
section
variable {X : Km} {w : Wd} {H0 Z0 H Z : Hp} {r : List Sl} {σ : L2.St} {o : Nat → List Addr}
end

/-! ### x = {k: [..] for ..} -/
def PostD (X : Km) (w : Wd) (H Z : Hp) (Q : VK) : List (T × T) → Prop := fun kts => ∀ p o H' Z', Grow w H Z H' Z' → RootD X.K X.mg w Z' H' kts p o → Fresh w H Z' o → Q (.ref p) H'
abbrev DC := List Sl → G (List (T × T))
def EvD (X : Km) (w : Wd) (E : XK) (c : DC) : TE := fun σ H Q => ∃ H0 Z0 r Z o, EnvR X.km w H0 Z0 r σ H Z o ∧ (c r).wp (PostD X.km w H Z Q) (PostX X.km w E H0 Z0)
structure CD (X : Cx) (w : Wd) (E : XK) (e : Expr) (c : DC) : Prop where
  pe : PE X e (EvD X.km w E c)
theorem PostD.weak {X : Km} {w : Wd} {H Z H1 Z1 : Hp} {Q : VK} {t : List (T × T)} (g : Grow w H Z H1 Z1) (h : PostD X.km w H Z Q t) : PostD X.km w H1 Z1 Q t := by
  intro p o H' Z' g' r f
  refine h p o H' Z' (g.trans g') r fun a ha => ⟨?_, (f a ha).2⟩
  cases q : H a with
  | none => rfl
  | some u =>
    have z := (f a ha).1
    rw [g.hh a u q (f a ha).2.2] at z
    cases z
def dcompDG (g : GC) (tt : List Sl → G Bool) (tk tv : EC) : List T → List Sl → List (T × T) → G (List (T × T))
  | [], _, acc => .ret acc
  | t :: ts, r, acc => (g t r).nox >>= fun r1 => (tt r1).nox >>= fun b => if b then ((tk r1).nox >>= fun k => (tv r1).nox >>= fun v => match v with
    | .lst us => if (keyT k).isSome then dcompDG g tt tk tv ts r (addD acc k (.lst us)) else .stuck
    | _ => .stuck) else dcompDG g tt tk tv ts r acc
def cDCompD (ci : List Sl → G (List T)) (g : GC) (tt : List Sl → G Bool) (tk tv : EC) (vs : List Nat) : DC := fun r => ci r >>= fun ts => dcompDG g tt tk tv ts (wipeR r vs) []
section
variable {X : Cx} {w : Wd} {E : XK} {fr : Bool} {tg iter kx vx : Expr} {ifs : List Expr} {pos : Pos} {tk tv : EC} {ci : List Sl → G (List T)} {g : GC} {S : List Nat} {tt : List Sl → G Bool}
variable {H0 Z0 H Z Z1 : Hp} {r : List Sl} {σ σ' : L2.St} {o : Nat → List Addr} {D : Ends} {e : Expr}
def cSetD (i : Nat) (c : DC) : SC := fun r => c r >>= fun kts => .ret (.nx (r.set i (.dp kts)))
/-! ### x[k][j] op= e, x[k][j] = e -/
def rGetL (K : PySem.W.Frag) : V → V → Hp → VK → Prop := fun o i H Q => ∃ p xs j v, o = .ref p ∧ i = .int ((j : Nat) : Int) ∧ SqL K H p xs ∧ xs[j]? = some v ∧ Q v H
def natOf : T → Option Nat
  | .int n => if 0 ≤ n then some n.toNat else none
  | _ => none
def dpGet (kts : List (T × T)) (k : T) : Option (List T) := match keyT k with
  | some key => (match dGet kts key with | some (.lst ts) => some ts | _ => none)
  | none => none
def dpPut (r : List Sl) (i : Nat) (kts : List (T × T)) (k : T) (ts : List T) (m : Nat) (t : T) : G Ctl := .ret (.nx (r.set i (.dp (addD kts k (.lst (ts.set m t))))))
def augK (f : Int → Int → Int) : T → T → G T
  | .int a, .int b => .ret (.int (f a b))
  | _, _ => .stuck
def cDpAug (i : Nat) (ck cj : EC) (f : Int → Int → Int) (ce : EC) : SC := fun r => match r[i]? with
  | some (.dp kts) => ck r >>= fun k => match dpGet kts k with
    | some ts => cj r >>= fun j => match natOf j with
      | some m => (match ts[m]? with | some x => ce r >>= fun y => augK f x y >>= fun t => dpPut r i kts k ts m t | none => .stuck)
      | none => .stuck
    | none => .stuck
  | _ => .stuck
variable {ck cj ce : EC} {x : Str} {ke je ve : Expr} {p0 p1 tpos : Pos} {k : Nat}
/-- x[k][j] = e -/
def cDpPut (i : Nat) (ck cj ce : EC) : SC := fun r => match r[i]? with
  | some (.dp kts) => ce r >>= fun t => ck r >>= fun k => match dpGet kts k with
    | some ts => cj r >>= fun j => match natOf j with
      | some m => if m < ts.length then dpPut r i kts k ts m t else .stuck
      | none => .stuck
    | none => .stuck
  | _ => .stuck
end
end TL
end s_TL62
section s_TL63
set_option Elab.async false
set_option linter.all false
set_option maxRecDepth 100000
set_option maxHeartbeats 4000000
/-! TL63: sorted(d), sorted(l) of texts, sum(l) -/
namespace TL
open PySem PySem.Spec PyProof.Rows L2
def insS (x : Str) : List Str → List Str
  | [] => [x]
  | y :: r => if y.cps.toList < x.cps.toList then y :: insS x r else x :: y :: r
def sortStr : List Str → List Str
  | [] => []
  | x :: r => insS x (sortStr r)
abbrev LeS (a b : Str) : Prop := ¬ b.cps.toList < a.cps.toList
def strT : T → Option Str
  | .str x => some x
  | _ => none
def strTs : List T → Option (List Str)
  | [] => some []
  | t :: r => match strT t, strTs r with | some x, some xs => some (x :: xs) | _, _ => none
def fSorted : List T → G T
  | [.dic kts] => (match strTs (kts.map (·.1)) with | some ks => if ks.length < 64 then .ret (.lst ((sortStr ks).map .str)) else .stuck | none => .stuck)
  | [.lst ts] => (match strTs ts with | some ks => if ks.length < 64 then .ret (.lst ((sortStr ks).map .str)) else .stuck | none => .stuck)
  | _ => .stuck
def rSortA (K : PySem.W.Frag) : List V → Hp → VK → Prop := fun xs H Q => (∃ (a : Addr) (kvs : List (Key × V)) (ks : List Str), xs = [.ref a] ∧ Rd H a (.dK kvs) ∧ kvs.map (·.1) = ks.map Sum.inr ∧ ks.length < 64 ∧
    ∀ ys p, ys.Perm ks → sortedS ys = true → H p = none → Q (.ref p) (upd H p (.lst (ys.map V.str)))) ∨ rSortedS K xs H Q
section
variable {X : Cx} {M : Km} {w : Wd} {E : XK}
theorem Trd.keys {K : PySem.W.Frag} {mg : Str → Option Value} {Z : Hp} : ∀ {kts : List (T × T)} {kvs : List (Key × V)} {ks : List Str}, Trd K mg w Z kts kvs → strTs (kts.map (·.1)) = some ks → kvs.map (·.1) = ks.map Sum.inr
  | _, _, ks, .nil, e => by cases e; rfl
  | _, _, ks, .cons (k := k) (kts := kts) ek tv r, e => by
    rw [List.map_cons] at e
    unfold strTs at e
    split at e
    · rename_i x xs e1 e2
      cases e
      cases k <;> simp only [strT, Option.some.injEq, reduceCtorEq] at e1
      subst e1
      cases ek
      rw [List.map_cons, List.map_cons, Trd.keys r e2]
    · cases e
def intTs : List T → Option (List Int)
  | [] => some []
  | .int i :: r => (match intTs r with | some is => some (i :: is) | none => none)
  | _ => none
theorem Trs.ints {K : PySem.W.Frag} {mg : Str → Option Value} {Z : Hp} : ∀ {ts : List T} {vs : List V} {is : List Int}, Trs K mg w Z ts vs → intTs ts = some is → vs = is.map V.int
  | _, _, is, .nil, e => by cases e; rfl
  | _, _, is, .cons (t := t) a b, e => by
    cases t <;> simp only [intTs, reduceCtorEq] at e
    split at e
    · rename_i js ej
      cases e
      cases a
      rw [List.map_cons, Trs.ints b ej]
    · cases e
def fSum : List T → G T
  | [.lst ts] => (match intTs ts with | some is => .ret (.int is.sum) | none => .stuck)
  | _ => .stuck
end
end TL
end s_TL63
section s_TL64
set_option Elab.async false
set_option linter.all false
set_option maxRecDepth 100000
set_option maxHeartbeats 4000000
/-! TL64: == of two dicts of data that are equal -/
namespace TL
open PySem PySem.Spec PyProof.Rows L2
def EqDp (K : PySem.W.Frag) (H : Hp) (x y : V) : Prop := ∃ d e, Dp K H x d ∧ Dp K H y e ∧ SeqAt.shaped d = true ∧ SeqAt.shaped e = true ∧ PyData.eqv d e = true
def rEqDD (K : PySem.W.Frag) : R2 := fun x y H Q => ∃ a b ks ls, x = .ref a ∧ y = .ref b ∧ Rd H a (.dK ks) ∧ Rd H b (.dK ls) ∧ ks.length = ls.length ∧ (∀ p ∈ ks, ∃ u, valV ls p.1 = some u ∧ EqDp K H p.2 u) ∧ Q (.bl true) H
def eqDic (kts lts : List (T × T)) : Bool := kts.all fun p => match keyT p.1 with
  | some key => (match dGet lts key with | some u => okT p.2 && okT u && eqT p.2 u | none => false)
  | none => false
def fEqA : T → T → G T
  | .dic kts, .dic lts => if kts.length = lts.length ∧ eqDic kts lts = true then .ret (.bl true) else .stuck
  | a, b => fEq a b
section
variable {M : Km} {X : Cx} {w : Wd} {E : XK} {k : Nat}
end
end TL
end s_TL64
section s_TL65
set_option Elab.async false
set_option linter.all false
set_option maxRecDepth 100000
set_option maxHeartbeats 4000000
/-! TL65: dict(list of pairs); l.count(x) of data -/
namespace TL
open PySem PySem.Spec PyProof.Rows L2
def pairTs : List T → Option (List (T × T))
  | [] => some []
  | .tup [k, v] :: r => if (keyT k).isSome then (match pairTs r with | some l => some ((k, v) :: l) | none => none) else none
  | _ => none
/-- dict(x): of a dict, or of a list of pairs -/
def fDictP : List T → G T
  | [.dic kts] => .ret (.dic kts)
  | [.lst ts] => (match pairTs ts with | some l => .ret (.dic (mergeT [] l)) | none => .stuck)
  | _ => .stuck
section
variable {X : Cx} {M : Km} {w : Wd} {E : XK}
def rDictA (K : PySem.W.Frag) : List V → Hp → VK → Prop := fun xs H Q => (∃ (a : Addr) (kvs : List (Key × V)), xs = [.ref a] ∧ Rd H a (.dK kvs) ∧ ∀ p, H p = none → Q (.ref p) (upd H p (.dK kvs))) ∨
  (∃ (a : Addr) (ps : List Addr) (kvs : List (Key × V)), xs = [.ref a] ∧ SqL K H a (ps.map V.ref) ∧ Paired (fun p kv => SqT K H p [kV kv.1, kv.2]) ps kvs ∧ ∀ p, H p = none → Q (.ref p) (upd H p (.dK (mergeK [] kvs))))
theorem Paired.imp {α β : Type} {F G : α → β → Prop} (h : ∀ a b, F a b → G a b) : ∀ {as : List α} {bs : List β}, Paired F as bs → Paired G as bs
  | _, _, .nil => .nil
  | _, _, .cons a b => .cons (h _ _ a) (Paired.imp h b)
/-! ### l.count(x) -/
def rCntD (K : PySem.W.Frag) : V → List V → Hp → VK → Prop := fun x xs H Q => ∃ (p : Addr) (vs : List V) (y : V) (d : PyData) (ds : List PyData), x = .ref p ∧ xs = [y] ∧ SqL K H p vs ∧ Dp K H y d ∧ DpAll K H vs ds ∧ SeqAt.shaped d = true ∧ (∀ e ∈ ds, SeqAt.shaped e = true) ∧
  Q (.int ((ds.countP fun e => PyData.eqv e d : Nat) : Int)) H
def fCountD : T → List T → G T
  | .lst ts, [t] => (match toPys ts, toPy t with
    | some ds, some d => if SeqAt.shaped d && ds.all SeqAt.shaped then .ret (.int ((ds.countP fun e => PyData.eqv e d : Nat) : Int)) else .stuck
    | _, _ => .stuck)
  | _, _ => .stuck
def cCount (co : EC) (cs : List Sl → G (List T)) : EC := fun r => co r >>= fun o => match o with
  | .lst ts => cs r >>= fun us => fCountD (.lst ts) us
  | _ => .stuck
section
variable {X : Cx} {w : Wd} {E : XK} {o e : Expr} {co : EC} {cs : List Sl → G (List T)} {apos cpos : Pos}
end
end
end TL
end s_TL65
section s_TL66
set_option Elab.async false
set_option linter.all false
set_option maxRecDepth 100000
set_option maxHeartbeats 4000000
/-! TL66: sets of several texts: set(list or tuple), sorted(set(..)), len(set(..)) -/
namespace TL
open PySem PySem.Spec PyProof.Rows L2
/-- a text more, if it is new -/
def addK (ks : List Str) (k : Str) : List Str := if k ∈ ks then ks else ks ++ [k]
def dedS (xs : List Str) : List Str := xs.foldl addK []
def keyS (e : Int × Value) : Str := match e.2 with | .str k _ => k | _ => Str.empty
def GoodS (w : World) (e : Int × Value) : Prop := ∃ k tk, e.2 = Value.str k tk ∧ e.1 = hashStr w k
/-- the set of texts at a: its members in some order -/
def SetS (w : World) (h : Heap) (a : Addr) (ks : List Str) : Prop :=
  ∃ o es ep t, h.get? a = some o ∧ o.ExactSet ∧ o.data = .set es ep t ∧ (∀ e ∈ es.toList, GoodS w e) ∧ (es.toList.map keyS).Perm ks ∧ ks.Nodup ∧
    es.size < scanBound ∧ t.fits es.size = true ∧ Ris t.place.toList ∧ (w.params.followText "set-order" = true ∨ t.led = true)
section
variable {P : Program} {w : World} {h h' : Heap} {a : Addr} {ks : List Str}
theorem SetS.at (R : SetS w h a ks) (k : ∀ o, h.get? a = some o → h'.get? a = some o) : SetS w h' a ks := by
  obtain ⟨o, es, ep, t, ho, r⟩ := R
  exact ⟨o, es, ep, t, k o ho, r⟩
theorem SetS.size {o : Obj} {es : Array (Int × Value)} (hp : (es.toList.map keyS).Perm ks) : es.size = ks.length := by
  have := hp.length_eq
  rw [List.length_map, Array.length_toList] at this
  exact this
end
section
variable {P : Program} {w : World} {A : Around} {E : Value → Shared → Prop} {s : Shared} {a : Addr} {ks : List Str}
end
end TL
end s_TL66
section s_TL67
set_option Elab.async false
set_option linter.all false
set_option maxRecDepth 100000
set_option maxHeartbeats 4000000
/-! TL67: set(list of texts), sorted(set(..)), len(set(..)) -/
namespace TL
open PySem PySem.Spec PyProof.Rows L2
section
variable {P : Program} {w : World} {A : Around} {E : Value → Shared → Prop} {s : Shared}
end
/-- the set of texts at a -/
def SetSO (w : World) (a : Addr) (ks : List Str) : HO := .ext fun h => SetS w h a ks
section
variable {X : Cx}
/-- set(l) -/
def rSetS (w : World) (K : PySem.W.Frag) : List V → Hp → VK → Prop := fun xs H Q => ∃ (l : Addr) (ys : List Str), xs = [.ref l] ∧ SqL K H l (ys.map V.str) ∧ ys.length ≤ 1000 ∧ ∀ p, H p = none → Q (.ref p) (upd H p (SetSO w p (dedS ys)))
/-- len(set) -/
def rLenS (w : World) : List V → Hp → VK → Prop := fun xs H Q => ∃ (a : Addr) (ks : List Str), xs = [.ref a] ∧ H a = some (SetSO w a ks) ∧ Q (.int ks.length) H
/-- sorted(set) -/
def rSortSetS (w : World) : List V → Hp → VK → Prop := fun xs H Q => ∃ (a : Addr) (ks : List Str), xs = [.ref a] ∧ H a = some (SetSO w a ks) ∧ ks.length < 64 ∧ ∀ ys p, ys.Perm ks → sortedS ys = true → H p = none → Q (.ref p) (upd H p (.lst (ys.map V.str)))
end
end TL
end s_TL67
section s_TL68
set_option Elab.async false
set_option linter.all false
set_option maxRecDepth 100000
set_option maxHeartbeats 4000000
/-! TL68: sorted(set(l)), len(set(l)) of texts -/
namespace TL
open PySem PySem.Spec PyProof.Rows L2
def fSortSet : List T → G T
  | [.lst ts] => (match strTs ts with | some ks => if ks.length ≤ 1000 ∧ (dedS ks).length < 64 then .ret (.lst ((sortStr (dedS ks)).map .str)) else .stuck | none => .stuck)
  | _ => .stuck
def fLenSet : List T → G T
  | [.lst ts] => (match strTs ts with | some ks => if ks.length ≤ 1000 then .ret (.int (dedS ks).length) else .stuck | none => .stuck)
  | _ => .stuck
section
variable {X : Cx} {w : Wd} {E : XK} {e : Expr} {cs : List Sl → G (List T)} {p p2 q pos : Pos}
end
end TL
end s_TL68
section s_TL69
set_option Elab.async false
set_option linter.all false
set_option maxRecDepth 100000
set_option maxHeartbeats 4000000
/-! TL69: list(d) of a dict's keys -/
namespace TL
open PySem PySem.Spec PyProof.Rows L2
def fListA : List T → G T
  | [.dic kts] => .ret (.lst (kts.map (·.1)))
  | ts => fList ts
def rListA (K : PySem.W.Frag) : List V → Hp → VK → Prop := fun xs H Q => (∃ (a : Addr) (kvs : List (Key × V)), xs = [.ref a] ∧ Rd H a (.dK kvs) ∧ ∀ p, H p = none → Q (.ref p) (upd H p (.lst (kvs.map fun kv => kV kv.1)))) ∨ rListOf K xs H Q
section
variable {X : Cx} {M : Km} {w : Wd} {E : XK}
end
end TL
end s_TL69
section s_TL70
set_option Elab.async false
set_option linter.all false
set_option maxRecDepth 100000
set_option maxHeartbeats 4000000
/-! TL70: x[k], x[l] = a, b -/
namespace TL
open PySem PySem.Spec PyProof.Rows L2
def cPut2 (i : Nat) (c1 c2 ca : EC) : SC := fun r => ca r >>= fun t => match t, r[i]? with
  | .tup [t1, t2], some (.ow b) => c1 r >>= fun k1 => (match putAt b k1 t1 with
    | some b1 => c2 (r.set i (.ow b1)) >>= fun k2 => (match putAt b1 k2 t2 with | some b2 => .ret (.nx ((r.set i (.ow b1)).set i (.ow b2))) | none => .stuck)
    | none => .stuck)
  | _, _ => .stuck
section
variable {X : Cx} {w : Wd} {E : XK} {fr : Bool} {e i1 i2 : Expr} {pos p0 p1 p2 p3 pt : Pos} {ca c1 c2 : EC} {kt : Nat}
end
end TL
end s_TL70
section s_TL71
set_option Elab.async false
set_option linter.all false
set_option maxRecDepth 100000
set_option maxHeartbeats 4000000
/-! TL71: a module's tuple, from the top's facts; list(range(a, b)) -/
namespace TL
open PySem PySem.Spec PyProof.Rows L2
section
variable {K : PySem.W.Frag} {h : Heap} {mg : Str → Option Value} {x : Str} {u : Value} {ts : List T}
end
section
variable {X : Cx} {w : Wd} {E : XK} {x : Str} {ts : List T} {pos : Pos}
end
section
variable {X : Cx}
end
/-- list(range(n)) -/
def fLRng : List T → G T
  | [.int i] => if 0 ≤ i ∧ i ≤ 1000 then .ret (.lst (rngT 0 i.toNat)) else .stuck
  | _ => .stuck
section
variable {X : Cx} {w : Wd} {E : XK} {e : Expr} {cs : List Sl → G (List T)} {p p2 q pos : Pos}
end
end TL
end s_TL71
section s_TL72
set_option Elab.async false
set_option linter.all false
set_option maxRecDepth 100000
set_option maxHeartbeats 4000000
/-! TL72: [*range(n), ..] -/
namespace TL
open PySem PySem.Spec PyProof.Rows L2
/-- what is had when a range has been collected -/
def RngR (s : Shared) (n : Nat) : Result → Shared → Prop := fun res s' => ∃ (acc : Array Value) (c : Nat) (h' : Heap) (tk : Nat), res = .ok (.ret (.ref s.heap.objs.size)) ∧ s' = { s with heap := h', toks := tk } ∧
      h'.get? s.heap.objs.size = some { cls := .type "list", dict := none, data := .seq acc c, slots := #[] } ∧ (∀ b o, s.heap.get? b = some o → h'.get? b = some o) ∧ ItemsOf (fun i v => ∃ t, v = .int (0 + i * 1) t) acc n
section
variable {prog : Program} {w : World} {A : Around} {E : Value → Shared → Prop} {s : Shared}
end
section
variable {X : Cx} {pins : List (Addr × Obj)} {σ : L2.St} {H : Hp} {s : Shared}
end
/-- *range(n) -/
def caStarR (cs0 : List Sl → G (List T)) (cs : List Sl → G (List T)) : List Sl → G (List T) := fun r => cs0 r >>= fun us => match us with
  | [.int i] => if 0 ≤ i ∧ i ≤ 1000 then cs r >>= fun ts => .ret (rngT 0 i.toNat ++ ts) else .stuck
  | _ => .stuck
section
variable {X : Cx} {w : Wd} {E : XK} {e : Expr} {es : List Expr} {cs0 cs : List Sl → G (List T)} {p p2 q : Pos}
end
end TL
end s_TL72
section s_TL73
set_option Elab.async false
set_option linter.all false
set_option maxRecDepth 100000
set_option maxHeartbeats 4000000
/-! TL73: {} that is to hold nested tuples as keys -/
namespace TL
open PySem PySem.Spec PyProof.Rows L2
section
variable {X : Cx} {w : Wd} {E : XK} {pos : Pos}
def cDn0 : EC := fun _ => .ret (.dn [])
end
end TL
end s_TL73
section s_TL74
set_option Elab.async false
set_option linter.all false
set_option maxRecDepth 100000
set_option maxHeartbeats 4000000
/-! TL74: a new dict with nested keys; d[k]; len(d) -/
namespace TL
open PySem PySem.Spec PyProof.Rows L2
end TL
end s_TL74
section s_TL75
set_option Elab.async false
set_option linter.all false
set_option maxRecDepth 100000
set_option maxHeartbeats 4000000
/-! TL75: range(a, b), walked -/
namespace TL
open PySem PySem.Spec PyProof.Rows L2
def rgOf2 : List T → G (List T)
  | [.int i, .int j] => if decide (-(2 ^ 30) ≤ i) && decide (i < 1000000) && decide (-(2 ^ 30) ≤ j) && decide (j < 1000000) && decide (j - i ≤ 1000000) then .ret (rngT i (j - i).toNat) else .stuck
  | _ => .stuck
section
variable {X : Cx} {w : Wd} {E : XK} {a b tg : Expr} {cs : List Sl → G (List T)} {p pos : Pos}
end
end TL
end s_TL75
section s_TL76
set_option Elab.async false
set_option linter.all false
set_option maxRecDepth 100000
set_option maxHeartbeats 4000000
/-! TL76: list(text) -/
namespace TL
open PySem PySem.Spec PyProof.Rows L2
section
variable {X : Cx} {M : Km} {w : Wd} {E : XK}
def fListS : List T → G T
  | [.str z] => if fits z.cps.size then .ret (.lst (chars z)) else .stuck
  | ts => fListA ts
def rListS (K : PySem.W.Frag) : List V → Hp → VK → Prop := fun vs H Q => (∃ z : Str, vs = [.str z] ∧ z.cps.size ≤ sizeLine ∧ ∀ p, H p = none → Q (.ref p) (upd H p (.lst (z.cps.toList.map fun c => V.str ⟨#[c]⟩)))) ∨ rListA K vs H Q
end
end TL
end s_TL76
section s_TL77
set_option Elab.async false
set_option linter.all false
set_option maxRecDepth 100000
set_option maxHeartbeats 4000000
/-! TL77: a dict of own dicts, told by their addresses: x[k], y[k], x[k][l]; y[k] = e -/
namespace TL
open PySem PySem.Spec PyProof.Rows L2
def qAt (l : List QE) (key : Key) : Option QE := l.find? fun e => decide (keyT e.k = some key)
def qAd (l : List QE) (a : Addr) : Option QE := l.find? fun e => decide (e.a = a)
section
variable {K : PySem.W.Frag} {mg : Str → Option Value} {w : Wd} {Z H : Hp} {key : Key}
def QOk (K : PySem.W.Frag) (mg : Str → Option Value) (w : Wd) (Z H : Hp) (qs : List Addr) (e : QE) : Prop := (e.z = false ∧ e.a ∈ qs ∧ ∃ vs, H e.a = some (.dK vs) ∧ vs.length ≤ sizeLine ∧ Trd K mg w Z e.t vs) ∨ (e.z = true ∧ Tr K mg w Z (.dic e.t) (.ref e.a))
theorem QOk.mono {qs qs' : List Addr} {e : QE} (h : QOk K mg w Z H qs e) (s : ∀ a ∈ qs, a ∈ qs') : QOk K mg w Z H qs' e := h.imp (fun ⟨a, b, c⟩ => ⟨a, s _ b, c⟩) id
theorem TrQ.at : ∀ {l : List QE} {kvs : List (Key × V)} {qs : List Addr} {e : QE}, TrQ K mg w Z H l kvs qs → qAt l key = some e → valV kvs key = some (.ref e.a) ∧ QOk K mg w Z H qs e
  | _, _, _, _, .nil, h => by simp [qAt] at h
  | _, _, _, e, .own (k := k) (key := key1) (a := a) (t := t) (vs := vs) (l := l) ek ha hl tr r, h => by
    by_cases hk : key1 = key
    · have : qAt (⟨k, a, t, false⟩ :: l) key = some ⟨k, a, t, false⟩ := by unfold qAt; rw [List.find?_cons_of_pos (by simp [ek, hk])]
      rw [this] at h; cases h
      exact ⟨valV_pos hk, .inl ⟨rfl, by simp, vs, ha, hl, tr⟩⟩
    · have : qAt (⟨k, a, t, false⟩ :: l) key = qAt l key := by unfold qAt; rw [List.find?_cons_of_neg (by simp [ek, hk])]
      rw [this] at h
      obtain ⟨h1, h2⟩ := TrQ.at r h
      exact ⟨by rw [valV_neg hk]; exact h1, h2.mono fun a ha => by simp [ha]⟩
  | _, _, _, e, .frz (k := k) (key := key1) (a := a) (t := t) (l := l) ek tr r, h => by
    by_cases hk : key1 = key
    · have : qAt (⟨k, a, t, true⟩ :: l) key = some ⟨k, a, t, true⟩ := by unfold qAt; rw [List.find?_cons_of_pos (by simp [ek, hk])]
      rw [this] at h; cases h
      exact ⟨valV_pos hk, .inr ⟨rfl, tr⟩⟩
    · have : qAt (⟨k, a, t, true⟩ :: l) key = qAt l key := by unfold qAt; rw [List.find?_cons_of_neg (by simp [ek, hk])]
      rw [this] at h
      obtain ⟨h1, h2⟩ := TrQ.at r h
      exact ⟨by rw [valV_neg hk]; exact h1, h2⟩
theorem TrQ.mem : ∀ {l : List QE} {kvs : List (Key × V)} {qs : List Addr} {e : QE}, TrQ K mg w Z H l kvs qs → e ∈ l → QOk K mg w Z H qs e
  | _, _, _, _, .nil, h => (nomatch h)
  | _, _, _, e, .own ek ha hl tr r, h => by
    rcases List.mem_cons.mp h with z | z
    · subst z; exact .inl ⟨rfl, by simp, _, ha, hl, tr⟩
    · exact (TrQ.mem r z).mono fun a ha => by simp [ha]
  | _, _, _, e, .frz ek tr r, h => by
    rcases List.mem_cons.mp h with z | z
    · subst z; exact .inr ⟨rfl, tr⟩
    · exact TrQ.mem r z
theorem TrQ.len : ∀ {l : List QE} {kvs : List (Key × V)} {qs : List Addr}, TrQ K mg w Z H l kvs qs → l.length = kvs.length
  | _, _, _, .nil => rfl
  | _, _, _, .own _ _ _ _ r => by rw [List.length_cons, List.length_cons, TrQ.len r]
  | _, _, _, .frz _ _ r => by rw [List.length_cons, List.length_cons, TrQ.len r]
/-- the dict at a goes on -/
def qSet (l : List QE) (a : Addr) (t : List (T × T)) : List QE := l.map fun e => if e.a = a then ⟨e.k, e.a, t, e.z⟩ else e
theorem TrQ.set {a : Addr} {t : List (T × T)} {vs : List (Key × V)} (hl : vs.length ≤ sizeLine) (ht : Trd K mg w Z t vs) : ∀ {l : List QE} {kvs : List (Key × V)} {qs : List Addr}, TrQ K mg w Z H l kvs qs → (∀ e ∈ l, e.a = a → e.z = false) → TrQ K mg w Z (upd H a (.dK vs)) (qSet l a t) kvs qs
  | _, _, _, .nil, _ => .nil
  | _, _, _, .own (k := k) (a := b) (t := t0) ek ha hl0 tr r, n => by
    have ih := TrQ.set hl ht r fun e he => n e (List.mem_cons_of_mem _ he)
    unfold qSet at ih ⊢
    rw [List.map_cons]
    by_cases e : b = a
    · subst e
      rw [if_pos rfl]
      exact .own ek upd_same hl ht ih
    · rw [if_neg e]
      exact .own ek (by rw [upd_ne e]; exact ha) hl0 tr ih
  | _, _, _, .frz (k := k) (a := b) (t := t0) ek tr r, n => by
    have ih := TrQ.set hl ht r fun e he => n e (List.mem_cons_of_mem _ he)
    unfold qSet at ih ⊢
    rw [List.map_cons]
    have e : ¬ b = a := fun z => by have := n _ (List.mem_cons_self ..) z; cases this
    rw [if_neg e]
    exact .frz ek tr ih
end
section
variable {X : Km} {w : Wd} {H0 Z0 H Z : Hp} {r : List Sl} {σ : L2.St} {o : Nat → List Addr}
end
/-- x[k], a dict of the dict x of dicts -/
def qVal (e : QE) : T := if e.z = true then .dic e.t else .adr e.a
def cIxQ (i : Nat) (ck : EC) : EC := fun r => match r[i]? with
  | some (.dq l) => ck r >>= fun k => match keyT k with
    | some key => (match qAt l key with | some e => .ret (qVal e) | none => .stuck)
    | none => .stuck
  | _ => .stuck
/-- the item k of a dict that is told by its address -/
def qItem (l : List QE) (a : Addr) (k : T) : Option T := match keyT k, qAd l a with
  | some key, some e => dGet e.t key
  | _, _ => none
def cIxD (i : Nat) (ca ck : EC) : EC := fun r => ca r >>= fun t => ck r >>= fun k => match t, r[i]? with
  | .adr a, some (.dq l) => (match qItem l a k with | some x => .ret x | none => .stuck)
  | .dic kts, _ => (match keyT k with | some key => (match dGet kts key with | some x => .ret x | none => .stuck) | none => .stuck)
  | _, _ => .stuck
section
variable {X : Cx} {w : Wd} {E : XK} {fr : Bool} {ca cb ck ce : EC} {x y : Str} {ke ve e1 e2 : Expr} {p0 p1 pos tpos : Pos}
/-- y[k] = e, y a dict that is told by its address -/
def qPut (l : List QE) (a : Addr) (k t : T) : Option (List QE) := match keyT k, qAd l a with
  | some _, some e => if (l.all fun q => decide (q.a ≠ a) || !q.z) && fits (e.t.length + 1) then some (qSet l a (putT e.t k t)) else none
  | _, _ => none
def cPutD (i j : Nat) (ck ca : EC) : SC := fun r => ca r >>= fun t => match r[j]?, r[i]? with
  | some (.fz (.adr a)), some (.dq l) => ck r >>= fun k => (match qPut l a k t with | some l' => .ret (.nx (r.set i (.dq l'))) | none => .stuck)
  | _, _ => .stuck
end
end TL
end s_TL77
section s_TL78
set_option Elab.async false
set_option linter.all false
set_option maxRecDepth 100000
set_option maxHeartbeats 4000000
/-! TL78: {} as a dict of dicts; x[k] = a new dict -/
namespace TL
open PySem PySem.Spec PyProof.Rows L2
def dicE (k : T) (a : Addr) (t : List (T × T)) : QE := ⟨k, a, t, false⟩
def qAdd : List QE → T → Addr → List (T × T) → List QE
  | [], k, a, t => [dicE k a t]
  | e :: r, k, a, t => if keyT e.k = keyT k then dicE e.k a t :: r else e :: qAdd r k a t
/-- an address that no entry has -/
def adrOf (l : List QE) (ls : List Nat) : Addr := if ls.headD 0 ∈ l.map (·.a) then (l.map (·.a)).foldr max 0 + 1 else ls.headD 0
section
variable {K : PySem.W.Frag} {mg : Str → Option Value} {w : Wd} {Z H : Hp} {key : Key} {k : T}
end
section
variable {X : Cx} {w : Wd} {E : XK} {fr : Bool} {ca ck : EC} {x y : Str} {ke ve e : Expr} {p0 p1 pos tpos : Pos}
/-! {} -/
def tDNew0 : TE := fun _ H Q => ∀ p, H p = none → Q (.ref p) (upd H p (.dK []))
def cDic0 : EC := fun _ => .ret (.dic [])
/-- an own empty dict is to be a dict of dicts -/
def asQ (i : Nat) (r : List Sl) : List Sl := match r[i]? with
  | some (.ow (.dic [])) => r.set i (.dq [])
  | _ => r
theorem EnvR.asQ {X : Km} {H0 Z0 H Z : Hp} {r : List Sl} {σ : L2.St} {o : Nat → List Addr} (R : EnvR X.km w H0 Z0 r σ H Z o) (i : Nat) : EnvR X.km w H0 Z0 (TL.asQ i r) σ H Z o := by
  unfold TL.asQ
  split
  · rename_i er
    obtain ⟨p, es, rt⟩ := R.own er
    refine ⟨R.gr, by rw [List.length_set]; exact R.len, fun j s x h1 h2 => ?_, fun j hj => R.out j (by rw [List.length_set] at hj; exact hj), R.dis, R.fr, R.wo⟩
    by_cases e : j = i
    · subst e
      have hj : j < r.length := (List.getElem?_eq_some_iff.mp er).1
      rw [List.getElem?_set_self hj] at h1
      cases h1
      rw [es] at h2
      cases h2
      obtain ⟨eo, kvs, hp, hl, tr⟩ := rt
      cases tr
      exact ⟨p, rfl, [], [], eo, by simp, hp, hl, by simp, .nil⟩
    · rw [List.getElem?_set_ne (Ne.symm e)] at h1
      exact R.sl j s x h1 h2
  · exact R
def cAsQ (i : Nat) (c : SC) : SC := fun r => c (asQ i r)
theorem CS.asQ (i : Nat) {st : Stmt} {c : SC} (h : CS X w E fr st c) : CS X w E fr st (cAsQ i c) := ⟨psImp h.ps fun D σ H ⟨H0, Z0, r, Z, o, R, h⟩ => ⟨H0, Z0, _, Z, o, R.asQ i, h⟩⟩
/-! x[k] = e, e a new dict -/
def cPutQ (i : Nat) (ck ca : EC) : SC := fun r => ca r >>= fun t => match t, r[i]? with
  | .dic kts, some (.dq l) => ck r >>= fun k => (if (keyT k).isSome && fits (l.length + 1) then .any fun ls => .ret (.nx (r.set i (.dq (qAdd l k (adrOf l ls) kts)))) else .stuck)
  | _, _ => .stuck
end
end TL
end s_TL78
section s_TL79
set_option Elab.async false
set_option linter.all false
set_option maxRecDepth 100000
set_option maxHeartbeats 4000000
/-! TL79: an entry of a dict of dicts is locked while an expression is evaluated -/
namespace TL
open PySem PySem.Spec PyProof.Rows L2
def qLock (key : Key) : List QE → List QE
  | [] => []
  | e :: r => if keyT e.k = some key then ⟨e.k, e.a, e.t, true⟩ :: r else e :: qLock key r
section
variable {K : PySem.W.Frag} {mg : Str → Option Value} {w : Wd} {Z H Z2 H2 : Hp} {key : Key}
theorem TrQ.lock {e : QE} (s : Sub Z Z2) (te : Tr K mg w Z2 (.dic e.t) (.ref e.a)) (hh : ∀ b, b ≠ e.a → H2 b = H b) : ∀ {l : List QE} {kvs : List (Key × V)} {qs : List Addr}, TrQ K mg w Z H l kvs qs → qs.Nodup → qAt l key = some e → e.z = false →
    ∃ qs', TrQ K mg w Z2 H2 (qLock key l) kvs qs' ∧ qs'.Nodup ∧ ∀ b ∈ qs', b ∈ qs ∧ b ≠ e.a
  | _, _, _, .nil, _, h, _ => by simp [qAt] at h
  | _, _, _, .own (k := k) (key := key1) (a := a) (t := t) (vs := vs) (l := l) (qs := qs) ek ha hl tr r, nd, h, hz => by
    obtain ⟨n1, n2⟩ := List.nodup_cons.mp nd
    by_cases hk : key1 = key
    · have : qAt (⟨k, a, t, false⟩ :: l) key = some ⟨k, a, t, false⟩ := by unfold qAt; rw [List.find?_cons_of_pos (by simp [ek, hk])]
      rw [this] at h; cases h
      unfold qLock
      rw [if_pos (by rw [ek, hk])]
      refine ⟨qs, .frz ek te (r.move s fun b hb u hu => ?_), n2, fun b hb => ⟨by simp [hb], fun z => n1 (by have z' : b = a := z; rw [← z']; exact hb)⟩⟩
      rw [hh b (fun z => n1 (by have z' : b = a := z; rw [← z']; exact hb))]; exact hu
    · have : qAt (⟨k, a, t, false⟩ :: l) key = qAt l key := by unfold qAt; rw [List.find?_cons_of_neg (by simp [ek, hk])]
      rw [this] at h
      obtain ⟨qs', h1, h2, h3⟩ := TrQ.lock s te hh r n2 h hz
      unfold qLock
      rw [if_neg (by rw [ek]; simpa using hk)]
      have ne : a ≠ e.a := fun z => by
        rcases (r.at h).2 with ⟨_, hm, _⟩ | ⟨hz2, _⟩
        · exact n1 (z ▸ hm)
        · rw [hz] at hz2; cases hz2
      refine ⟨a :: qs', .own ek (by rw [hh a ne]; exact ha) hl (tr.mono s) h1, List.nodup_cons.mpr ⟨fun z => n1 (h3 a z).1, h2⟩, fun b hb => ?_⟩
      rcases List.mem_cons.mp hb with z | z
      · subst z; exact ⟨by simp, ne⟩
      · exact ⟨by simp [(h3 b z).1], (h3 b z).2⟩
  | _, _, _, .frz (k := k) (key := key1) (a := a) (t := t) (l := l) (qs := qs) ek tr r, nd, h, hz => by
    by_cases hk : key1 = key
    · have : qAt (⟨k, a, t, true⟩ :: l) key = some ⟨k, a, t, true⟩ := by unfold qAt; rw [List.find?_cons_of_pos (by simp [ek, hk])]
      rw [this] at h; cases h; cases hz
    · have : qAt (⟨k, a, t, true⟩ :: l) key = qAt l key := by unfold qAt; rw [List.find?_cons_of_neg (by simp [ek, hk])]
      rw [this] at h
      obtain ⟨qs', h1, h2, h3⟩ := TrQ.lock s te hh r nd h hz
      unfold qLock
      rw [if_neg (by rw [ek]; simpa using hk)]
      exact ⟨qs', .frz ek (tr.mono s) h1, h2, h3⟩
end
def tupO (u : HO) : Prop := (∃ vs, u = .tup vs) ∨ ∃ o vs, u = .frz o (.tup vs)
section
variable {X : Km} {w : Wd} {H0 Z0 H Z : Hp} {r : List Sl} {σ : L2.St} {o : Nat → List Addr}
end
/-- plain things, and tuples of such -/
def hard2 : T → Bool
  | .tup ts => ts.all hard
  | t => hard t
theorem Trs.hardMono {K : PySem.W.Frag} {mg : Str → Option Value} {w : Wd} {Z Z' : Hp} : ∀ {ts : List T} {vs : List V}, Trs K mg w Z ts vs → ts.all hard = true → Trs K mg w Z' ts vs
  | _, _, .nil, _ => .nil
  | _, _, .cons a b, h => by
    rw [List.all_cons, Bool.and_eq_true] at h
    exact .cons (a.hardMono h.1) (Trs.hardMono b h.2)
def cPkQ (i j : Nat) (c : EC) : EC := fun r => match r[i]?, r[j]? with
  | some (.dq l), some (.fz kt) => (match keyT kt with
    | some key => (match qAt l key with
      | some e => if e.z = false then c (r.set i (.dq (qLock key l))) >>= fun t => (if hard2 t then .ret t else .stuck) else .stuck
      | none => .stuck)
    | none => .stuck)
  | _, _ => .stuck
section
variable {X : Cx} {w : Wd} {E : XK} {e : Expr} {ca : EC}
end
end TL
end s_TL79
section s_TL80
set_option Elab.async false
set_option linter.all false
set_option maxRecDepth 100000
set_option maxHeartbeats 4000000
/-! TL80: a def that writes a dict that it was handed: its body -/
namespace TL
open PySem PySem.Spec PyProof.Rows L2
/-! ### the dict itself: y[k], y[k] = e -/
def cIxMe (i : Nat) (ck : EC) : EC := fun r => match r[i]? with
  | some (.me (.dic kts)) => ck r >>= fun k => (match keyT k with | some key => (match dGet kts key with | some x => .ret x | none => .stuck) | none => .stuck)
  | _ => .stuck
def mePut (kts : List (T × T)) (k t : T) : Option (List (T × T)) := if (keyT k).isSome && fits (kts.length + 1) then some (putT kts k t) else none
def cPutMe (i : Nat) (ck ca : EC) : SC := fun r => ca r >>= fun t => match r[i]? with
  | some (.me (.dic kts)) => ck r >>= fun k => (match mePut kts k t with | some kts' => .ret (.nx (r.set i (.me (.dic kts')))) | none => .stuck)
  | _ => .stuck
section
variable {X : Cx} {w : Wd} {E : XK} {fr : Bool} {ca cb ck ce : EC} {x y : Str} {ke ve e1 e2 : Expr} {p0 p1 p2 p3 p4 p5 pos tpos : Pos}
/-! ### statements that end in a return, the slots told -/
abbrev RC := List Sl → G (T × List Sl)
def PostMR (X : Km) (w : Wd) (H0 Z0 : Hp) (D : Ends) : T × List Sl → Prop := fun q => ∀ v σ' H Z' o', EnvR X.km w H0 Z0 q.2 σ' H Z' o' → Tr X.K X.mg w Z' q.1 v → D.rt v H
def EvRM (X : Km) (w : Wd) (E : XK) (c : RC) : TS := fun D σ H => ∃ H0 Z0 r Z o, EnvR X.km w H0 Z0 r σ H Z o ∧ (c r).wp (PostMR X.km w H0 Z0 D) (PostX X.km w E H0 Z0)
structure CSM (X : Cx) (w : Wd) (E : XK) (sts : List Stmt) (c : RC) : Prop where
  ps : PSs X sts (EvRM X.km w E c)
def mRet (ca : EC) : RC := fun r => ca r >>= fun t => .ret (t, r)
/-- return of an own thing: it is frozen -/
def mSeq (c : SC) (d : RC) : RC := fun r => c r >>= fun k => match k with
  | .nx r' => d r'
  | _ => .stuck
def mIf (tc : List Sl → G Bool) (c d : RC) : RC := fun r => tc r >>= fun b => if b then c r else d r
/-- a slot's own thing is frozen first -/
def mFrz (i : Nat) (c : RC) : RC := fun r => c (frzS i r)
theorem CSM.frz (i : Nat) {sts : List Stmt} {c : RC} (h : CSM X w E sts c) : CSM X w E sts (mFrz i c) := by
  refine ⟨pssImp (pss_lk h.ps) fun D σ H q => ?_⟩
  obtain ⟨H0, Z0, r, Z, o, R, h⟩ := q
  exact (R.frz i).imp fun H2 ⟨Z', o', R', s, _⟩ => ⟨H0, Z0, _, Z', o', R', h⟩
end
/-! ### the promise -/
/-- without what stands at a -/
def lessH (H : Hp) (a : Addr) : Hp := fun b => if b = a then none else H b
/-- a def is handed a dict (its j-th thing) that it may write: its answer, and the dict behind it -/
def SpM (pw : Program × World) (K : PySem.W.Frag) (mg : Str → Option Value) (n j : Nat) (F : List T → List (T × T) → G (T × List (T × T))) : Sp := fun vs H Q E => ∃ (w : Wd) (ts : List T) (Z : Hp) (a : Addr) (kts : List (T × T)), (w.wo = pw ∧ w.home = none) ∧ vs.length = n ∧ Good w H Z ∧ Trs K mg w Z ts vs ∧
  vs[j]? = some (.ref a) ∧ Root K mg w Z H (.dic kts) a [a] ∧ Z a = none ∧ a ∉ w.W ∧
  (F ts kts).wp (fun q => ∀ v H' Z', Grow w (lessH H a) Z H' Z' → Root K mg w Z' H' (.dic q.2) a [a] → Z' a = none → Tr K mg w Z' q.1 v → Q v H') (fun e => ∀ cls d H' Z', Grow w (lessH H a) Z H' Z' → ExR K mg w Z' H' e cls d → E cls d H')
def runM (j : Nat) (c : RC) (m : Nat) (ts : List T) (kts : List (T × T)) : G (T × List (T × T)) := c ((ts.map Sl.fz ++ List.replicate (m - ts.length) Sl.un).set j (.me (.dic kts))) >>= fun q => match q.2[j]? with
  | some (.me (.dic kts')) => .ret (q.1, kts')
  | _ => .stuck
section
variable {P : Program} {wd : World} {K : PySem.W.Frag} {mg : Str → Option Value} {base : Heap} {k : Nat} {f : Addr} {fd : FuncData} {ps N : List Str} {x qual : Str} {st : Stmt} {c : RC}
end
/-- it may be called -/
abbrev CallM (P : Program) (wd : World) (K : PySem.W.Frag) (mg : Str → Option Value) (base : Heap) (k : Nat) (x : Str) (n j : Nat) (F : List T → List (T × T) → G (T × List (T × T))) : Prop := CallG P wd K mg base k x (SpM (P, wd) K mg n j F)
section
variable {P : Program} {wd : World} {K : PySem.W.Frag} {mg : Str → Option Value} {base : Heap} {k : Nat} {ps N : List Str} {x qual : Str} {st : Stmt} {c : RC}
end
end TL
end s_TL80
section s_TL81
set_option Elab.async false
set_option linter.all false
set_option maxRecDepth 100000
set_option maxHeartbeats 4000000
/-! TL81: x = f(.., cards[k], ..) where f writes the dict; l.remove(text); y[k], y[l], z = a, b, new -/
namespace TL
open PySem PySem.Spec PyProof.Rows L2
section
variable {K : PySem.W.Frag} {mg : Str → Option Value} {w : Wd} {Z H Z' H' : Hp}
theorem TrQ.call {a : Addr} {t : List (T × T)} {vs : List (Key × V)} (s : Sub Z Z') (hH : H' a = some (.dK vs)) (hl : vs.length ≤ sizeLine) (ht : Trd K mg w Z' t vs) : ∀ {l : List QE} {kvs : List (Key × V)} {qs : List Addr}, TrQ K mg w Z H l kvs qs → (∀ e ∈ l, e.a = a → e.z = false) → (∀ b ∈ qs, b ≠ a → ∀ u, H b = some u → H' b = some u) → TrQ K mg w Z' H' (qSet l a t) kvs qs
  | _, _, _, .nil, _, _ => .nil
  | _, _, _, .own (k := k) (a := b) (t := t0) ek ha hl0 tr r, n, hh => by
    have ih := TrQ.call s hH hl ht r (fun e he => n e (List.mem_cons_of_mem _ he)) fun c hc => hh c (by simp [hc])
    unfold qSet at ih ⊢
    rw [List.map_cons]
    by_cases e : b = a
    · subst e
      rw [if_pos rfl]
      exact .own ek hH hl ht ih
    · rw [if_neg e]
      exact .own ek (hh b (by simp) e _ ha) hl0 (tr.mono s) ih
  | _, _, _, .frz (k := k) (a := b) (t := t0) ek tr r, n, hh => by
    have ih := TrQ.call s hH hl ht r (fun e he => n e (List.mem_cons_of_mem _ he)) hh
    unfold qSet at ih ⊢
    rw [List.map_cons]
    have e : ¬ b = a := fun z => by have := n _ (List.mem_cons_self ..) z; cases this
    rw [if_neg e]
    exact .frz ek (tr.mono s) ih
end
/-! ### the call -/
def qOwn (l : List QE) (a : Addr) : Option (List (T × T)) := match qAd l a with
  | some e => if (l.all fun q => decide (q.a ≠ a) || !q.z) then some e.t else none
  | none => none
def cCallM (i j x n : Nat) (F : List T → List (T × T) → G (T × List (T × T))) (cs : List Sl → G (List T)) : SC := fun r => cs r >>= fun ts => if ts.length = n then (match ts[j]?, r[i]? with
  | some (.adr a), some (.dq l) => (match qOwn l a with
    | some kts => F ts kts >>= fun q => .ret (.nx ((r.set i (.dq (qSet l a q.2))).set x (.fz q.1)))
    | none => .stuck)
  | _, _ => .stuck) else .stuck
section
variable {X : Cx} {w : Wd} {E : XK} {fr : Bool} {ca cb ck ce : EC} {y f : Str} {ke ve e : Expr} {es : List Expr} {p0 p1 p2 pos tpos p p' : Pos} {cs : List Sl → G (List T)} {F : List T → List (T × T) → G (T × List (T × T))} {k k0 n j : Nat}
end
/-! ### l.remove(x), texts -/
def eqks (k : Str) (v : Value) : Bool := match v with
  | .str n _ => n.cps.toList == k.cps.toList
  | _ => false
def rRemS : V → List V → Hp → VK → Prop := fun x xs H Q => ∃ (l : Addr) (ns : List Str) (k : Str) (j : Nat), x = .ref l ∧ xs = [.str k] ∧ H l = some (.lst (ns.map V.str)) ∧ ns[j]? = some k ∧ (∀ m : Nat, m < j → ns[m]? ≠ some k) ∧ Q .non (upd H l (.lst ((ns.eraseIdx j).map V.str)))
section
variable {X : Cx}
def remS (k : Str) : List Str → Option (List Str)
  | [] => none
  | x :: r => if x = k then some r else (remS k r).map (x :: ·)
def mRemove : T → List T → Option T
  | .lst ts, [.str k] => (strTs ts).bind fun ns => (remS k ns).map fun ms => .lst (ms.map T.str)
  | _, _ => none
end
/-! ### y[k], y[l], z = a, b, a new thing -/
def cPar3Me (i z : Nat) (k1 k2 c1 c2 c3 : EC) : SC := fun r => c1 r >>= fun t1 => c2 r >>= fun t2 => c3 r >>= fun t3 => match r[i]? with
  | some (.me (.dic kts)) => k1 r >>= fun q1 => (match mePut kts q1 t1 with
    | some kts1 => k2 (r.set i (.me (.dic kts1))) >>= fun q2 => (match mePut kts1 q2 t2 with
      | some kts2 => .ret (.nx (((r.set i (.me (.dic kts1))).set i (.me (.dic kts2))).set z (.ow t3)))
      | none => .stuck)
    | none => .stuck)
  | _ => .stuck
section
variable {X : Cx} {w : Wd} {E : XK} {fr : Bool} {k1 k2 c1 c2 c3 : EC} {y zn : Str} {e1 e2 e3 i1 i2 : Expr} {p0 p1 p2 p3 p4 pt pos : Pos} {kt k2t : Nat} {pt2 : Pos}
end
end TL
end s_TL81
section s_TL82
set_option Elab.async false
set_option linter.all false
set_option maxRecDepth 100000
set_option maxHeartbeats 4000000
/-! TL82: a copy of an own list; an own list looked at in passing, the answer nested tuples; four names at once -/
namespace TL
open PySem PySem.Spec PyProof.Rows L2
/-! ### nested tuples of plain things -/
mutual
def pureT : T → Bool
  | .tup ts => pureTs ts
  | .non | .bl _ | .int _ | .str _ | .ty _ | .fn _ | .drw => true
  | _ => false
def pureTs : List T → Bool
  | [] => true
  | t :: ts => pureT t && pureTs ts
end
def tupB : HO → Bool
  | .tup _ => true
  | .frz _ (.tup _) => true
  | _ => false
def keepZ (Z Z2 : Hp) : Hp := fun b => match Z2 b with
  | some x => if tupB x = true then some x else Z b
  | none => Z b
theorem keepZ_tup {Z Z2 : Hp} {b : Addr} {x : HO} (h : Z2 b = some x) (ht : tupB x = true) : keepZ Z Z2 b = some x := by
  unfold keepZ
  rw [h]
  simp only [ht, if_true]
section
variable {K : PySem.W.Frag} {mg : Str → Option Value} {w : Wd}
theorem keepZ_sqT {Z Z2 : Hp} {p : Addr} {vs : List V} (h : SqT K Z2 p vs) : SqT K (keepZ Z Z2) p vs := h.elim (fun h => .inl (h.elim (fun e => .inl (keepZ_tup e rfl)) fun ⟨o, e⟩ => .inr ⟨o, keepZ_tup e rfl⟩)) .inr
mutual
theorem Tr.pure {Z Z2 : Hp} : ∀ {t : T} {v : V}, Tr K mg w Z2 t v → pureT t = true → Tr K mg w (keepZ Z Z2) t v
  | _, _, .non, _ => .non
  | _, _, .bl b, _ => .bl b
  | _, _, .int i, _ => .int i
  | _, _, .str x, _ => .str x
  | _, _, .ty n, _ => .ty n
  | _, _, .tup h l r, e => .tup (keepZ_sqT h) l (Trs.pure r (by simpa only [pureT] using e))
  | _, _, .lst h l r, e => by simp only [pureT, Bool.false_eq_true] at e
  | _, _, .dic h l r, e => by simp only [pureT, Bool.false_eq_true] at e
  | _, _, .dn h l n r, e => by simp only [pureT, Bool.false_eq_true] at e
  | _, _, .ins a h d r, e => by simp only [pureT, Bool.false_eq_true] at e
  | _, _, .adr a, e => by simp only [pureT, Bool.false_eq_true] at e
  | _, _, .fn h, _ => .fn h
  | _, _, .drw h, _ => .drw h
  | _, _, .scr h l, e => by simp only [pureT, Bool.false_eq_true] at e
theorem Trs.pure {Z Z2 : Hp} : ∀ {ts : List T} {vs : List V}, Trs K mg w Z2 ts vs → pureTs ts = true → Trs K mg w (keepZ Z Z2) ts vs
  | _, _, .nil, _ => .nil
  | _, _, .cons a b, e => by
    simp only [pureTs, Bool.and_eq_true] at e
    exact .cons (Tr.pure a e.1) (Trs.pure b e.2)
end
end
section
variable {X : Km} {w : Wd} {H0 Z0 H Z : Hp} {r : List Sl} {σ : L2.St} {o : Nat → List Addr}
end
/-- an own list is looked at in passing -/
def cPkP (i : Nat) (c : EC) : EC := fun r => match r[i]? with
  | some (.ow (.lst ts)) => c (r.set i (.fz (.lst ts))) >>= fun t => if pureT t = true then .ret t else .stuck
  | _ => .stuck
section
variable {X : Cx} {w : Wd} {E : XK} {fr : Bool} {e a b c d : Expr} {ca : EC} {l : List (Bool × EC)} {p pos p0 : Pos} {x : Str}
/-- list(x), x a slot's own list -/
def cLstOw (i : Nat) : EC := fun r => match r[i]? with
  | some (.ow (.lst ts)) => .ret (.lst ts)
  | some (.fz (.lst ts)) => .ret (.lst ts)
  | _ => .stuck
end
end TL
end s_TL82
section s_TL83
set_option Elab.async false
set_option linter.all false
set_option maxRecDepth 100000
set_option maxHeartbeats 4000000
/-! TL83: a new thing by an if -/
namespace TL
open PySem PySem.Spec PyProof.Rows L2
section
variable {X : Cx} {w : Wd} {E : XK} {fr : Bool} {ca cb : EC} {tc : List Sl → G Bool} {c a b : Expr} {pos : Pos}
end
end TL
end s_TL83
section s_TL84
set_option Elab.async false
set_option linter.all false
set_option maxRecDepth 100000
set_option maxHeartbeats 4000000
/-! TL84: l.index(x) of texts, x[j], x[k], x[l] = a, b, c, d.clear(), new things called by keywords -/
namespace TL
open PySem PySem.Spec PyProof.Rows L2
/-! ### l.index(x) -/
def rIdxS (K : PySem.W.Frag) : V → List V → Hp → VK → Prop := fun x xs H Q => ∃ (p : Addr) (ns : List Str) (k : Str), x = .ref p ∧ xs = [.str k] ∧ SqL K H p (ns.map V.str) ∧ k ∈ ns ∧ Q (.int ((ns.idxOf k : Nat) : Int)) H
section
variable {X : Cx}
end
def fIndexS : T → List T → G T
  | .lst ts, [.str k] => (match strTs ts with | some ns => if k ∈ ns then .ret (.int ((ns.idxOf k : Nat) : Int)) else .stuck | none => .stuck)
  | _, _ => .stuck
def cIndex (co : EC) (cs : List Sl → G (List T)) : EC := fun r => co r >>= fun o => match o with
  | .lst ts => cs r >>= fun us => fIndexS (.lst ts) us
  | _ => .stuck
section
variable {X : Cx} {w : Wd} {E : XK} {o e : Expr} {co : EC} {cs : List Sl → G (List T)} {apos cpos : Pos}
end
/-! ### x[j], x[k], x[l] = a, b, c -/
def cPut3 (i : Nat) (c1 c2 c3 ca : EC) : SC := fun r => ca r >>= fun t => match t, r[i]? with
  | .tup [t1, t2, t3], some (.ow b) => c1 r >>= fun k1 => (match putAt b k1 t1 with
    | some b1 => c2 (r.set i (.ow b1)) >>= fun k2 => (match putAt b1 k2 t2 with
      | some b2 => c3 ((r.set i (.ow b1)).set i (.ow b2)) >>= fun k3 => (match putAt b2 k3 t3 with | some b3 => .ret (.nx (((r.set i (.ow b1)).set i (.ow b2)).set i (.ow b3))) | none => .stuck)
      | none => .stuck)
    | none => .stuck)
  | _, _ => .stuck
section
variable {X : Cx} {w : Wd} {E : XK} {fr : Bool} {e i1 i2 i3 : Expr} {pos p0 p1 p2 p3 p4 p5 pt : Pos} {ca c1 c2 c3 : EC} {kt : Nat}
end
end TL
end s_TL84
section s_TL85
set_option Elab.async false
set_option linter.all false
set_option maxRecDepth 100000
set_option maxHeartbeats 4000000
/-! TL85: d.clear(); new things by defs that are called with keywords -/
namespace TL
open PySem PySem.Spec PyProof.Rows L2
def cClear (i : Nat) : SC := fun r => match r[i]? with
  | some (.ow (.dic _)) => .ret (.nx (r.set i (.ow (.dic []))))
  | _ => .stuck
section
variable {X : Cx} {w : Wd} {E : XK} {fr : Bool} {pos apos cpos p0 : Pos} {x : Str}
end
structure CallSF (P : Program) (wd : World) (K : PySem.W.Frag) (mg : Str → Option Value) (base : Heap) (k : Nat) (x : Str) (n : Nat) (ks : List Str) (perm : List Nat) (dts : List T) (m : Nat) (F : List T → G T) : Prop where
  ex : ∃ f fd ps dvs ds, mg x = some (.ref f) ∧ PySem.W.keepIn K (.ref f) = true ∧ Vals dvs ds ∧ (∀ (w : Wd) Z, Trs K mg w Z dts dvs) ∧ ps.length = m ∧
    (∀ (s : Shared) (us ws : List Value), K.In s.heap → us.length = n → ws.length = ks.length → BindsTo s fd ⟨us, ks.zip ws⟩ (ps.zip (pickL perm (us ++ ws ++ ds)))) ∧ FnG P wd K mg base k f fd ps (SpF (P, wd) K mg m F)
  len : perm.length = m
  low : ∀ i ∈ perm, i < n + ks.length + dts.length
theorem SpF.pick {pw : Program × World} {K : PySem.W.Frag} {mg : Str → Option Value} {n m : Nat} {perm : List Nat} {dts : List T} {dvs : List V} {F : List T → G T} {vs : List V} {H : Hp} {Q : VK} {E : XK} (h : SpF pw K mg n (fun ts => F (pickL perm (ts ++ dts))) vs H Q E)
    (hd : ∀ (w : Wd) Z, Trs K mg w Z dts dvs) (hp : perm.length = m) (hl : ∀ i ∈ perm, i < n + dts.length) : SpF pw K mg m F (pickL perm (vs ++ dvs)) H Q E := by
  obtain ⟨w, ts, Z, hwo, hn, g, tr, q⟩ := h
  refine ⟨w, pickL perm (ts ++ dts), Z, hwo, ?_, g, pick_trs (tr.append (hd w Z)) perm, q⟩
  rw [pickL_length, hp]
  intro i hi
  have := hl i hi
  rw [List.length_append, hn, ← (hd w Z).length]
  exact this
section
variable {X : Cx} {w : Wd} {E : XK} {j k n m : Nat} {x : Str} {p pos : Pos} {e : Expr} {es : List Expr} {kws : List Keyword} {cs ck : List Sl → G (List T)} {F : List T → G T} {ks : List Str} {perm : List Nat} {dts : List T}
end
section
variable {P : Program} {wd : World} {K : PySem.W.Frag} {mg : Str → Option Value} {base : Heap} {k : Nat} {f : Addr} {fd : FuncData} {ps N : List Str} {x qual : Str} {st : Stmt} {sp : Sp} {c : SC}
end
end TL
end s_TL85
section s_TL86
set_option Elab.async false
set_option linter.all false
set_option maxRecDepth 100000
set_option maxHeartbeats 4000000
/-! TL86: repr of data with dicts -/
namespace TL
open PySem PySem.Spec PyProof.Rows L2
def keyD : Key → PyData
  | .inl i => .int i
  | .inr x => .str x
mutual
def toPyD : T → Option PyData
  | .non => some .none
  | .bl b => some (.bool b)
  | .int i => some (.int i)
  | .str x => some (.str x)
  | .tup xs => (toPysD xs).map .tuple
  | .lst xs => (toPysD xs).map .list
  | .dic kts => (toPykD kts).map .dict
  | _ => none
def toPysD : List T → Option (List PyData)
  | [] => some []
  | t :: ts => (toPyD t).bind fun d => (toPysD ts).map fun ds => d :: ds
def toPykD : List (T × T) → Option (List (PyData × PyData))
  | [] => some []
  | p :: r => (toPypD p).bind fun d => (toPykD r).map fun ds => d :: ds
def toPypD : T × T → Option (PyData × PyData)
  | (k, v) => (keyT k).bind fun key => (toPyD v).map fun d => (keyD key, d)
end
mutual
inductive DpX (K : PySem.W.Frag) (H : Hp) : V → PyData → Prop
  | non : DpX K H .non .none
  | bl (b : Bool) : DpX K H (.bl b) (.bool b)
  | int (i : Int) : DpX K H (.int i) (.int i)
  | str (x : Str) : DpX K H (.str x) (.str x)
  | lst {a : Addr} {xs : List V} {ds : List PyData} : Rd H a (.lst xs) → DpXs K H xs ds → DpX K H (.ref a) (.list ds)
  | tup {a : Addr} {xs : List V} {ds : List PyData} : SqT K H a xs → DpXs K H xs ds → DpX K H (.ref a) (.tuple ds)
  | dic {a : Addr} {kvs : List (Key × V)} {ds : List (PyData × PyData)} : Rd H a (.dK kvs) → DpXk K H kvs ds → DpX K H (.ref a) (.dict ds)
inductive DpXs (K : PySem.W.Frag) (H : Hp) : List V → List PyData → Prop
  | nil : DpXs K H [] []
  | cons {v : V} {vs : List V} {d : PyData} {ds : List PyData} : DpX K H v d → DpXs K H vs ds → DpXs K H (v :: vs) (d :: ds)
inductive DpXk (K : PySem.W.Frag) (H : Hp) : List (Key × V) → List (PyData × PyData) → Prop
  | nil : DpXk K H [] []
  | cons {key : Key} {v : V} {kvs : List (Key × V)} {d : PyData} {ds : List (PyData × PyData)} : DpX K H v d → DpXk K H kvs ds → DpXk K H ((key, v) :: kvs) ((keyD key, d) :: ds)
end
section
variable {K : PySem.W.Frag} {mg : Str → Option Value} {w : Wd} {Z H : Hp}
mutual
theorem Tr.dpx (s : Sub Z H) : ∀ {t : T} {v : V} {d : PyData}, Tr K mg w Z t v → toPyD t = some d → DpX K H v d
  | _, _, _, .non, e => by simp only [toPyD, Option.some.injEq] at e; subst e; exact .non
  | _, _, _, .bl b, e => by simp only [toPyD, Option.some.injEq] at e; subst e; exact .bl b
  | _, _, _, .int i, e => by simp only [toPyD, Option.some.injEq] at e; subst e; exact .int i
  | _, _, _, .str x, e => by simp only [toPyD, Option.some.injEq] at e; subst e; exact .str x
  | _, _, _, .tup h l r, e => by
    simp only [toPyD, Option.map_eq_some_iff] at e
    obtain ⟨ds, e1, rfl⟩ := e
    exact .tup (s.sqT h) (Trs.dpx s r e1)
  | _, _, _, .lst h l r, e => by
    simp only [toPyD, Option.map_eq_some_iff] at e
    obtain ⟨ds, e1, rfl⟩ := e
    exact .lst (.inl (s _ _ h)) (Trs.dpx s r e1)
  | _, _, _, .dic h l r, e => by
    simp only [toPyD, Option.map_eq_some_iff] at e
    obtain ⟨ds, e1, rfl⟩ := e
    exact .dic (Sub.rd s h.rd) (Trd.dpx s r e1)
  | _, _, _, .ty _, e => by simp [toPyD] at e
  | _, _, _, .dn _ _ _ _, e => by simp [toPyD] at e
  | _, _, _, .ins _ _ _ _, e => by simp [toPyD] at e
  | _, _, _, .adr _, e => by simp [toPyD] at e
  | _, _, _, .fn _, e => by simp [toPyD] at e
  | _, _, _, .drw _, e => by simp [toPyD] at e
  | _, _, _, .scr _ _, e => by simp [toPyD] at e
theorem Trs.dpx (s : Sub Z H) : ∀ {ts : List T} {vs : List V} {ds : List PyData}, Trs K mg w Z ts vs → toPysD ts = some ds → DpXs K H vs ds
  | _, _, _, .nil, e => by simp only [toPysD, Option.some.injEq] at e; subst e; exact .nil
  | _, _, _, .cons a b, e => by
    simp only [toPysD, Option.bind_eq_some_iff, Option.map_eq_some_iff] at e
    obtain ⟨d, e1, ds, e2, rfl⟩ := e
    exact .cons (Tr.dpx s a e1) (Trs.dpx s b e2)
theorem Trd.dpx (s : Sub Z H) : ∀ {kts : List (T × T)} {kvs : List (Key × V)} {ds : List (PyData × PyData)}, Trd K mg w Z kts kvs → toPykD kts = some ds → DpXk K H kvs ds
  | _, _, _, .nil, e => by simp only [toPykD, Option.some.injEq] at e; subst e; exact .nil
  | _, _, _, .cons hk a b, e => by
    simp only [toPykD, toPypD, Option.bind_eq_some_iff, Option.map_eq_some_iff] at e
    obtain ⟨p, ⟨key, e0, d, e1, rfl⟩, ds, e2, rfl⟩ := e
    rw [hk] at e0
    cases e0
    exact .cons (Tr.dpx s a e1) (Trd.dpx s b e2)
end
end
theorem Rd.ne {H : Hp} {a : Addr} {u : HO} (h : Rd H a u) : H a ≠ none := by
  rcases h with h | ⟨o, h⟩ <;> (rw [h]; exact fun z => nomatch z)
section
variable {X : Cx} {pins : List (Addr × Obj)} {σ : L2.St} {H : Hp} {s : Shared}
theorem keyD_reads {h : Heap} {key : Key} {v : Value} (e : keyIs key v = true) : Reads h v (keyD key) [] := by
  rcases keyIs_shape e with ⟨i, t, rfl, rfl⟩ | ⟨x, t, rfl, rfl⟩
  · exact .int i t
  · exact .str x t
mutual
theorem DpX.reads (I : Inv X pins σ H s) : ∀ (d : PyData) (v : V) (u : Value), DpX X.K H v d → RelV v u → ∃ as, Reads s.heap u d as ∧ ∀ b ∈ as, H b ≠ none
  | .none, _, _, h, r => by
    cases h
    cases r
    exact ⟨_, Reads.none, fun b hb => (nomatch hb)⟩
  | .bool b, _, _, h, r => by
    cases h
    cases r
    exact ⟨_, Reads.bool b, fun b hb => (nomatch hb)⟩
  | .int i, _, _, h, r => by
    cases h
    obtain ⟨t, rfl⟩ := r
    exact ⟨_, Reads.int i t, fun b hb => (nomatch hb)⟩
  | .str x, _, _, h, r => by
    cases h
    obtain ⟨t, rfl⟩ := r
    exact ⟨_, Reads.str x t, fun b hb => (nomatch hb)⟩
  | .list ds, _, _, h, r => by
    cases h with
    | lst hs ha =>
      cases r
      obtain ⟨its, rv, ⟨o, n, ho, hc, _, hd⟩, _⟩ := I.list (.inl hs)
      obtain ⟨as, hr, hn⟩ := DpXs.reads I ds _ its ha rv
      refine ⟨_, Reads.list ho hc hd hr, fun b hb => ?_⟩
      rcases List.mem_cons.mp hb with rfl | hb
      · exact Rd.ne hs
      · exact hn b hb
  | .tuple ds, _, _, h, r => by
    cases h with
    | tup hs ha =>
      cases r
      obtain ⟨its, rv, ⟨o, ho, hc, n, hd⟩, _⟩ := I.tuple hs
      obtain ⟨as, hr, hn⟩ := DpXs.reads I ds _ its ha rv
      exact ⟨_, Reads.tuple ho hc hd hr, hn⟩
  | .dict ds, _, _, h, r => by
    cases h with
    | @dic a kvs _ hs ha =>
      cases r
      obtain ⟨_, _, vs, rv, o, es, ep, ho, hx, hd, _, hp, _⟩ := dk_rd I.hok hs
      obtain ⟨as, bs, h1, h2, hn1, hn2⟩ := DpXk.reads I ds kvs vs es.toList ha rv hp
      refine ⟨_, Reads.dict ho hx.1 hd h1 h2, fun b hb => ?_⟩
      rcases List.mem_append.mp hb with hb | hb
      · rcases List.mem_cons.mp hb with rfl | hb
        · exact Rd.ne hs
        · exact hn1 b hb
      · exact hn2 b hb
theorem DpXs.reads (I : Inv X pins σ H s) : ∀ (ds : List PyData) (vs : List V) (us : List Value), DpXs X.K H vs ds → Vals vs us → ∃ as, ReadsAll s.heap us ds as ∧ ∀ b ∈ as, H b ≠ none
  | [], _, _, h, r => by
    cases h
    cases r
    exact ⟨_, ReadsAll.nil, fun b hb => (nomatch hb)⟩
  | d :: ds, _, _, h, r => by
    cases h with
    | cons h1 h2 =>
      cases r with
      | cons r1 r2 =>
        obtain ⟨as, q1, n1⟩ := DpX.reads I d _ _ h1 r1
        obtain ⟨bs, q2, n2⟩ := DpXs.reads I ds _ _ h2 r2
        exact ⟨_, ReadsAll.cons q1 q2, fun b hb => (List.mem_append.mp hb).elim (n1 b) (n2 b)⟩
theorem DpXk.reads (I : Inv X pins σ H s) : ∀ (ds : List (PyData × PyData)) (kvs : List (Key × V)) (vs : List (Key × Value)) (es : List DictEntry), DpXk X.K H kvs ds → KV kvs vs → Pairs (mixKind X.prog X.w) es vs →
    ∃ as bs, ReadsAll s.heap (es.map (·.key)) (ds.map (·.1)) as ∧ ReadsAll s.heap (es.map (·.val)) (ds.map (·.2)) bs ∧ (∀ b ∈ as, H b ≠ none) ∧ ∀ b ∈ bs, H b ≠ none
  | [], _, _, _, h, r, p => by
    cases h
    cases r
    cases p
    exact ⟨_, _, ReadsAll.nil, ReadsAll.nil, fun b hb => (nomatch hb), fun b hb => (nomatch hb)⟩
  | d :: ds, _, _, _, h, r, p => by
    cases h with
    | @cons key v kvs d' _ h1 h2 =>
      cases r with
      | cons r1 r2 =>
        cases p with
        | cons p1 p2 p3 =>
          obtain ⟨as, q1, n1⟩ := DpX.reads I d' _ _ h1 r1.2
          obtain ⟨as2, bs2, q2, q3, n2, n3⟩ := DpXk.reads I ds _ _ _ h2 r2 p3
          refine ⟨_, _, ReadsAll.cons (keyD_reads ?_) q2, ReadsAll.cons ?_ q3, fun b hb => n2 b (by simpa using hb), fun b hb => (List.mem_append.mp hb).elim (n1 b) (n3 b)⟩
          · have e := r1.1
            dsimp only at e ⊢
            rw [e]; exact p1
          · dsimp only
            rw [p2]; exact q1
end
end
def rReprD (K : PySem.W.Frag) : List V → Hp → VK → Prop := fun xs H Q => ∃ x d, xs = [x] ∧ DpX K H x d ∧ d.showable = true ∧ d.depth ≤ 60 ∧ d.shown.length ≤ sizeLine ∧ Q (.str d.shown) H
section
variable {X : Cx} {M : Km} {w : Wd} {E : XK} {k : Nat}
def fReprD : List T → G T
  | [t] => match toPyD t with
    | some d => if d.showable && decide (d.depth ≤ 60) && fits d.shown.length then .ret (.str d.shown) else .stuck
    | none => .stuck
  | _ => .stuck
end
/-! ### the law's end: the base has an object at sysModules -/
end TL
end s_TL86
section s_TL87
set_option Elab.async false
set_option linter.all false
set_option maxRecDepth 100000
set_option maxHeartbeats 4000000
/-! TL87: a text so many times -/
namespace TL
open PySem PySem.Spec PyProof.Rows L2
def rMulS : R2 := fun x y H Q => ∃ (s : Str) (i : Int), x = .str s ∧ y = .int i ∧ s.length ≤ 16 ∧ -(2 ^ 63 : Int) ≤ i ∧ i ≤ 1048576 ∧ Q (.str (Txt.mul s i)) H
def fMulS : T → T → G T
  | .str s, .int i => if s.length ≤ 16 ∧ -(2 ^ 63 : Int) ≤ i ∧ i ≤ 1048576 then .ret (.str (Txt.mul s i)) else .stuck
  | _, _ => .stuck
section
variable {X : Cx} {M : Km} {w : Wd} {E : XK}
end
end TL
end s_TL87
section s_TL88
set_option Elab.async false
set_option linter.all false
set_option maxRecDepth 100000
set_option maxHeartbeats 4000000
/-! TL88: trees that are data with dicts, their repr -/
namespace TL
open PySem PySem.Spec PyProof.Rows L2
mutual
theorem toPyD_of : ∀ {t : T} {d : PyData}, toPy t = some d → toPyD t = some d
  | .non, d, e => e
  | .bl _, d, e => e
  | .int _, d, e => e
  | .str _, d, e => e
  | .tup xs, d, e => by
    simp only [toPy, Option.map_eq_some_iff] at e
    obtain ⟨ds, e1, rfl⟩ := e
    simp only [toPyD, toPysD_of e1, Option.map_some]
  | .lst xs, d, e => by
    simp only [toPy, Option.map_eq_some_iff] at e
    obtain ⟨ds, e1, rfl⟩ := e
    simp only [toPyD, toPysD_of e1, Option.map_some]
  | .ty _, d, e => by simp [toPy] at e
  | .dic _, d, e => by simp [toPy] at e
  | .dn _, d, e => by simp [toPy] at e
  | .ins _ _, d, e => by simp [toPy] at e
  | .adr _, d, e => by simp [toPy] at e
  | .fn _, d, e => by simp [toPy] at e
  | .drw, d, e => by simp [toPy] at e
  | .scr _, d, e => by simp [toPy] at e
theorem toPysD_of : ∀ {ts : List T} {ds : List PyData}, toPys ts = some ds → toPysD ts = some ds
  | [], ds, e => e
  | t :: ts, ds, e => by
    simp only [toPys, Option.bind_eq_some_iff, Option.map_eq_some_iff] at e
    obtain ⟨d, e1, ds', e2, rfl⟩ := e
    simp only [toPysD, toPyD_of e1, toPysD_of e2, Option.bind_some, Option.map_some]
end
structure RD (n m : Nat) (t : T) (d : PyData) : Prop where
  py : toPyD t = some d
  sh : d.showable = true
  dp : d.depth ≤ n
  ln : d.shown.length ≤ m
structure RDs (n m : Nat) (ts : List T) (ds : List PyData) : Prop where
  py : toPysD ts = some ds
  sh : PyData.showableAll ds = true
  dp : PyData.depthAll ds ≤ n
  ln : piled (PyData.shownAll ds) ≤ m
structure RDk (n m : Nat) (ts : List (T × T)) (ds : List (PyData × PyData)) : Prop where
  py : toPykD ts = some ds
  sh : PyData.showableKv ds = true
  dp : PyData.depthKv ds ≤ n
  ln : piled (PyData.shownKv ds) ≤ m
theorem RO.rd {n m : Nat} {t : T} {d : PyData} (h : RO n m t d) : RD n m t d := ⟨toPyD_of h.py, h.sh, h.dp, h.ln⟩
theorem RD.mono {n m n' m' : Nat} {t : T} {d : PyData} (h : RD n m t d) (h1 : n ≤ n') (h2 : m ≤ m') : RD n' m' t d := ⟨h.py, h.sh, Nat.le_trans h.dp h1, Nat.le_trans h.ln h2⟩
theorem RDs.mono {n m n' m' : Nat} {t : List T} {d : List PyData} (h : RDs n m t d) (h1 : n ≤ n') (h2 : m ≤ m') : RDs n' m' t d := ⟨h.py, h.sh, Nat.le_trans h.dp h1, Nat.le_trans h.ln h2⟩
theorem RDk.mono {n m n' m' : Nat} {t : List (T × T)} {d : List (PyData × PyData)} (h : RDk n m t d) (h1 : n ≤ n') (h2 : m ≤ m') : RDk n' m' t d := ⟨h.py, h.sh, Nat.le_trans h.dp h1, Nat.le_trans h.ln h2⟩
theorem RDs.nil {n : Nat} : RDs n 0 [] [] := ⟨rfl, rfl, Nat.zero_le _, Nat.le_refl _⟩
theorem RDs.cons {n m k : Nat} {t : T} {d : PyData} {ts : List T} {ds : List PyData} (h : RD n m t d) (r : RDs n k ts ds) : RDs n (m + 2 + k) (t :: ts) (d :: ds) := by
  refine ⟨by simp [toPysD, h.py, r.py], by simp [PyData.showableAll, h.sh, r.sh], ?_, ?_⟩
  · simp only [PyData.depthAll]
    exact Nat.max_le.mpr ⟨h.dp, r.dp⟩
  · simp only [PyData.shownAll, piled_cons]
    have := h.ln; have := r.ln
    omega
theorem RDk.nil {n : Nat} : RDk n 0 [] [] := ⟨rfl, rfl, Nat.zero_le _, Nat.le_refl _⟩
theorem RDk.cons {n m k mk : Nat} {x : Str} {t : T} {d : PyData} {ts : List (T × T)} {ds : List (PyData × PyData)} (hk : RD n mk (.str x) (.str x)) (h : RD n m t d) (r : RDk n k ts ds) : RDk n (mk + m + 4 + k) ((.str x, t) :: ts) ((.str x, d) :: ds) := by
  refine ⟨by simp [toPykD, toPypD, keyT, keyD, h.py, r.py], by simp [PyData.showableKv, hk.sh, h.sh, r.sh], ?_, ?_⟩
  · simp only [PyData.depthKv]
    exact Nat.max_le.mpr ⟨Nat.max_le.mpr ⟨hk.dp, h.dp⟩, r.dp⟩
  · simp only [PyData.shownKv, piled_cons, Str.length_append]
    have := hk.ln; have := h.ln; have := r.ln
    have l1 : ((": " : Str)).length = 2 := by decide +kernel
    rw [l1]
    omega
theorem dictText_len (ts : List Str) : (dictText ts).length ≤ piled ts + 2 := by
  unfold dictText
  rw [Str.length_append, Str.length_append]
  have l1 : (("{" : Str)).length = 1 := by decide +kernel
  have l2 : (("}" : Str)).length = 1 := by decide +kernel
  have l3 : (Str.join ", " ts).length ≤ piled ts := by
    by_cases e : ts = []
    · subst e; decide +kernel
    · have := join_length_add ts e; omega
  rw [l1, l2]
  omega
theorem RD.tup {n m : Nat} {ts : List T} {ds : List PyData} (h : RDs n m ts ds) : RD (n + 1) (m + 3) (.tup ts) (.tuple ds) :=
  ⟨by simp [toPyD, h.py], by simp [PyData.showable, h.sh], by simp only [PyData.depth]; have := h.dp; omega,
    by simp only [PyData.shown]; have := tupleText_len (PyData.shownAll ds); have := h.ln; omega⟩
theorem RD.lst {n m : Nat} {ts : List T} {ds : List PyData} (h : RDs n m ts ds) : RD (n + 1) (m + 3) (.lst ts) (.list ds) :=
  ⟨by simp [toPyD, h.py], by simp [PyData.showable, h.sh], by simp only [PyData.depth]; have := h.dp; omega,
    by simp only [PyData.shown]; have := listText_len (PyData.shownAll ds); have := h.ln; omega⟩
theorem RD.dic {n m : Nat} {ts : List (T × T)} {ds : List (PyData × PyData)} (h : RDk n m ts ds) : RD (n + 1) (m + 3) (.dic ts) (.dict ds) :=
  ⟨by simp [toPyD, h.py], by simp [PyData.showable, h.sh], by simp only [PyData.depth]; have := h.dp; omega,
    by simp only [PyData.shown]; have := dictText_len (PyData.shownKv ds); have := h.ln; omega⟩
theorem RD.repr {n m : Nat} {t : T} {d : PyData} (h : RD n m t d) (hn : n ≤ 60) (hm : m ≤ 16777216) : fReprD [t] = .ret (.str d.shown) := by
  unfold fReprD
  simp only [h.py]
  show (if d.showable && decide (d.depth ≤ 60) && fits d.shown.length then G.ret (T.str d.shown) else .stuck) = _
  have h1 : decide (d.depth ≤ 60) = true := decide_eq_true (Nat.le_trans h.dp hn)
  have h2 : fits d.shown.length = true := decide_eq_true (Nat.le_trans h.ln hm)
  rw [h.sh, h1, h2]
  rfl
end TL
end s_TL88
section s_TL89
set_option Elab.async false
set_option linter.all false
set_option maxRecDepth 100000
set_option maxHeartbeats 4000000
/-! TL89: {k: v}, k a nested tuple -/
namespace TL
open PySem PySem.Spec PyProof.Rows L2
section
variable {X : Cx} {w : Wd} {E : XK} {pos : Pos} {ke ve : Expr} {ck cv : EC}
def tDisp1N (X : Cx) (tk tv : TE) : TE := fun σ H Q => ∀ p, H p = none → tk σ (upd H p (dnOp X.km.pw p 0 [])) fun x H1 => tv σ H1 fun y H2 => H2 p = some (dnOp X.km.pw p 0 []) ∧
  ∃ (a : Addr) (dt : PyData) (k : NestedKey), x = .ref a ∧ Dp X.K H2 (.ref a) dt ∧ nkD dt = some k ∧ k.depth ≤ 8 ∧ ∀ ep, Q (.ref p) (upd H2 p (dnOp X.km.pw p ep [(k, a, y)]))
def cDisp1N (ck cv : EC) : EC := fun r => ck r >>= fun k => cv r >>= fun v => if (tupKey k).isSome then .ret (.dn [(k, v)]) else .stuck
end
end TL
end s_TL89
section s_TL90
set_option Elab.async false
set_option linter.all false
set_option maxRecDepth 100000
set_option maxHeartbeats 4000000
/-! TL90: an own dict looked at in passing, the answer nested tuples -/
namespace TL
open PySem PySem.Spec PyProof.Rows L2
section
variable {X : Km} {w : Wd} {H0 Z0 H Z : Hp} {r : List Sl} {σ : L2.St} {o : Nat → List Addr}
end
def cPkD (i : Nat) (c : EC) : EC := fun r => match r[i]? with
  | some (.ow (.dic kts)) => c (r.set i (.fz (.dic kts))) >>= fun t => if pureT t = true then .ret t else .stuck
  | _ => .stuck
section
variable {X : Cx} {w : Wd} {E : XK} {fr : Bool} {e a b c d : Expr} {ca : EC} {p pos p0 : Pos} {x : Str}
end
end TL
end s_TL90
section s_TL91
set_option Elab.async false
set_option linter.all false
set_option maxRecDepth 100000
set_option maxHeartbeats 4000000
/-! TL91: exception classes whose __init__ says super().__init__(a); self.f = a -/
namespace TL
open PySem PySem.Spec PyProof.Rows L2
/-- a def that leans on the class D by its cell cc -/
structure SupF (K : PySem.W.Frag) (file : Str) (fI D cc : Addr) (qual : Str) (pa : Arguments) (body : List Stmt) (sc : Scope) (fd : FuncData) (cda : Addr) : Prop where
  ex : ∃ (nm : Str) (oc : Value) (od : Option Addr) (osl : Array (Option Value)) (dV kV doc pm : Value) (an : Option Addr) (ct : Value), fd = PySem.W.ksFn nm qual pa body sc dV kV doc pm an (.ref cda) ct cc ∧ K.lookup fI = some ⟨oc, od, .func fd, osl⟩
  cd : PySem.W.codeIn K (.ref cda) qual = true
  rec_ : ∃ (ccl : Value) (cdd : Option Addr) (vs : Array Value) (ccs : Array (Option Value)) (tf : Tok), K.lookup cda = some ⟨ccl, cdd, .fields vs, ccs⟩ ∧ vs[2]? = some (.str file tf)
  cell : ∃ (cl : Value) (cld : Option Addr) (csl : Array (Option Value)), K.lookup cc = some ⟨cl, cld, .cell (some (.ref D)), csl⟩
  cls : ∃ cdD, PySem.W.clsIn K D = some cdD
/-- the names of such a body -/
structure SupS (sc : Scope) (a : Str) : Prop where
  kind : sc.kind = .function
  co : sc.isCoroutine = false
  gen : sc.isGenerator = false
  ncell : ∀ y ∈ sc.names, y.2 ≠ .cell
  free : ∀ y, sc.names.lookup y = some .free → y = "__class__"
  cls : sc.names.lookup ("__class__" : Str) = some .free
  sup : sc.names.lookup ("super" : Str) = some .globalImplicit
  self : sc.names.lookup ("self" : Str) = some .local
  arg : sc.names.lookup a = some .local
  ne : a ≠ ("self" : Str)
def SpSup (C : Addr) (f : Str) : Sp := fun vs H Q _ => ∃ (a : Addr) (x : V), vs = [.ref a, x] ∧ H a = some (exo a C none) ∧ ∀ dx, H dx = none → dx ≠ a → Q .non (upd (upd H dx (exd dx [(f, x)])) a (exo a C (some dx)))
/-- the context of such a body -/
abbrev supEnv (qual : Str) (sc : Scope) (L fI : Addr) (cda cc : Addr) : Env := PySem.W.ksEnv qual sc L fI (.ref cda) cc
def supCx (CX : CXT) (P : Program) (w : World) (K : PySem.W.Frag) (mg : Str → Option Value) (base : Heap) (a qual : Str) (sc : Scope) (fI cda cc : Addr) (A : Around) (outer : List Env) (s : Shared) (H : Hp) (Q : VK) (E : XK) : Cx where
  prog := P
  w := w
  K := K
  mg := mg
  base := base
  A := A.deeper (supEnv qual sc s.heap.objs.size fI cda cc)
  N := ["self", a]
  s_0 := s
  H_0 := H
  env := supEnv qual sc s.heap.objs.size fI cda cc
  outer := outer
  stack := supEnv qual sc s.heap.objs.size fI cda cc :: outer
  ex := []
  fn := fun _ => false
  calm := true
  pn := []
  xe := fun e s' => wpAny (model P w) (A.deeper (supEnv qual sc s.heap.objs.size fI cda cc)) (leaving (supEnv qual sc s.heap.objs.size fI cda cc) e) (fun _ s'' => CR CX outer P w H s Q E (.error e) s'') (fun e' s'' => CR CX outer P w H s Q E (.error e') s'') s'
section
variable {CX : CXT} {P : Program} {w : World} {K : PySem.W.Frag} {mg : Str → Option Value} {base : Heap} {a qual file f : Str} {sc : Scope} {fI D C cc cda : Addr} {pa : Arguments} {body : List Stmt} {fd : FuncData} {A : Around} {outer : List Env} {s s1 : Shared} {H : Hp} {Q : VK} {E : XK}
theorem SupF.cellAt (S : SupF K file fI D cc qual pa body sc fd cda) {h : Heap} (X : K.In h) : h.IsCell cc (some (.ref D)) := by
  obtain ⟨cl, cld, csl, e⟩ := S.cell
  exact ⟨_, X _ _ e, rfl⟩
theorem sup_start (S : SupF K file fI D cc qual pa body sc fd cda) (N : SupS sc a) (hd : A.handled = none) (e0 : Env0 P w K mg base A outer s H) {u0 u1 : Value} {v0 v1 : V} (r0 : RelV v0 u0) (r1 : RelV v1 u1) {h1 : Heap} {tk : Nat}
    (hns : h1.Ns s.heap.objs.size (fun y => ([("self", u0), (a, u1)] : List (Str × Value)).reverse.lookup y)) (k : ∀ b o, s.heap.get? b = some o → h1.get? b = some o) :
    Inv (supCx CX P w K mg base a qual sc fI cda cc A outer s H Q E) [] [some v0, some v1] H { s with heap := h1, toks := tk } := by
  have KX : K.In s.heap := e0.mod.kin.keeps fun b o e => (e0.bs b o e).1
  have noE : ∀ b : Addr, b ∉ (supCx CX P w K mg base a qual sc fI cda cc A outer s H Q E).ex := fun b z => absurd (show b ∈ ([] : List Addr) from z) (by simp)
  have cl1 : ∀ {y : Str} {c : Addr}, ([("__class__", cc)] : List (Str × Addr)).lookup y = some c → y = "__class__" ∧ c = cc := fun {y c} e => by
    rw [List.lookup_cons] at e
    split at e
    · rename_i hy
      exact ⟨beq_iff_eq.mp hy, (Option.some.inj e).symm⟩
    · cases e
  have H0c : H cc = none := by
    obtain ⟨cl, cld, csl, e⟩ := S.cell
    exact (e0.bs cc _ (e0.mod.kin _ _ e)).2
  refine ⟨⟨e0.mod, N.kind, rfl, rfl, Nat.le_refl _, fun x y c h1 h2 => by rw [(cl1 h1).1, (cl1 h2).1], fun x hx => ?_, fun x c hf _ => ?_, fun _ => hd, Around.frames_deeper e0.frames, .inr ⟨rfl, rfl⟩, fun b z => absurd z (noE b), e0.bs, e0.bsz, fun b _ _ => noE b, fun b z => absurd z (noE b), e0.funs, e0.frf⟩,
    rfl, e0.bare, Un.kept k, ⟨_, hns, fun i y v e1 e2 e3 => ?_⟩, fun y c e => ?_, e0.hok.fresh (Nat.le_refl _), fun y c e => by rw [(cl1 e).2]; exact H0c, fun p hp => absurd (show p ∈ ([] : List (Addr × Obj)) from hp) (by simp), e0.hok.kept k, rfl⟩
  · rcases hx with hx | hx
    · exact absurd rfl (N.ncell _ (PySem.mem_of_lookup (show sc.names.lookup x = some .cell from hx)))
    · refine ⟨cc, ?_⟩
      rw [N.free x hx]
      show List.lookup ("__class__" : Str) [("__class__", cc)] = some cc
      rw [List.lookup_cons, beq_self_eq_true]
  · cases (show false = true from hf)
  · have ne : (("self" : Str) == a) = false := by simpa using Ne.symm N.ne
    match i, e1, e2 with
    | 0, e1, e2 =>
      cases e1; cases e2
      refine ⟨u0, r0, .inl ⟨N.self, ?_⟩⟩
      show List.lookup ("self" : Str) [(a, u1), ("self", u0)] = some u0
      rw [List.lookup_cons, ne]
      show List.lookup ("self" : Str) [("self", u0)] = some u0
      rw [List.lookup_cons, beq_self_eq_true]
    | 1, e1, e2 =>
      cases e1; cases e2
      refine ⟨u1, r1, .inl ⟨N.arg, ?_⟩⟩
      show List.lookup a [(a, u1), ("self", u0)] = some u1
      rw [List.lookup_cons, beq_self_eq_true]
    | i + 2, e1, e2 => simp at e2
  · obtain ⟨_, rfl⟩ := cl1 e
    exact ⟨_, S.cellAt (KX.keeps k)⟩
end
end TL
end s_TL91
section s_TL92
set_option Elab.async false
set_option linter.all false
set_option maxRecDepth 100000
set_option maxHeartbeats 4000000
/-! TL92: such a body walked; the promise of such an __init__ -/
namespace TL
open PySem PySem.Spec PyProof.Rows L2
/-- what is asked of the class C, of which an instance is made, and of the class D of the body -/
structure SupK (K : PySem.W.Frag) (C D : Addr) (f : Str) : Prop where
  oex : OexC K C
  bnd : ∃ bmB, PySem.W.excInitIn K C bmB "ValueError.__new__" = true ∧ ExcBaseFacts "ValueError" "ValueError.__new__" "ValueError.__init__" bmB
  sub : PySem.W.mroIn K C (.ref D) = some true
  sup : PySem.W.ks_superIn K C D "__init__" = some (some (.builtin "ValueError.__init__"))
  ve : PySem.W.subIn K (.ref C) (.type "ValueError") = some true
  no : PySem.W.findIn K (.ref C) f = some none
  st : PySem.W.nsIn K cStatics "thirdparty.any" = some none
section
variable {CX : CXT} {P : Program} {w : World} {K : PySem.W.Frag} {mg : Str → Option Value} {base : Heap} {a qual file f : Str} {sc : Scope} {fI D C cc cda : Addr} {pa : Arguments} {body : List Stmt} {fd : FuncData} {A : Around} {outer : List Env} {s s1 : Shared} {H : Hp} {Q : VK} {E : XK}
/-- super().__init__(a) -/
theorem sup_call {X : Cx} {σ : L2.St} {H : Hp} {s : Shared} {x : Addr} {v1 : V} {p0 p1 ap p2 p3 : Pos} {ar : Arg} {Ac : Around} {Q' : Value → Shared → Prop} (S : SupF X.K file fI D cc qual pa body sc fd cda) (N : SupS sc a) (T : SupK X.K C D f)
    (hA : X.A = Ac) (hE : ∃ L, X.env = supEnv qual sc L fI cda cc) (hN : X.N = [("self" : Str), a]) (har : (pa.posonlyargs ++ pa.args).head? = some ar) (har2 : ar.arg = "self") (hfile : ((X.prog.main.file : Str) == file) = true) (htop : (X.prog.main.scope.names.lookup ("super" : Str)).isSome = false) (hms : X.mg "super" = none) (hpn : X.pn = []) {pl : Sem Bool}
    (he : eval (.Call (.Attribute (.Call (.Name "super" p0) [] [] p1) "__init__" ap) [.Name a p2] [] p3) X.env = (do
      let ov ← attributeBase (.Call (.Name "super" p0) [] [] p1) "__init__" X.env (eval (.Call (.Name "super" p0) [] [] p1) X.env)
      standAt ap.atName
      let (g, l) ← holding [ov] (getMethod ov "__init__" pl)
      callWith p3 g l (backTo p3 (starEach [.Name a p2] X.env)) []))
    (hda : (a == ("__debug__" : Str)) = false) (hdc : (a == ("__classdict__" : Str)) = false)
    (I : Inv X [] σ H s) (h0 : σ[0]? = some (some (.ref x))) (h1 : σ[1]? = some (some v1)) (hx : H x = some (exo x C none)) (hQ : ∀ s', Inv X [] σ H s' → Q' .none s') :
    _root_.PySem.wpAt (model X.prog X.w) X.A (.func body X.env) (eval (.Call (.Attribute (.Call (.Name "super" p0) [] [] p1) "__init__" ap) [.Name a p2] [] p3) X.env) Q' X.xe s := by
  obtain ⟨nm, oc, od, osl, dV, kV, doc, pm, an, ct, rfl, lk⟩ := S.ex
  obtain ⟨ccl, cdd, vs, ccs, tf, lc, hvs⟩ := S.rec_
  obtain ⟨cdD, hcd⟩ := S.cls
  obtain ⟨L, eL⟩ := hE
  have KX := I.kIn
  have ks : X.env.kindOf "super" = some .globalImplicit := by rw [eL]; exact N.sup
  have kc : X.env.kindOf "__class__" = some .free := by rw [eL]; exact N.cls
  have kk : X.env.scope.kind = .function := I.ok.kind
  obtain ⟨mb, hb1, hb2⟩ := I.ok.mod.blt
  obtain ⟨t1, ho⟩ := exo_at I.hok hx
  obtain ⟨oD, hD1, hD2⟩ : ∃ oD, s.heap.get? D = some oD ∧ oD.data = .cls cdD := by
    unfold PySem.W.clsIn at hcd
    split at hcd
    · rename_i c d cd' sl ho
      cases hcd
      exact ⟨_, KX _ _ ho, rfl⟩
    · cases hcd
  have hne : x ≠ C := fun e => by
    obtain ⟨nm', q', N', bs', bm', sn', sub', ab', col', dd', k0, k1, k2, k3, k5, hC, _⟩ := T.oex.cls
    have := KX _ _ hC
    rw [← e, ho] at this
    cases this
  refine PySem.ks_wpAt_MethodCall (PySem.ks_wpAt_super_base (f := fI) (cc := cda) ks kc rfl (by rw [eL]) (KX _ _ lk) rfl (show (pa.posonlyargs ++ pa.args).head? = some ar from har) (by rw [eL]) (KX _ _ lc) rfl hvs hfile htop ?_) he
  refine PySem.W.ks_loadName_global kk ks (Calls.loadGlobal_builtin (show s.heap.Ns X.env.globals X.mg by rw [I.ok.glob]; exact I.ok.mod.glob.keeps I.bk) hms (show s.heap.Ns X.env.builtins mb by rw [I.ok.blt]; exact hb1.keeps I.bk) ((hb2 _ (by decide)).trans (show bootBuiltins "super" = some (.type "super") from PyProof.Rows.Boot.«super»)) ⟨rfl, ?_⟩)
  refine wpAny_loadName_free kk kc (c := cc) (by rw [eL]; rfl) (S.cellAt KX) ?_
  obtain ⟨m, hns, hl⟩ := id I.loc
  obtain ⟨u0, r0, lo⟩ := hl 0 "self" (.ref x) (by rw [hN]; rfl) h0 (.inl (by rw [eL]; exact N.self))
  cases r0
  have hself : X.env.kindOf "self" = some .local := by rw [eL]; exact N.self
  have hm : m "self" = some (.ref x) := by
    rcases lo with ⟨_, e⟩ | ⟨e, _⟩
    · exact e
    · rw [hself] at e; rcases e with e | e <;> cases e
  rw [har2]
  refine wpAny_loadName_local kk hself hns hm ?_
  refine PySem.ks_wpAny_isType_cls hD1 hD2 ⟨rfl, ?_⟩
  refine PySem.ks_wpAny_call_super hD1 hD2 ho rfl (fun c e => by cases e) (PySem.W.looks_mroIn KX T.sub) (fun h' hso k => ?_)
  have I1 : Inv X [] σ H { s with heap := h', toks := s.toks } := I.kept k
  have K1 := I1.kIn
  obtain ⟨nm', q', N', bs', bm', sn', sub', ab', col', dd', k0, k1, k2, k3, k5, hC, hbm⟩ := T.oex.cls
  have hcl : PySem.W.clsIn X.K C = some { name := nm', bases := bs', mro := .ref C :: bm', ns := N', qualname := q', hasDict := true, slotNames := sn', subclasses := sub', abstract := ab', collection := col', hasDel := false } := by unfold PySem.W.clsIn; rw [hC] <;> rfl
  have hsup := T.sup
  unfold PySem.W.ks_superIn at hsup
  rw [hcl] at hsup
  have ISx : PySem.W.InstAt h' x { cls := .ref C, dict := none, data := .fields #[.ref t1, .none, .none, .none, .bool false, .none] } C none := ⟨k _ _ ho, rfl, rfl, trivial⟩
  refine PySem.W.kxs_getMethod PySem.W.kxs_ValueError hso (PySem.W.looks_opaque K1 T.st) (l₀ := .ref C :: bm') (fun A' Q' E' s' k' q' => wpAny_bind ((PySem.W.looks_clsIn K1 hcl) A' _ E' s' k' (wpAny_pure q'))) rfl K1 hsup (ISx.type.andThen (PySem.W.looks_subIn K1 T.ve)) hne rfl ?_
  show wpAny _ _ (callWith p3 (.ref h'.objs.size) [] (backTo p3 (starEach [.Name a p2] X.env)) []) _ _ _
  have kp : ∀ b o, h'.get? b = some o → (h'.push (PySem.W.kxs_mw "ValueError.__init__" x)).get? b = some o := fun b o e => Heap.get?_push_of_some _ e
  have I2 : Inv X [] σ H { s with heap := h'.push (PySem.W.kxs_mw "ValueError.__init__" x), toks := s.toks + 1 } := I1.kept kp
  have hmw : (h'.push (PySem.W.kxs_mw "ValueError.__init__" x)).get? h'.objs.size = some (PySem.W.kxs_mw "ValueError.__init__" x) := Heap.get?_push_at rfl rfl
  refine PySem.W.kxs_callWith (i := "ValueError.__init__") (x := x) rfl (PySem.Calls.evalArgs_plain ?_)
  have hpa := pa_cons (X := X) (pe_var (pos := p2) (i := 1) (by rw [hN]; rfl) (.inl (by rw [eL]; exact N.arg)) hda hdc) pa_nil
  have uF : H h'.objs.size = none := I1.hok.fresh (Nat.le_refl _)
  have uL : h'.objs.size ≠ X.env.locals := Nat.ne_of_gt I1.lt
  have uf : h'.objs.size ∉ X.fs := I1.nofs (Nat.le_refl _)
  have epn : X.pn = [] := hpn
  have I2' : Inv X [(h'.objs.size, PySem.W.kxs_mw "ValueError.__init__" x)] σ H { s with heap := h'.push (PySem.W.kxs_mw "ValueError.__init__" x), toks := s.toks + 1 } :=
    ⟨I2.ok, I2.os, I2.bare, I2.base, I2.loc, I2.cell, I2.free, I2.freeC, fun p hp => by
      rw [epn, List.nil_append, List.mem_singleton] at hp
      subst hp
      exact ⟨hmw, uF, uL, uf, fun v z => by cases z⟩, I2.hok, I2.len⟩
  refine thn (hpa.run p3 [(h'.objs.size, PySem.W.kxs_mw "ValueError.__init__" x)] _ σ H (fun ws H3 => ws = [v1] ∧ H3 = H) I2' ⟨v1, h1, rfl, rfl⟩) fun us s3 ⟨ws, H3, I3, r3, ew, eH⟩ => ?_
  subst ew
  subst eH
  have hu := (I3.pin _ (List.mem_append_right _ (List.mem_singleton.mpr rfl))).1
  refine ⟨hu, ?_⟩
  have hlen : us.length ≤ sizeLine := by
    rw [← r3.length, sizeLine_eq]
    show 1 ≤ _
    omega
  obtain ⟨bmB, hin, FB⟩ := T.bnd
  obtain ⟨nm2, N2, qn2, bs2, bm2, hd2, sn2, sub2, ab2, col2, dd2, c0, c1, c2, c3, c5, hC2, _⟩ := PySem.W.excInit_of I3.kIn hin
  obtain ⟨t3, ho3⟩ := exo_at I3.hok hx
  obtain ⟨hp, g, d, tk, os⟩ := s3
  refine wpAny_call (codeAny_of_tree ?_)
  show wpAny _ X.A.in1 (callAny (.ref h'.objs.size) ⟨us, []⟩) _ _ _
  simp only [callAny]
  refine wpAny_bind (wpAny_load hu ?_)
  have b1 : (Value.type "method-wrapper" == Value.type "method") = false := by decide
  have b2 : (Value.type "method-wrapper" == Value.type "builtin_function_or_method") = false := by decide
  have b3 : (Value.type "method-wrapper" == Value.type "method-wrapper") = true := by decide
  simp only [PySem.W.kxs_mw, b1, b2, b3, Bool.false_or, Bool.or_true, if_true]
  refine PySem.W.KFB.if_so (by decide) ?_
  refine wpAny_bind (PySem.W.check_bound_init FB.toExcCallFacts hC2 ho3 rfl ?_)
  refine wpAny_bind (wpAny_pure (wpAny_pure ?_))
  refine ⟨plainId_quiet FB.init.plain _, codeAny_builtin FB.initEntry ?_⟩
  refine PySem.W.exc_init_tree (cls := .ref C) (t0 := t3) (dv := none) (c2 := .none) (c3 := .none) (b4 := .bool false) ho3 hlen fun h4 k4 e4 _ => ?_
  have J := I3.write (t' := tk) (x := x) (e := x) (o := exo x C none) (by rw [hx]; exact True.intro) (.inl rfl) k4 ⟨_, e4⟩ (exo_ok e4)
  have eu : upd H3 x (exo x C none) = H3 := by
    funext b
    by_cases hb : b = x
    · rw [hb, upd_same, hx]
    · rw [upd_ne hb]
  rw [eu] at J
  have J' : Inv X [] σ H3 ⟨h4, g, d, tk, os⟩ := ⟨J.ok, J.os, J.bare, J.base, J.loc, J.cell, J.free, J.freeC, (fun p hp => by
    rw [epn, List.nil_append] at hp
    cases hp), J.hok, J.len⟩
  exact hQ _ J'
end
end TL
end s_TL92
section s_TL93
set_option Elab.async false
set_option linter.all false
set_option maxRecDepth 100000
set_option maxHeartbeats 4000000
/-! TL93: the promise of such an __init__ -/
namespace TL
open PySem PySem.Spec PyProof.Rows L2
section
variable {CX : CXT} {P : Program} {w : World} {K : PySem.W.Frag} {mg : Str → Option Value} {base : Heap} {a qual file f : Str} {sc : Scope} {fI D C cc cda : Addr} {pa : Arguments} {body : List Stmt} {fd : FuncData}
abbrev supBody (a f : Str) (p0 p1 ap p2 p3 p4 p5 p6 p7 p8 : Pos) : List Stmt := [.Expr (.Call (.Attribute (.Call (.Name "super" p0) [] [] p1) "__init__" ap) [.Name a p2] [] p3) p4, .Assign [.Attribute (.Name "self" p5) f p6] (.Name a p7) p8]
/-- the body: super().__init__(a); self.f = a, as it is read in an environment -/
structure SupB (P : Program) (pa : Arguments) (sc : Scope) (a f file : Str) (body : List Stmt) (qual : Str) : Prop where
  ex : ∃ (p0 p1 ap p2 p3 p4 p5 p6 p7 p8 : Pos), body = supBody a f p0 p1 ap p2 p3 p4 p5 p6 p7 p8 ∧
    (∀ (L fI cda cc : Addr), (∃ pl : Sem Bool, eval (.Call (.Attribute (.Call (.Name "super" p0) [] [] p1) "__init__" ap) [.Name a p2] [] p3) (supEnv qual sc L fI cda cc) = (do
        let ov ← attributeBase (.Call (.Name "super" p0) [] [] p1) "__init__" (supEnv qual sc L fI cda cc) (eval (.Call (.Name "super" p0) [] [] p1) (supEnv qual sc L fI cda cc))
        standAt ap.atName
        let (g, l) ← holding [ov] (getMethod ov "__init__" pl)
        callWith p3 g l (backTo p3 (starEach [.Name a p2] (supEnv qual sc L fI cda cc))) [])) ∧
      swapsWith (.Call (.Attribute (.Call (.Name "super" p0) [] [] p1) "__init__" ap) [.Name a p2] [] p3) none p4.line (supEnv qual sc L fI cda cc) = pure false ∧
      swapsWith (.Name a p7) (some (.Attribute (.Name "self" p5) f p6)) p8.line (supEnv qual sc L fI cda cc) = pure false ∧
      interactive (supEnv qual sc L fI cda cc) = false)
  par : ∃ ar, (pa.posonlyargs ++ pa.args).head? = some ar ∧ ar.arg = "self"
  file : ((P.main.file : Str) == file) = true
  top : (P.main.scope.names.lookup ("super" : Str)).isSome = false
  nd : (a == ("__debug__" : Str)) = false
  nc : (a == ("__classdict__" : Str)) = false
theorem sup_ok {k : Nat} (S : SupF K file fI D cc qual pa body sc fd cda) (N : SupS sc a) (T : SupK K C D f) (B : SupB P pa sc a f file body qual) (hms : mg "super" = none) : FnOk P w K mg base CX (k + 1) fI fd ["self", a] (SpSup C f) := by
  refine ⟨fun vs H Q E h => by obtain ⟨x, y, rfl, _⟩ := h; rfl, fun A outer s H args us vs Q E hr e0 hb rv hsp => ?_⟩
  obtain ⟨x, y, rfl, hx, hq⟩ := hsp
  obtain ⟨p0, p1, ap, p2, p3, p4, p5, p6, p7, p8, rfl, hev⟩ := B.ex
  obtain ⟨ar, har, har2⟩ := B.par
  obtain ⟨u0, u1, rfl, r0, r1⟩ : ∃ u0 u1, us = [u0, u1] ∧ RelV (.ref x) u0 ∧ RelV y u1 := by
    cases rv with
    | cons a1 r =>
      cases r with
      | cons a2 r =>
        cases r
        exact ⟨_, _, rfl, a1, a2⟩
  have KX : K.In s.heap := e0.mod.kin.keeps fun b o e => (e0.bs b o e).1
  have lim : s.heap.NoLimit := e0.mod.nolimit.keeps fun b o e => (e0.bs b o e).1
  obtain ⟨nm, oc, od, osl, dV, kV, doc, pm, an, ct, efd, lk⟩ := id S.ex
  subst efd
  refine PySem.ks_codeAny_call_defAt (fd := PySem.W.ksFn nm qual pa (supBody a f p0 p1 ap p2 p3 p4 p5 p6 p7 p8) sc dV kV doc pm an (.ref cda) ct cc) (body := supBody a f p0 p1 ap p2 p3 p4 p5 p6 p7 p8) (binds := [("self", u0), (a, u1)]) hr.depth (KX _ _ lk) rfl lim (PySem.W.codeRec_of KX S.cd) rfl hb N.ncell ?_ (fun h1 hns kp => ?_) N.co N.gen N.kind
  · intro z hz
    simp only [List.mem_cons, List.not_mem_nil, or_false] at hz
    rcases hz with rfl | rfl
    · exact N.self
    · exact N.arg
  obtain ⟨⟨pl, he⟩, hs1, hs2, hi⟩ := hev s.heap.objs.size fI cda cc
  have J := sup_start (CX := CX) (Q := Q) (E := E) S N hr.hd e0 r0 r1 (tk := s.toks + 2) hns kp
  have goal : _root_.PySem.wpAt (model P w) (supCx CX P w K mg base a qual sc fI cda cc A outer s H Q E).A (.func (supBody a f p0 p1 ap p2 p3 p4 p5 p6 p7 p8) (supCx CX P w K mg base a qual sc fI cda cc A outer s H Q E).env) (execs (supBody a f p0 p1 ap p2 p3 p4 p5 p6 p7 p8) (supCx CX P w K mg base a qual sc fI cda cc A outer s H Q E).env)
      (fun fl s' => CR CX outer P w H s Q E (.ok (.ret (match fl with | .ret v => v | _ => .none))) s') (supCx CX P w K mg base a qual sc fI cda cc A outer s H Q E).xe { s with heap := h1, toks := s.toks + 2 } := by
    refine PySem.ks_wpAt_execs_cons (PySem.ks_wpAt_Expr_any (sup_call S N T rfl ⟨_, rfl⟩ rfl har har2 B.file B.top hms rfl he B.nd B.nc J rfl rfl hx fun s2 J2 => ?_) hi hs1)
    refine wpAt_of_wpAny ?_
    have hp := pss_one (ps_ost (X := supCx CX P w K mg base a qual sc fI cda cc A outer s H Q E) (f := f) (pos := p8) (p' := p6) (pe_var (pos := p5) (i := 0) rfl (.inl N.self)) (pe_var (pos := p7) (i := 1) rfl (.inl N.arg) B.nd B.nc) hs2)
    refine wpAny_mono (hp.run [] s2 _ H { nx := fun _ H' => Q .non H', rt := fun _ _ => False } J2 ⟨y, rfl, .ref x, rfl, x, C, rfl, T.oex, T.no, .inl ⟨hx, fun dx n ne => hq dx n ne⟩⟩) (fun fl s' hs => ?_) fun _ _ z => z
    cases fl with
    | next =>
      obtain ⟨σ', H', J', q⟩ := hs
      exact ⟨.non, H', J'.os, J'.bare, J'.base, J'.hok, rfl, q⟩
    | brk => obtain ⟨_, _, _, q⟩ := hs; exact q.elim
    | cont => obtain ⟨_, _, _, q⟩ := hs; exact q.elim
    | ret u => obtain ⟨_, _, _, _, _, q⟩ := hs; exact q.elim
  exact goal
end
end TL
end s_TL93
section s_TL94
set_option Elab.async false
set_option linter.all false
set_option maxRecDepth 100000
set_option maxHeartbeats 4000000
/-! TL94: raise of the program's own exceptions -/
namespace TL
open PySem PySem.Spec PyProof.Rows L2
/-- the class c has the __init__ that TL91 tells of, its field is f -/
structure ExcT (P : Program) (wd : World) (K : PySem.W.Frag) (mg : Str → Option Value) (base : Heap) (c f : Str) : Prop where
  ex : ∃ (C fI : Addr) (fd : FuncData) (a : Str), mg c = some (.ref C) ∧ OexC K C ∧ PySem.W.findIn K (.ref C) "__init__" = some (some (.ref fI)) ∧ PySem.W.typeIn K (.ref fI) = some (.type "function") ∧ Binds K fd ["self", a] [] ∧ FnOk P wd K mg base (L2.CX P wd) 1 fI fd ["self", a] (SpSup C f)
/-- the class c has no own __init__ -/
structure ExcT0 (K : PySem.W.Frag) (mg : Str → Option Value) (c : Str) : Prop where
  ex : ∃ (C : Addr) (bmB : List Value) (B newId initId : String), mg c = some (.ref C) ∧ ExcBaseFacts B newId initId bmB ∧ PySem.W.excIn K C bmB newId = true ∧ PySem.W.keepIn K (.ref C) = true ∧ PySem.W.subIn K (.ref C) (.type "BaseException") = some true ∧ PySem.W.typeIn K (.ref C) = some (.type "type")
def cRaise (c f : Str) (ca : EC) : SC := fun r => ca r >>= fun t => .exc (.exc c [(f, t)])
def cRaise0 (c : Str) : SC := fun _ => .exc (.exc c [])
section
variable {X : Cx} {w : Wd} {E : XK} {fr : Bool} {k : Nat} {c f m : Str} {e : Expr} {ca : EC} {p p1 p2 pos : Pos} {j : Nat}
end
end TL
end s_TL94
section s_TL95
set_option Elab.async false
set_option linter.all false
set_option maxRecDepth 100000
set_option maxHeartbeats 4000000
/-! TL95: what is caught lives on; what acts (a lambda without parameters) -/
namespace TL
open PySem PySem.Spec PyProof.Rows L2
section
variable {X : Cx} {pins : List (Addr × Obj)} {σ : L2.St} {H : Hp} {s : Shared}
end
/-- what the body of 'try: .. except x as n: ..' may raise, if behind it the exception is still to be known -/
def wKeep (K : PySem.W.Frag) (c : Value) (i : Nat) (ts : Addr → Value → Option Addr → TS) (D : Ends) : WX := fun cls d σ H =>
  ∃ C, cls = .ref C ∧ PySem.W.exmOne K cls c = some true ∧ ∀ a, H a = none → ts a cls d { nx := fun σ' H' => D.nx (σ'.set i none) (upd H' a (excV C d a)), rt := fun _ _ => False, bk := fun _ _ => False, ct := fun _ _ => False } (σ.set i (some (.ref a))) H
section
variable {X : Cx} {x n : Str} {c : Value} {i : Nat} {body suite : List Stmt} {b₀ : Stmt} {np pos pos' : Pos} {tb : WX → TS} {ts : Addr → Value → Option Addr → TS}
end
end TL
end s_TL95
section s_TL96
set_option Elab.async false
set_option linter.all false
set_option maxRecDepth 100000
set_option maxHeartbeats 4000000
/-! TL96: what acts; a def that catches what it does -/
namespace TL
open PySem PySem.Spec PyProof.Rows L2
/-- behind a state, seen from an earlier one -/
theorem unUp {F : List Addr} {H H1 H2 : Hp} {h h1 h2 : Heap} {L : Addr} (a : Un F [] H H1 h h1) (b : Un (L :: F) [] H1 H2 h1 h2) (hL : h.objs.size ≤ L) : Un F [] H H2 h h2 := by
  have low : ∀ {c : Addr} {o : Obj}, h.get? c = some o → c ≠ L := fun e z => by
    rw [z] at e
    exact Nat.lt_irrefl _ (Nat.lt_of_lt_of_le (Heap.lt_size e) hL)
  have gone : ∀ {c : Addr} {o : Obj}, h.get? c = some o → c ∉ F → c ∉ L :: F := fun e n q => (List.mem_cons.mp q).elim (low e) n
  refine ⟨fun c o e n hc hx => b.keep c o (a.keep c o e n hc hx) (a.free c o e n hx) (gone e hc) hx, fun c o e n hc hx => ?_, fun c o e n hx => ?_, fun c o e hx => ?_, fun c xs e => b.tups c xs (a.tups c xs e), fun c o u e => b.frzs c o u (a.frzs c o u e), fun c ps e => ?_⟩
  · obtain ⟨s1, e1⟩ := a.slot c o e n hc hx
    obtain ⟨s2, e2⟩ := b.slot c _ e1 (a.free c o e n hx) (List.mem_cons_of_mem _ hc) hx
    exact ⟨s2, e2⟩
  · obtain ⟨o1, e1⟩ := a.there c o e hx
    exact b.free c o1 e1 (a.free c o e n hx) hx
  · obtain ⟨o1, e1⟩ := a.there c o e hx
    exact b.there c o1 e1 hx
  · obtain ⟨m1, e1⟩ := a.tbls c ps e
    obtain ⟨m2, e2⟩ := b.tbls c _ e1
    exact ⟨m1 ++ m2, by rw [e2, Array.append_assoc]⟩
/-- f, called without arguments at any state behind (h, H), does what φ asks -/
structure ActT (P : Program) (wd : World) (K : PySem.W.Frag) (mg : Str → Option Value) (base : Heap) (k : Nat) (F : List Addr) (h : Heap) (H : Hp) (f : Addr) (φ : XK → Hp → VK → Prop) : Prop where
  go : ∀ (A : Around) (outer : List Env) (s1 : Shared) (H1 : Hp) (Q : VK) (E : XK), A.guards = some [] → Room (k + 1) A → Env0 P wd K mg base A outer s1 H1 → Un F [] H H1 h s1.heap → φ E H1 Q →
    PySem.W.FnAt f s1.heap ∧ codeAny (model P wd) A (.call (.ref f) ⟨[], []⟩) (CR (L2.CX P wd) outer P wd H1 s1 Q E) s1
theorem ActT.up {P : Program} {wd : World} {K : PySem.W.Frag} {mg : Str → Option Value} {base : Heap} {k : Nat} {F : List Addr} {h h1 : Heap} {H H1 : Hp} {f L : Addr} {φ : XK → Hp → VK → Prop} (Act : ActT P wd K mg base k F h H f φ) (un : Un F [] H H1 h h1) (hL : h.objs.size ≤ L) : ActT P wd K mg base k (L :: F) h1 H1 f φ :=
  ⟨fun A outer s1 H2 Q E gd hr e0 un2 hp => Act.go A outer s1 H2 Q E gd hr e0 (unUp un un2 hL) hp⟩
/-- the lambda's object -/
def cloF (q : Str) (params : Arguments) (body : Expr) (scope : Scope) (cl : List (Str × Addr)) (f c' : Addr) : HO := .ext fun h => ∃ pm ctv, h.get? f = some (PySem.W.kla_obj "<lambda>" q params body scope cl pm c' ctv)
section
variable {X : Cx} {pins : List (Addr × Obj)} {σ : L2.St} {H : Hp} {s : Shared} {k : Nat} {f c' : Addr} {params : Arguments} {body : Expr} {scope : Scope}
end
section
variable {X : Cx} {W : WX} {k i : Nat} {a : Str} {F : List Addr} {h : Heap} {H0 : Hp} {f : Addr} {φ : XK → Hp → VK → Prop} {p1 p2 : Pos}
end
/-- what a def asks that does what it gets, and returns what it caught -/
def caughtφ (K : PySem.W.Frag) (LE : Value) (φ : XK → Hp → VK → Prop) (H : Hp) (Q : VK) : Prop :=
  ∀ (E' : XK) (Q' : VK), (∀ cls d H', (∃ C, cls = .ref C ∧ PySem.W.exmOne K cls LE = some true ∧ ∀ a, H' a = none → Q (.ref a) (upd H' a (excV C d a))) → E' cls d H') → (∀ v H', Q .non H' → Q' v H') → φ E' H Q'
section
variable {X : Cx} {k : Nat} {ac fo er le : Str} {F : List Addr} {h : Heap} {H0 : Hp} {f : Addr} {LE : Value} {φ : XK → Hp → VK → Prop} {j : Nat} {p1 p2 p3 p4 p5 p6 p7 p8 p9 p10 p11 p12 p13 p14 : Pos}
end
end TL
end s_TL96
section s_TL97
set_option Elab.async false
set_option linter.all false
set_option maxRecDepth 100000
set_option maxHeartbeats 4000000
/-! TL97: lambdas as values; x(lambda) with the error that it raises -/
namespace TL
open PySem PySem.Spec PyProof.Rows L2
/-- what is raised is told -/
def catchG (ks : List Str) : G T → G T
  | .ret _ => .ret .non
  | .exc e => match e with
    | .exc c fs => if ks.contains c then .ret (.exc c fs) else .stuck
    | _ => .stuck
  | .stuck => .stuck
  | .pick n k => .pick n fun i => catchG ks (k i)
  | .any k => .any fun l => catchG ks (k l)
/-- what a lambda may read of its maker's slots -/
def wipe1 : Sl → Sl
  | .fz t => .fz t
  | _ => .un
def wipe (r : List Sl) : List Sl := r.map wipe1
/-- a lambda -/
structure Lm where
  params : Arguments
  body : Expr
  scope : Scope
def closOf (env : Env) (ls : List Lm) : Nat → Addr → Addr → HO × HO := fun j f c' => match ls[j]? with
  | some l => (cloF (env.qual ++ "<lambda>") l.params l.body l.scope (cloFrom env.cells l.scope.names []) f c', LamX.CodeO c' (env.qual ++ "<lambda>"))
  | none => (.rng 0 0, .rng 0 0)
structure LamT (X : Cx) (w : Wd) (k : Nat) (l : Lm) (cb : EC) : Prop where
  S : LamX.LamS X.env.scope l.scope
  bind : ∀ (q : Str) (cl : List (Str × Addr)) (pm cv ctv : Value), bindArgs (PySem.W.kla_fn "<lambda>" q l.params l.body l.scope cl pm cv ctv) ⟨[], []⟩ = pure []
  body : ∀ (A : Around) (outer : List Env) (s : Shared) (H : Hp) (E : XK) (f c' : Addr), Bd (LamX.lamCx X A outer s H E l.scope f c') k E → CE (LamX.lamCx X A outer s H E l.scope f c') w E l.body cb
inductive LamsT (X : Cx) (w : Wd) (k : Nat) : List Lm → List EC → Prop
  | nil : LamsT X w k [] []
  | cons {l : Lm} {cb : EC} {ls : List Lm} {cbs : List EC} : LamT X w k l cb → LamsT X w k ls cbs → LamsT X w k (l :: ls) (cb :: cbs)
theorem LamsT.get {X : Cx} {w : Wd} {k : Nat} : ∀ {ls : List Lm} {cbs : List EC}, LamsT X w k ls cbs → ∀ {j : Nat} {cb : EC}, cbs[j]? = some cb → ∃ l, ls[j]? = some l ∧ LamT X w k l cb
  | _, _, .nil, j, cb, e => by simp at e
  | _, _, .cons a b, 0, cb, e => by simp at e; subst e; exact ⟨_, rfl, a⟩
  | _, _, .cons a b, j + 1, cb, e => by
    obtain ⟨l, h1, h2⟩ := LamsT.get b (j := j) (cb := cb) (by simpa using e)
    exact ⟨l, by simpa using h1, h2⟩
/-- the def x does what it gets and returns what it caught, one of ks -/
structure CaughtT (K : PySem.W.Frag) (mg : Str → Option Value) (x : Str) (LE : Value) (ks : List Str) : Prop where
  ex : ∃ (st : Stmt) (ac fo er le : Str) (j : Nat) (p1 p2 p3 p4 p5 p6 p7 p8 p9 p10 p11 p12 p13 p14 : Pos), FunAt K mg x x st [ac] ∧ FnScope [ac, fo, er] [ac] (defScope st) ∧
    defBody st = [.Assign [.Name fo p1] (.Constant .none j p2) p3, .Try [.Expr (.Call (.Name ac p4) [] [] p5) p6] [.ExceptHandler (some (.Name le p7)) (some er) [.Assign [.Name fo p8] (.Name er p9) p10] p11] [] [] p12, .Return (some (.Name fo p13)) p14] ∧
    ((defScope st).names.lookup ac = some .local ∧ (defScope st).names.lookup fo = some .local ∧ (defScope st).names.lookup er = some .local ∧ (defScope st).names.lookup le = some .globalImplicit ∧ (le == ("__debug__" : Str)) = false) ∧ mg le = some LE ∧
    ((ac == ("__debug__" : Str)) = false ∧ (ac == ("__classdict__" : Str)) = false ∧ (fo == ("__debug__" : Str)) = false ∧ (fo == ("__classdict__" : Str)) = false ∧ (er == ("__debug__" : Str)) = false ∧ (er == ("__classdict__" : Str)) = false)
  ks : ∀ c ∈ ks, ∃ C, mg c = some (.ref C) ∧ PySem.W.exmOne K (.ref C) LE = some true
section
variable {X : Cx} {k : Nat} {x : Str} {LE : Value} {ks : List Str} {e : Expr} {te : TE} {p pos : Pos}
end
/-- what x(lambda) tells -/
def cCaught (ks : List Str) (cbs : List EC) (ca : EC) : EC := fun r => ca r >>= fun t => match t with
  | .clo j => match cbs[j]? with
    | some cb => catchG ks (cb (wipe r))
    | none => .stuck
  | _ => .stuck
section
variable {X : Cx} {w : Wd} {E : XK} {k kk : Nat} {x : Str} {LE : Value} {ks : List Str} {e : Expr} {ca : EC} {p pos : Pos} {ls : List Lm} {cbs : List EC}
end
end TL
end s_TL97
section s_TL98
set_option Elab.async false
set_option linter.all false
set_option maxRecDepth 100000
set_option maxHeartbeats 4000000
/-! TL98: a lambda is made -/
namespace TL
open PySem PySem.Spec PyProof.Rows L2
section
variable {w : Wd} {H Z : Hp}
/-- no table is among the draws -/
theorem Good.noTbl (g : Good w H Z) {P : Addr} {ps : Array Value} (h : H P = some (.tbl ps)) : P ∉ w.dr := fun hP => by
  cases e : w.dr with
  | nil => rw [e] at hP; cases hP
  | cons a r =>
    obtain ⟨gg, c, cs, rfl, hW⟩ := w.ok a r e
    obtain ⟨_, _, _, _, gs, rest, turn, _, e1, e2, e3⟩ := (hW H).mp g.wi.1
    rw [e] at hP
    simp only [List.mem_cons, List.not_mem_nil, or_false] at hP
    rcases hP with rfl | rfl | rfl
    · rw [h] at e1; cases e1
    · rw [h] at e2; cases e2
    · rw [h] at e3; cases e3
/-- a code object more in a table -/
theorem Grow.tab (g : Good w H Z) {P c' : Addr} {q : Str} {ps : Array Value} {pos : Pos} (hm : (P, q) ∈ w.tb) (hu : ∀ p ∈ w.tb, p.1 = P → p.2 = q) (hP : H P = some (.tbl ps)) (ht : TriplesOk ps.toList) (hco : ∀ (pos : Pos) (cv : Value), codeAmong pos ps.toList = some cv → ∃ c, cv = .ref c ∧ Z c = some (LamX.CodeO c q)) (nc : H c' = none) :
    Grow w H Z (upd (upd H P (.tbl (ps ++ #[rawInt pos.line, rawInt pos.col, .ref c']))) c' (LamX.CodeO c' q)) (upd Z c' (LamX.CodeO c' q)) := by
  have inW : P ∈ w.W := List.mem_append_right _ (List.mem_map.mpr ⟨_, hm, rfl⟩)
  have zP : Z P = none := g.zw P inW
  have zc : Z c' = none := g.tracked nc
  have nPc : P ≠ c' := ne_of_none hP nc
  have nd : P ∉ w.dr := g.noTbl hP
  have old : ∀ {b : Addr} {o : HO}, H b = some o → b ≠ P → upd (upd H P (.tbl (ps ++ #[rawInt pos.line, rawInt pos.col, .ref c']))) c' (LamX.CodeO c' q) b = some o := fun e n => by rw [upd_ne (ne_of_none e nc), upd_ne n]; exact e
  have eL : (ps ++ #[rawInt pos.line, rawInt pos.col, .ref c']).toList = ps.toList ++ [rawInt pos.line, rawInt pos.col, .ref c'] := by simp
  refine ⟨⟨fun a o e => ?_, fun a ha => ?_, w.ld H _ (fun a ha => ?_) g.wi.1, fun p hp => ?_⟩, Sub.upd zc, fun a o e => ?_, fun a o e na => old e fun z => na (z ▸ inW)⟩
  · by_cases h : a = c'
    · subst h
      rw [upd_same] at e ⊢
      exact e
    · rw [upd_ne h] at e
      exact old (g.zh a o e) fun z => by rw [z, zP] at e; cases e
  · have ne : a ≠ c' := fun z => w.tr g.wi a ha (z ▸ nc)
    rw [upd_ne ne]
    exact g.zw a ha
  · have ne : a ≠ c' := fun z => w.td H g.wi.1 a ha (z ▸ nc)
    have ne2 : a ≠ P := fun z => nd (z ▸ ha)
    rw [upd_ne ne, upd_ne ne2]
  · by_cases hb : p.1 = P
    · rw [hb, hu p hp hb]
      refine ⟨_, by rw [upd_ne nPc, upd_same], by rw [eL]; exact PySem.TriplesOk_snoc _ _ _ _ ht, fun p' cv hcv => ?_⟩
      rw [eL] at hcv
      rcases LamX.among_app _ ht hcv with z | z
      · obtain ⟨c0, e1, e2⟩ := hco p' cv z
        exact ⟨c0, e1, Sub.upd zc _ _ e2⟩
      · exact ⟨c', z, upd_same⟩
    · obtain ⟨ps', a1, a2, a3⟩ := g.wi.2 p hp
      refine ⟨ps', old a1 hb, a2, fun p' cv hcv => ?_⟩
      obtain ⟨c0, e1, e2⟩ := a3 p' cv hcv
      exact ⟨c0, e1, Sub.upd zc _ _ e2⟩
  · by_cases h : a = c'
    · exact .inr (h ▸ nc)
    · rw [upd_ne h] at e
      exact .inl e
end
/-- the def's lambdas may be made -/
structure MakesL (X : Cx) (w : Wd) : Prop where
  ex : ∃ c P, LamX.TabB X.base X.mg c P ∧ X.env.code = .ref c ∧ (P, X.env.qual ++ "<lambda>") ∈ w.tb ∧ ∀ p ∈ w.tb, p.1 = P → p.2 = X.env.qual ++ "<lambda>"
section
variable {X : Cx} {w : Wd} {E : XK} {k : Nat} {pos : Pos} {ls : List Lm} {l : Lm} {params : Arguments} {body : Expr} {scope : Scope}
end
end TL
end s_TL98
section s_TL99
set_option Elab.async false
set_option linter.all false
set_option maxRecDepth 100000
set_option maxHeartbeats 4000000
/-! TL99: exceptions as values: isinstance, is None, their fields -/
namespace TL
open PySem PySem.Spec PyProof.Rows L2
/-- the class at C is an exception class whose instances may be looked at -/
def exvB (K : PySem.W.Frag) (C : Addr) : Bool := (PySem.W.clsIn K C).isSome && (decide (PySem.W.findIn K (.ref C) "__getattribute__" = some (some (.builtin "BaseException.__getattribute__"))) && (decide (PySem.W.findIn K (.ref C) "__getattr__" = some none) && (decide (PySem.W.subIn K (.ref C) (.type "BaseException") = some true) &&
  (decide (PySem.W.findIn K (.ref C) "__class__" = some (some (.builtin "object.__class__"))) && (decide (PySem.W.specialIn K (.builtin "object.__class__") "__get__" = some (some (.builtin "getset_descriptor.__get__"))) && (decide (PySem.W.takesIn K (.builtin "object.__class__") = some true) && (decide (PySem.W.mroIn K C (.type "object") = some true) && PySem.W.hasDictIn K C)))))))
theorem exv_kit {K : PySem.W.Frag} {C x : Addr} {ox : Obj} {od : Option Obj} (h : exvB K C = true) : PySem.W.KitX K (.ref x) (.ref C) (fun g => PySem.W.InstAt g x ox C od) := by
  unfold exvB at h
  simp only [Bool.and_eq_true, decide_eq_true_eq] at h
  obtain ⟨h1, h2, h3, h4, h5, h6, h7, h8, h9⟩ := h
  exact PySem.W.kitx_exc h1 h2 h3 h4 h5 h6 h7 h8
/-- an exception stands at a -/
def ExAt (H : Hp) (C : Addr) (d : Option Addr) (a : Addr) : Prop := H a = some (excV C d a) ∨ (d = none ∧ ∃ t0, H a = some (excSV C t0 a))
/-- where an exception's value stands -/
theorem exc_at {X : Cx} {pins : List (Addr × Obj)} {σ : L2.St} {H : Hp} {s : Shared} {a C : Addr} {d : Option Addr} (I : Inv X pins σ H s) (h : ExAt H C d a) (hd : ∀ dd, d = some dd → ∃ gs, H dd = some (.xd gs)) : ∃ oe od, PySem.W.InstAt s.heap a oe C od ∧ ∀ dd gs, d = some dd → H dd = some (.xd gs) → ∃ (o : Obj) (mA : Str → Option Value), od = some o ∧ (∀ n, PySem.W.lookIn n o = some (mA n)) ∧ ∀ n, RelO (gs.lookup n) (mA n) := by
  obtain ⟨oe, vs, ha, hz, hdt⟩ : ∃ (oe : Obj) (vs : Array Value), s.heap.get? a = some oe ∧ Zc (.ref C) d oe ∧ oe.data = .fields vs := by
    rcases h with h | ⟨rfl, t0, h⟩
    · exact (I.hok a _ h).1
    · obtain ⟨⟨oe, vs, ha, hz, hdt, _⟩, _⟩ := I.hok a _ h
      exact ⟨oe, vs, ha, hz, hdt⟩
  have nc : PySem.W.notCls oe = true := by unfold PySem.W.notCls; rw [hdt]
  cases d with
  | none => exact ⟨oe, none, ⟨ha, hz.1, nc, by rw [hz.2]; trivial⟩, fun dd gs e => by cases e⟩
  | some dd =>
    obtain ⟨gs, hg⟩ := hd dd rfl
    obtain ⟨mA, hns, hr⟩ := I.hok dd _ hg
    obtain ⟨od, ho, hl⟩ := lookIn_ns hns
    refine ⟨oe, some od, ⟨ha, hz.1, nc, by rw [hz.2]; exact ho⟩, fun d2 gs2 e e2 => ?_⟩
    cases e
    have z := hg.symm.trans e2
    cases z
    exact ⟨od, mA, rfl, hl, hr⟩
/-- isinstance(x, C0), x an exception -/
def rIsX (K : PySem.W.Frag) : List V → Hp → VK → Prop := fun xs H Q => ∃ (a C C0 : Addr) (d : Option Addr) (b : Bool), xs = [.ref a, .ref C0] ∧ ExAt H C d a ∧ (∀ dd, d = some dd → ∃ gs, H dd = some (.xd gs)) ∧ exvB K C = true ∧ PySem.W.kitOne K (.ref C) (.ref C0) = some b ∧ Q (.bl b) H
/-- .. or any other value -/
def rIsXT (K : PySem.W.Frag) : List V → Hp → VK → Prop := fun xs H Q => rIsi K xs H Q ∨ rIsX K xs H Q
theorem call_isX {X : Cx} : CallR X (.builtin "isinstance") (rIsXT X.K) := by
  intro pins s σ H xs us Q I r h
  rcases h with h | h
  · exact call_isi pins s σ H xs us Q I r h
  · obtain ⟨a, C, C0, d, b, rfl, ha, hd, hx, hk, q⟩ := h
    obtain ⟨u1, u2, rfl, r1, r2⟩ := vals2 r
    cases (show u1 = Value.ref a from r1)
    cases (show u2 = Value.ref C0 from r2)
    obtain ⟨oe, od, J, _⟩ := exc_at I ha hd
    exact PySem.W.kia_one (exv_kit hx) I.kIn J hk (fun z => nomatch z) fun tk => ⟨.bl b, H, I.tok tk, rfl, q⟩
/-- isinstance(.., c): what is asked of the exceptions in l -/
structure IsX (K : PySem.W.Frag) (mg : Str → Option Value) (c : Str) (l : List (Str × Bool)) : Prop where
  ex : ∃ C0, mg c = some (.ref C0) ∧ (∀ n ∈ aTys, PySem.W.kitOne K (.type n) (.ref C0) = some false) ∧ ∀ d b, l.lookup d = some b → ∃ D, mg d = some (.ref D) ∧ exvB K D = true ∧ PySem.W.kitOne K (.ref D) (.ref C0) = some b
def fIsX (l : List (Str × Bool)) (t : T) : G T := match t with
  | .exc d _ => match l.lookup d with
    | some b => .ret (.bl b)
    | none => .stuck
  | t => match tyName t with
    | some _ => .ret (.bl false)
    | none => .stuck
section
variable {X : Cx} {w : Wd} {E : XK} {c f : Str} {l : List (Str × Bool)} {e : Expr} {ca : EC} {p p1 pos : Pos}
theorem ce_isX (I : IsX X.K X.mg c l) (hm : X.mg "isinstance" = none) (he : CE X w E e ca) (hg : Gl X "isinstance" := by rfl) (hgc : Gl X c := by rfl) (hdc : (c == ("__debug__" : Str)) = false := by decide)
    (hs1 : starEach [e, .Name c p1] X.env = (false, eval e X.env) :: starEach [.Name c p1] X.env := by rfl) (hs2 : starEach [.Name c p1] X.env = (false, eval (.Name c p1) X.env) :: starEach [] X.env := by rfl) (hpl : (backTo pos (starEach [.Name c p1] X.env)).any (·.1) = false := by rfl) :
    CE X w E (.Call (.Name "isinstance" p) [e, .Name c p1] [] pos) (cOp1 (fIsX l) ca) := by
  obtain ⟨C0, hmc, hty, hex⟩ := I.ex
  refine ⟨peImp (pe_callB call_isX hg hm (by decide +kernel) (pa_cons he.pe (pa_cons (pe_glob (v := .ref C0) (u := .ref C0) hgc hmc rfl hdc) pa_nil hs2) hs1) (by decide) (by decide) hs1 hpl) fun σ H Q h => ?_⟩
  obtain ⟨H0, Z0, r, Z, o, R, h⟩ := h
  refine evSeq (P := fun H Z => Post X.km w H Z Q) (PX := fun _ => True) R (fun g => Post.weak g) h fun x H1 Z1 a R1 g1 t1 h1 => ?_
  by_cases ha : ∃ d fs, a = .exc d fs
  · obtain ⟨d, fs, rfl⟩ := ha
    unfold fIsX at h1
    simp only at h1
    cases q : l.lookup d with
    | none => rw [q] at h1; exact h1.elim
    | some b =>
      rw [q] at h1
      obtain ⟨D, hd, hx, hk⟩ := hex d b q
      refine .inr ?_
      have G := R1.good
      cases t1 with
      | exc0 m e0 =>
        have z := m.symm.trans hd
        cases z
        exact ⟨_, D, C0, none, b, rfl, .inl (G.zh _ _ e0), fun dd e => (nomatch e), hx, hk, h1 _ H1 Z1 (Grow.refl G) (.bl b)⟩
      | excD m e0 ed tf =>
        have z := m.symm.trans hd
        cases z
        exact ⟨_, D, C0, _, b, rfl, .inl (G.zh _ _ e0), fun dd e => by cases e; exact ⟨_, G.zh _ _ ed⟩, hx, hk, h1 _ H1 Z1 (Grow.refl G) (.bl b)⟩
      | excS m e0 et =>
        have z := m.symm.trans hd
        cases z
        exact ⟨_, D, C0, none, b, rfl, .inr ⟨rfl, _, G.zh _ _ e0⟩, fun dd e => (nomatch e), hx, hk, h1 _ H1 Z1 (Grow.refl G) (.bl b)⟩
  · have h2 : ∃ n, tyName a = some n ∧ (G.ret (T.bl false)).wp (Post X.km w H1 Z1 Q) (PostX X.km w E H0 Z0) := by
      unfold fIsX at h1
      split at h1
      · exact absurd ⟨_, _, rfl⟩ ha
      · split at h1
        · rename_i n hn
          exact ⟨n, hn, h1⟩
        · exact h1.elim
    obtain ⟨n, hn, h3⟩ := h2
    exact .inl ⟨x, .ref C0, .type n, .ref C0, false, rfl, .own C0, ty_of (M := X.km) R1.good t1 hn, hty n (tyName_in hn), h3 _ H1 Z1 (Grow.refl R1.good) (.bl _)⟩
/-! ### e.f -/
structure ExF (K : PySem.W.Frag) (mg : Str → Option Value) (f : Str) (l : List Str) : Prop where
  ex : ∀ d ∈ l, ∃ D, mg d = some (.ref D) ∧ exvB K D = true ∧ PySem.W.findIn K (.ref D) f = some none
def fXf (l : List Str) (f : Str) (t : T) : G T := match t with
  | .exc d fs => if l.contains d then (match fs.lookup f with
    | some v => .ret v
    | none => .stuck) else .stuck
  | _ => .stuck
theorem ce_xf {l : List Str} (F : ExF X.K X.mg f l) (he : CE X w E e ca) (hf0 : (f == ("%" : Str)) = false := by decide) (hb : attributeBase e f X.env (eval e X.env) = eval e X.env := by rfl) : CE X w E (.Attribute e f pos) (cOp1 (fXf l f) ca) := by
  refine ⟨⟨fun pins s σ H Q I hw => ?_⟩⟩
  obtain ⟨H0, Z0, r, Z, o, R, h⟩ := hw
  have h0 := evSeq (X := X) (P := fun H Z => Post X.km w H Z Q) (PX := fun _ => True) (Q := fun x H1 => ∃ a C dd D gs v, x = .ref a ∧ X.mg D = some (.ref C) ∧ D ∈ l ∧ H1 a = some (excV C (some dd) a) ∧ H1 dd = some (.xd gs) ∧ gs.lookup f = some v ∧ Q v H1) R (fun g => Post.weak g) h fun x H1 Z1 t R1 g1 t1 h1 => ?_
  · refine attr_of hb (thn (he.pe.run pins s σ H _ I h0) fun u s1 hh => ?_)
    obtain ⟨x, H1, I1, rx, a, C, dd, D, gs, v, rfl, hm, hl, ha, hdd, hv, q⟩ := hh
    obtain rfl : u = Value.ref a := rx
    obtain ⟨oe, od, J, hJ⟩ := exc_at I1 (.inl ha) fun d2 e => by cases e; exact ⟨gs, hdd⟩
    obtain ⟨ob, mA, rfl, lk, rel⟩ := hJ dd gs rfl hdd
    obtain ⟨C2, hm2, hx, hno⟩ := F.ex D hl
    have z := hm2.symm.trans hm
    cases z
    unfold exvB at hx
    simp only [Bool.and_eq_true, decide_eq_true_eq] at hx
    obtain ⟨_, b2, b3, b4, _, _, _, _, b9⟩ := hx
    obtain ⟨u, hu, ru⟩ := RelO.some_of (v := v) (o := mA f) (by rw [← hv]; exact rel f)
    exact HandSPX.exc_get I1.kIn J b2 b3 b4 (PySem.W.findObj_own b9 hno rfl (by rw [lk, hu])) (handed_of ru) ⟨v, H1, I1.tok _, ru, q⟩
  · unfold fXf at h1
    split at h1
    · rename_i d fs
      split at h1
      · rename_i hc
        cases hf : fs.lookup f with
        | none => rw [hf] at h1; exact h1.elim
        | some t =>
          rw [hf] at h1
          cases t1 with
          | exc0 m e0 => cases hf
          | excS m e0 et =>
            rw [List.lookup_cons, hf0] at hf
            cases hf
          | @excD _ _ C a dd gs m e0 ed tf =>
            obtain ⟨v, hv, tv⟩ := tf.look hf
            exact ⟨a, C, dd, d, gs, v, rfl, m, List.contains_iff_mem.mp hc, R1.good.zh _ _ e0, R1.good.zh _ _ ed, hv, h1 v H1 Z1 (Grow.refl R1.good) tv⟩
      · exact h1.elim
    · exact h1.elim
end
end TL
end s_TL99
section s_TL100
set_option Elab.async false
set_option linter.all false
set_option maxRecDepth 100000
set_option maxHeartbeats 4000000
/-! TL100: the law's end, tables of code objects told -/
namespace TL
open PySem PySem.Spec PyProof.Rows L2
/-- the code object and the table of the def x -/
structure CodK (K : PySem.W.Frag) (mg : Str → Option Value) (x : Str) (c P : Addr) : Prop where
  ex : ∃ (fa : Addr) (o : Obj) (fd : FuncData) (e : Value) (dd : Option Addr) (vs : Array Value) (sl : Array (Option Value)), mg x = some (.ref fa) ∧ K.lookup fa = some o ∧ o.data = .func fd ∧ fd.code = .ref c ∧ K.lookup c = some ⟨e, dd, .fields vs, sl⟩ ∧ vs[11]? = some (.ref P)
  out : K.lookup P = none
end TL
end s_TL100
section s_TL101
set_option Elab.async false
set_option linter.all false
set_option maxRecDepth 100000
set_option maxHeartbeats 4000000
/-! TL101: what a head gives: exception classes, the def that catches, lambdas of the law -/
namespace TL
open PySem PySem.Spec PyProof.Rows L2
section
variable {K : PySem.W.Frag} {mg : Str → Option Value} {h : Heap} {c f x qual : Str} {C D fI cda cc : Addr} {st : Stmt} {ps : List Str}
/-- a def of the text with its code object told -/
structure FunAtC (K : PySem.W.Frag) (mg : Str → Option Value) (x qual : Str) (st : Stmt) (ps : List Str) (c P : Addr) : Prop where
  ex : ∃ g fd, mg x = some (.ref g) ∧ PySem.W.keepIn K (.ref g) = true ∧ Fun K x qual st g fd ∧ Binds K fd ps [] ∧ fd.code = .ref c
theorem MakesL.tb {X : Cx} {w w' : Wd} (M : MakesL X w) (e : w'.tb = w.tb) : MakesL X w' := by
  obtain ⟨c, P, a, b, d, f⟩ := M.ex
  exact ⟨c, P, a, b, e ▸ d, fun p hp => f p (e ▸ hp)⟩
/-! ### the program's exception classes -/
theorem excT0_mk (KX : K.In h) (G : h.Ns mainGlobals mg) (ac : PySem.W.nsIn K mainGlobals c = some (some (.ref C))) (ei : PySem.W.excIn K C [.type "ValueError", .type "Exception", .type "BaseException", .type "object"] "ValueError.__new__" = true) (kC : PySem.W.keepIn K (.ref C) = true) (exC : PySem.W.subIn K (.ref C) (.type "BaseException") = some true) (tyC : PySem.W.typeIn K (.ref C) = some (.type "type")) : ExcT0 K mg c :=
  ⟨C, _, _, _, _, PySem.W.mg_of KX G ac, F.excBase_ValueError, ei, kC, exC, tyC⟩
theorem exv_mk {cd : ClassData} (h1 : PySem.W.clsIn K C = some cd) (h2 : PySem.W.findIn K (.ref C) "__getattribute__" = some (some (.builtin "BaseException.__getattribute__"))) (h3 : PySem.W.findIn K (.ref C) "__getattr__" = some none) (h4 : PySem.W.subIn K (.ref C) (.type "BaseException") = some true) (h5 : PySem.W.findIn K (.ref C) "__class__" = some (some (.builtin "object.__class__")))
    (h6 : PySem.W.specialIn K (.builtin "object.__class__") "__get__" = some (some (.builtin "getset_descriptor.__get__"))) (h7 : PySem.W.takesIn K (.builtin "object.__class__") = some true) (h8 : PySem.W.mroIn K C (.type "object") = some true) (h9 : PySem.W.hasDictIn K C = true) : exvB K C = true := by
  unfold exvB
  simp [h1, h2, h3, h4, h5, h6, h7, h8, h9]
/-- the classes of l, by what is asked of each -/
inductive IsXL (K : PySem.W.Frag) (mg : Str → Option Value) (C0 : Addr) : List (Str × Bool) → Prop
  | nil : IsXL K mg C0 []
  | cons {d : Str} {b : Bool} {D : Addr} {l : List (Str × Bool)} : mg d = some (.ref D) → exvB K D = true → PySem.W.kitOne K (.ref D) (.ref C0) = some b → IsXL K mg C0 l → IsXL K mg C0 ((d, b) :: l)
theorem IsXL.get {C0 : Addr} : ∀ {l : List (Str × Bool)}, IsXL K mg C0 l → ∀ d b, l.lookup d = some b → ∃ D, mg d = some (.ref D) ∧ exvB K D = true ∧ PySem.W.kitOne K (.ref D) (.ref C0) = some b
  | _, .nil, d, b, e => by cases e
  | _, .cons (d := d0) h1 h2 h3 r, d, b, e => by
    rw [List.lookup_cons] at e
    by_cases q : d = d0
    · subst q
      simp at e
      subst e
      exact ⟨_, h1, h2, h3⟩
    · have z : (d == d0) = false := by simp [q]
      rw [z] at e
      exact IsXL.get r d b e
theorem isX_mk {C0 : Addr} {l : List (Str × Bool)} (KX : K.In h) (G : h.Ns mainGlobals mg) (ac : PySem.W.nsIn K mainGlobals c = some (some (.ref C0))) (tk : ∀ n ∈ aTys, PySem.W.kitOne K (.type n) (.ref C0) = some false) (L : IsXL K mg C0 l) : IsX K mg c l := ⟨C0, PySem.W.mg_of KX G ac, tk, L.get⟩
inductive ExFL (K : PySem.W.Frag) (mg : Str → Option Value) (f : Str) : List Str → Prop
  | nil : ExFL K mg f []
  | cons {d : Str} {D : Addr} {l : List Str} : mg d = some (.ref D) → exvB K D = true → PySem.W.findIn K (.ref D) f = some none → ExFL K mg f l → ExFL K mg f (d :: l)
theorem ExFL.get : ∀ {l : List Str}, ExFL K mg f l → ∀ d ∈ l, ∃ D, mg d = some (.ref D) ∧ exvB K D = true ∧ PySem.W.findIn K (.ref D) f = some none
  | _, .nil, d, e => by cases e
  | _, .cons h1 h2 h3 r, d, e => by
    rcases List.mem_cons.mp e with rfl | e
    · exact ⟨_, h1, h2, h3⟩
    · exact ExFL.get r d e
theorem exF_mk {l : List Str} (L : ExFL K mg f l) : ExF K mg f l := ⟨L.get⟩
inductive KsT (K : PySem.W.Frag) (mg : Str → Option Value) (LE : Value) : List Str → Prop
  | nil : KsT K mg LE []
  | cons {d : Str} {D : Addr} {l : List Str} : mg d = some (.ref D) → PySem.W.exmOne K (.ref D) LE = some true → KsT K mg LE l → KsT K mg LE (d :: l)
theorem KsT.get {LE : Value} : ∀ {l : List Str}, KsT K mg LE l → ∀ d ∈ l, ∃ D, mg d = some (.ref D) ∧ PySem.W.exmOne K (.ref D) LE = some true
  | _, .nil, d, e => by cases e
  | _, .cons h1 h2 r, d, e => by
    rcases List.mem_cons.mp e with rfl | e
    · exact ⟨_, h1, h2⟩
    · exact KsT.get r d e
/-- the def x catches the errors of ks -/
structure CaughtE (K : PySem.W.Frag) (mg : Str → Option Value) (x : Str) (ks : List Str) : Prop where
  ex : ∃ LE, CaughtT K mg x LE ks
end
section
variable {X : Cx} {w : Wd} {E : XK} {k kk : Nat} {x : Str} {ks : List Str} {e : Expr} {ca : EC} {p pos : Pos} {ls : List Lm} {cbs : List EC}
end
/-! ### the lambdas of a body -/
def lamE : Nat → Expr → List Lm
  | 0, _ => []
  | n + 1, .Lambda ps b sc _ => [⟨ps, b, sc⟩]
  | n + 1, .List es _ => es.flatMap (lamE n)
  | n + 1, .Tuple es _ _ => es.flatMap (lamE n)
  | n + 1, .Call f as kws _ => lamE n f ++ as.flatMap (lamE n)
  | n + 1, .Compare l _ rs _ => lamE n l ++ rs.flatMap (lamE n)
  | n + 1, .BoolOp _ es _ => es.flatMap (lamE n)
  | n + 1, .UnaryOp _ e _ => lamE n e
  | _, _ => []
def lamS : Nat → Stmt → List Lm
  | 0, _ => []
  | n + 1, .Assign _ e _ => lamE 9 e
  | n + 1, .Expr e _ => lamE 9 e
  | n + 1, .Return (some e) _ => lamE 9 e
  | n + 1, .If t b o _ => lamE 9 t ++ b.flatMap (lamS n) ++ o.flatMap (lamS n)
  | n + 1, .For _ _ b _ _ => b.flatMap (lamS n)
  | n + 1, .While t b _ _ => lamE 9 t ++ b.flatMap (lamS n)
  | _, _ => []
def lamsOf (l : List Stmt) : List Lm := l.flatMap (lamS 9)
end TL
end s_TL101
section s_TL102
set_option Elab.async false
set_option linter.all false
set_option maxRecDepth 100000
set_option maxHeartbeats 4000000
/-! TL102: an own list read by an index; l.pop(i) as a statement; a bool and an int added; defs that call themselves -/
namespace TL
open PySem PySem.Spec PyProof.Rows L2
section
variable {X : Cx} {w : Wd} {E : XK} {fr : Bool} {k n : Nat} {pos p0 : Pos} {e : Expr} {c : MC} {ce : EC}
def cDropY (c : MC) : SC := fun r => c r >>= fun q => .ret (.nx q.2)
/-- x[e], x an own list -/
def cIxOw (i : Nat) (ce : EC) : EC := fun r => match r[i]? with
  | some (.ow (.lst ts)) => ce r >>= fun k => (match k with
    | .int j => (match atI ts j with | some t => .ret t | none => .stuck)
    | _ => .stuck)
  | _ => .stuck
def fRevF : T → G T
  | .lst ts => .ret (.lst ts.reverse)
  | _ => .stuck
/-- a bool and an int -/
def fAddB : T → T → G T
  | .bl b, .int i => .ret (.int (b2i b + i))
  | a, b => fAdd a b
end
section
variable {P : Program} {wd : World} {K : PySem.W.Frag} {mg : Str → Option Value} {base : Heap} {k n : Nat} {x : Str} {qual : Str} {st : Stmt} {ps : List Str}
end
end TL
end s_TL102
section s_TL103
set_option Elab.async false
set_option linter.all false
set_option maxRecDepth 100000
set_option maxHeartbeats 4000000
/-! TL103: a def that asks what its argument (a lambda's value) raises, and tells something of it -/
namespace TL
open PySem PySem.Spec PyProof.Rows L2
/-- what is told of the error -/
def runW (c : SC) (n : Nat) (e : T) : G T := (c (.un :: .fz e :: List.replicate (n - 2) .un)).nox >>= fun k => match k with
  | .rt t => .ret t
  | .nx _ => .ret .non
  | _ => .stuck
def cWord (ks : List Str) (cbs : List EC) (F : T → G T) (ca : EC) : EC := fun r => ca r >>= fun t => match t with
  | .clo j => match cbs[j]? with
    | some cb => catchG ks (cb (wipe r)) >>= F
    | none => .stuck
  | _ => .stuck
structure WordE (P : Program) (wd : World) (K : PySem.W.Frag) (mg : Str → Option Value) (base : Heap) (k : Nat) (x : Str) (ks : List Str) (F : T → G T) : Prop where
  ex : ∃ (cx : Str) (st : Stmt) (ac er : Str) (N : List Str) (p1 p2 p3 p4 p5 : Pos) (rest : List Stmt) (c : SC), CaughtE K mg cx ks ∧ FunAt K mg x x st [ac] ∧ FnScope (ac :: er :: N) [ac] (defScope st) ∧
    defBody st = .Assign [.Name er p1] (.Call (.Name cx p2) [.Name ac p3] [] p4) p5 :: rest ∧
    ((defScope st).names.lookup ac = some .local ∧ (defScope st).names.lookup er = some .local ∧ (defScope st).names.lookup cx = some .globalImplicit ∧ (cx == ("__debug__" : Str)) = false ∧ (ac == ("__debug__" : Str)) = false ∧ (ac == ("__classdict__" : Str)) = false) ∧
    F = runW c (N.length + 2) ∧
    ∀ (f : Addr) (cdv : Value) (A : Around) (outer : List Env) (s : Shared) (H : Hp) (w : Wd) (E : XK), Bd (bx P wd K mg base (ac :: er :: N) x st f cdv A outer s H E) (k + 2) E → CSs (bx P wd K mg base (ac :: er :: N) x st f cdv A outer s H E) w E false rest c
section
variable {X : Cx} {k kk : Nat} {x cx : Str} {LE : Value} {ks : List Str} {e : Expr} {te : TE} {p pos : Pos} {st : Stmt} {ac er : Str} {N : List Str} {p1 p2 p3 p4 p5 : Pos} {rest : List Stmt} {c : SC} {w : Wd} {E : XK} {F : T → G T} {ls : List Lm} {cbs : List EC} {ca : EC}
end
end TL
end s_TL103
section s_TL104
set_option Elab.async false
set_option linter.all false
set_option maxRecDepth 100000
set_option maxHeartbeats 4000000
/-! TL104: x = _law_caught(lambda: got.append(e)): an own list of the def is written by a lambda -/
namespace TL
open PySem PySem.Spec PyProof.Rows L2
def catchA (ks : List Str) : G T → G (Bool × T)
  | .ret t => .ret (true, t)
  | .exc e => match e with
    | .exc c fs => if ks.contains c then .ret (false, .exc c fs) else .stuck
    | _ => .stuck
  | .stuck => .stuck
  | .pick n k => .pick n fun i => catchA ks (k i)
  | .any k => .any fun l => catchA ks (k l)
/-- what is behind it -/
def endA (i ix : Nat) (ts : List T) (r : List Sl) : Bool × T → G Ctl
  | (true, t) => match mAppend (.lst ts) [t] with
    | some t' => .ret (.nx ((r.set i (.ow t')).set ix (.fz .non)))
    | none => .stuck
  | (false, e) => .ret (.nx (r.set ix (.fz e)))
/-- x = _law_caught(lambda: got.append(e)) -/
def cCaughtA (i ix : Nat) (ks : List Str) (cb : EC) : SC := fun r => match r[i]? with
  | some (.ow (.lst ts)) => catchA ks (cb (wipe r)) >>= endA i ix ts r
  | _ => .stuck
/-- what the lambda asks -/
def TEapp (X : Cx) (w : Wd) (i : Nat) (cb : EC) (E : XK) : TE := fun σ H Q => ∃ p, σ[i]? = some (some (.ref p)) ∧ tyV X.K "list" (.ref p) H ∧ EvE X.km w E cb σ H fun v H1 => rAppend (.ref p) [v] H1 Q
structure LamA (X : Cx) (w : Wd) (k i : Nat) (l : Lm) (cb : EC) : Prop where
  S : LamX.LamS X.env.scope l.scope
  bind : ∀ (q : Str) (cl : List (Str × Addr)) (pm cv ctv : Value), bindArgs (PySem.W.kla_fn "<lambda>" q l.params l.body l.scope cl pm cv ctv) ⟨[], []⟩ = pure []
  body : ∀ (A : Around) (outer : List Env) (s : Shared) (H : Hp) (E : XK) (f c' : Addr), Bd (LamX.lamCx X A outer s H E l.scope f c') k E → PE (LamX.lamCx X A outer s H E l.scope f c') l.body (TEapp X w i cb E)
section
variable {X : Cx} {w : Wd} {E : XK} {i k : Nat} {apos cpos p0 : Pos} {e : Expr} {ca : EC}
end
section
variable {X : Cx} {w : Wd} {E : XK} {fr : Bool} {k kk : Nat} {x y : Str} {LE : Value} {ks : List Str} {e : Expr} {cb : EC} {p py pos spos : Pos} {ls : List Lm}
end
end TL
end s_TL104
section s_TL105
set_option Elab.async false
set_option linter.all false
set_option maxRecDepth 100000
set_option maxHeartbeats 4000000
/-! TL105: x.split(sep); str(x) of ints and texts -/
namespace TL
open PySem PySem.Spec PyProof.Rows L2
def splitK (a b : Str) : G T := if decide (b.length ≠ 0 ∧ a.length ≤ 1000000 ∧ (Txt.split a b).length ≤ 1000000) then .ret (.lst ((Txt.split a b).map T.str)) else .stuck
def fSplit : T → T → G T
  | .str a, .str b => splitK a b
  | _, _ => .stuck
def cSplit (co ca : EC) : EC := fun r => co r >>= fun a => match a with
  | .str x => ca r >>= fun b => fSplit (.str x) b
  | _ => .stuck
section
variable {X : Cx} {M : Km} {w : Wd} {E : XK} {o e : Expr} {apos pos : Pos} {ca co : EC} {K : PySem.W.Frag} {mg : Str → Option Value} {Z : Hp}
def rStr : List V → Hp → VK → Prop := fun xs H Q => (∃ i, xs = [.int i] ∧ i.natAbs.log2 < 1920 ∧ Q (.str (toString i)) H) ∨ (∃ a, xs = [.str a] ∧ Q (.str a) H)
def fStr : List T → G T
  | [.int i] => if decide (i.natAbs.log2 < 1920) then .ret (.str (toString i)) else .stuck
  | [.str a] => .ret (.str a)
  | _ => .stuck
end
end TL
end s_TL105
section s_TL106
set_option Elab.async false
set_option linter.all false
set_option maxRecDepth 100000
set_option maxHeartbeats 4000000
/-! TL106: x is True, x is False, whatever x is -/
namespace TL
open PySem PySem.Spec PyProof.Rows L2
def rIsBA : R2 := fun x y H Q => ∃ b : Bool, y = .bl b ∧ Q (.bl (decide (x = .bl b))) H
section
variable {X : Cx} {w : Wd} {E : XK}
def fIsBA : T → T → G T
  | .bl a, .bl b => .ret (.bl (decide (a = b)))
  | .non, .bl _ => .ret (.bl false)
  | .int _, .bl _ => .ret (.bl false)
  | .str _, .bl _ => .ret (.bl false)
  | _, _ => .stuck
end
end TL
end s_TL106
section s_TL107
set_option Elab.async false
set_option linter.all false
set_option maxRecDepth 100000
set_option maxHeartbeats 4000000
/-! TL107: list(D), len(D), D a dict of the module -/
namespace TL
open PySem PySem.Spec PyProof.Rows L2
def rListK (K : PySem.W.Frag) (wd : World) (P0 : Str) (mg : Str → Option Value) (ks : List Str) : List V → Hp → VK → Prop := fun xs H Q => ∃ d, xs = [.ref d] ∧ mg P0 = some (.ref d) ∧ ∀ p, H p = none → Q (.ref p) (upd H p (.lst (ks.map V.str)))
def rLenK (P0 : Str) (mg : Str → Option Value) (ks : List Str) : List V → Hp → VK → Prop := fun xs H Q => ∃ d, xs = [.ref d] ∧ mg P0 = some (.ref d) ∧ Q (.int (ks.length : Nat)) H
def fListK (P0 : Str) (kts : List (Str × T)) : List T → G T
  | [.fn x] => if x = P0 ∧ kts.length ≤ 1000 then .ret (.lst (kts.map fun p => .str p.1)) else .stuck
  | _ => .stuck
def fLenK (P0 : Str) (kts : List (Str × T)) : List T → G T
  | [.fn x] => if x = P0 then .ret (.int (kts.length : Nat)) else .stuck
  | _ => .stuck
section
variable {X : Cx} {M : Km} {w : Wd} {E : XK} {P0 : Str} {kts : List (Str × T)}
end
end TL
end s_TL107
section s_TL108
set_option Elab.async false
set_option linter.all false
set_option maxRecDepth 100000
set_option maxHeartbeats 4000000
/-! TL108: lambdas in a def that is not the law's: called with things without closures, it answers such a thing and raises nothing -/
namespace TL
open PySem PySem.Spec PyProof.Rows L2
mutual
def ncT : T → Bool
  | .clo _ => false
  | .tup ts => ncTs ts
  | .lst ts => ncTs ts
  | .dic k => ncTd k
  | .dn k => ncTd k
  | .ins _ fs => ncTf fs
  | .exc _ fs => ncTf fs
  | _ => true
def ncTs : List T → Bool
  | [] => true
  | t :: ts => ncT t && ncTs ts
def ncTd : List (T × T) → Bool
  | [] => true
  | (a, b) :: r => ncT a && ncT b && ncTd r
def ncTf : List (Str × T) → Bool
  | [] => true
  | (_, b) :: r => ncT b && ncTf r
end
section
variable {K : PySem.W.Frag} {mg : Str → Option Value} {w : Wd} {cl : Nat → Addr → Addr → HO × HO}
mutual
theorem Tr.cl {Z : Hp} : ∀ {t : T} {v : V}, Tr K mg w Z t v → ncT t = true → Tr K mg { w with clo := cl } Z t v
  | _, _, .non, _ => .non
  | _, _, .bl b, _ => .bl b
  | _, _, .int i, _ => .int i
  | _, _, .str x, _ => .str x
  | _, _, .ty n, _ => .ty n
  | _, _, .tup h l r, e => .tup h l (Trs.cl r (by rw [ncT] at e; exact e))
  | _, _, .lst h l r, e => .lst h l (Trs.cl r (by rw [ncT] at e; exact e))
  | _, _, .dic h l r, e => .dic h l (Trd.cl r (by rw [ncT] at e; exact e))
  | _, _, .dn h l n r, e => .dn h l n (Trn.cl r (by rw [ncT] at e; exact e))
  | _, _, .ins a h d r, e => .ins a h d (Trf.cl r (by rw [ncT] at e; exact e))
  | _, _, .adr a, _ => .adr a
  | _, _, .fn h, _ => .fn h
  | _, _, .drw h, _ => .drw h
  | _, _, .exc0 h e, _ => .exc0 h e
  | _, _, .excD h e d r, q => .excD h e d (Trf.cl r (by rw [ncT] at q; exact q))
  | _, _, .excS h e d, _ => .excS h e d
  | _, _, .clo _ _, e => by rw [ncT] at e; cases e
  | _, _, .scr h l, _ => .scr h l
theorem Trs.cl {Z : Hp} : ∀ {ts : List T} {vs : List V}, Trs K mg w Z ts vs → ncTs ts = true → Trs K mg { w with clo := cl } Z ts vs
  | _, _, .nil, _ => .nil
  | _, _, .cons a b, e => by
    rw [ncTs, Bool.and_eq_true] at e
    exact .cons (Tr.cl a e.1) (Trs.cl b e.2)
theorem Trd.cl {Z : Hp} : ∀ {ts : List (T × T)} {vs : List (Key × V)}, Trd K mg w Z ts vs → ncTd ts = true → Trd K mg { w with clo := cl } Z ts vs
  | _, _, .nil, _ => .nil
  | _, _, .cons k a b, e => by
    rw [ncTd, Bool.and_eq_true, Bool.and_eq_true] at e
    exact .cons k (Tr.cl a e.1.2) (Trd.cl b e.2)
theorem Trn.cl {Z : Hp} : ∀ {ts : List (T × T)} {vs : List NE}, Trn K mg w Z ts vs → ncTd ts = true → Trn K mg { w with clo := cl } Z ts vs
  | _, _, .nil, _ => .nil
  | _, _, .cons k d q a b, e => by
    rw [ncTd, Bool.and_eq_true, Bool.and_eq_true] at e
    exact .cons k d (Tr.cl q e.1.1) (Tr.cl a e.1.2) (Trn.cl b e.2)
theorem Trf.cl {Z : Hp} : ∀ {ts : List (Str × T)} {vs : List (Str × V)}, Trf K mg w Z ts vs → ncTf ts = true → Trf K mg { w with clo := cl } Z ts vs
  | _, _, .nil, _ => .nil
  | _, _, .cons a b, e => by
    rw [ncTf, Bool.and_eq_true] at e
    exact .cons (Tr.cl a e.1) (Trf.cl b e.2)
end
end
/-- the lambdas' table of a def is among the world's -/
def HasTb (w : Wd) (P : Addr) (q : Str) : Prop := (P, q) ∈ w.tb ∧ ∀ p ∈ w.tb, p.1 = P → p.2 = q
theorem tb_one {P : Addr} {q : Str} : ∀ {tb : List (Addr × Str)}, (tb.map (·.1)).Nodup → (P, q) ∈ tb → ∀ p ∈ tb, p.1 = P → p.2 = q
  | [], _, h, _, _, _ => by cases h
  | x :: tb, hU, h, p, hp, e => by
    rw [List.map_cons, List.nodup_cons] at hU
    rcases List.mem_cons.mp h with h | h
    · rcases List.mem_cons.mp hp with hp | hp
      · rw [hp, ← h]
      · exact absurd (List.mem_map.mpr ⟨p, hp, by rw [e, ← h]⟩) hU.1
    · rcases List.mem_cons.mp hp with hp | hp
      · exact absurd (List.mem_map.mpr ⟨(P, q), h, by rw [← hp, e]⟩) hU.1
      · exact tb_one hU.2 h p hp e
theorem HasTb.of {w : Wd} {P : Addr} {q : Str} {tb : List (Addr × Str)} (e : w.tb = tb) (hU : (tb.map (·.1)).Nodup) (h : (P, q) ∈ tb) : HasTb w P q := by
  unfold HasTb
  rw [e]
  exact ⟨h, tb_one hU h⟩
def SpTb (pw : Program × World) (K : PySem.W.Frag) (mg : Str → Option Value) (P : Addr) (q : Str) (n : Nat) (F : List T → G T) : Sp := fun vs H Q E => ∃ (w : Wd) (ts : List T) (Z : Hp), (w.wo = pw ∧ ∀ p, w.home = some p → Grow w p.1 p.2 H Z) ∧ vs.length = n ∧ HasTb w P q ∧ Good w H Z ∧ Trs K mg w Z ts vs ∧ ncTs ts = true ∧
  (F ts).wp (fun t => ncT t = true ∧ ∀ v H' Z', Grow w H Z H' Z' → Tr K mg w Z' t v → Q v H') (fun _ => False)
structure CallTb (P : Program) (wd : World) (K : PySem.W.Frag) (mg : Str → Option Value) (base : Heap) (k : Nat) (x : Str) (n : Nat) (F : List T → G T) (P0 : Addr) (q : Str) : Prop where
  ex : ∃ f fd ps, mg x = some (.ref f) ∧ PySem.W.keepIn K (.ref f) = true ∧ Binds K fd ps [] ∧ FnG P wd K mg base k f fd ps (SpTb (P, wd) K mg P0 q n F)
/-- what the call computes -/
def fLam (F : List T → G T) (ts : List T) : G T := if ncTs ts then (F ts).nox >>= fun t => if ncT t then .ret t else .stuck else .stuck
section
variable {P : Program} {wd : World} {K : PySem.W.Frag} {mg : Str → Option Value} {base : Heap} {k : Nat} {f : Addr} {fd : FuncData} {ps N : List Str} {x qual : Str} {st : Stmt} {c : SC} {c' P' : Addr} {ls : List Lm}
end
section
variable {X : Cx} {w : Wd} {E : XK} {k j n : Nat} {x q : Str} {P0 : Addr} {F : List T → G T} {e : Expr} {es : List Expr} {cs : List Sl → G (List T)} {p pos : Pos}
end
end TL
end s_TL108
section s_TL109
set_option Elab.async false
set_option linter.all false
set_option maxRecDepth 100000
set_option maxHeartbeats 4000000
/-! TL109: f(x).append(None): a new list is written and let go -/
namespace TL
open PySem PySem.Spec PyProof.Rows L2
section
variable {X : Cx} {w : Wd} {E : XK} {fr : Bool} {pos apos cpos : Pos} {o : Expr} {co : EC}
def cAppDrop (co : EC) : SC := fun r => co r >>= fun a => match mAppend a [.non] with
  | some _ => .ret (.nx r)
  | none => .stuck
end
end TL
end s_TL109
section s_TL110
set_option Elab.async false
set_option linter.all false
set_option maxRecDepth 100000
set_option maxHeartbeats 4000000
/-! TL110: isinstance in a program without an own class; zip of lists and tuples -/
namespace TL
open PySem PySem.Spec PyProof.Rows L2
section
variable {X : Cx} {w : Wd} {E : XK} {e b e2 : Expr} {es : List Expr} {p p1 pos tpos : Pos} {ca : EC} {cs : List Sl → G (List T)} {H Z : Hp}
def isB1 (ns : List String) (t : T) : Option Bool := if ns.all bTys.contains then (tyName t).map fun a => ns.any (subTy a) else none
/-- isinstance(t, ns) -/
def fIsB (ns : List String) (t : T) : G T := match isB1 ns t with
  | some b => .ret (.bl b)
  | none => .stuck
/-! ### zip of two lists or tuples -/
def srcL : T → Option (List T)
  | .lst ts => some ts
  | .tup ts => some ts
  | _ => none
def zipL : List T → G (List T)
  | [a, b] => match srcL a, srcL b with
    | some ts, some us => .ret (zipT ts us)
    | _, _ => .stuck
  | _ => .stuck
end
end TL
end s_TL110
section s_TL111
set_option Elab.async false
set_option linter.all false
set_option maxRecDepth 100000
set_option maxHeartbeats 4000000
/-! TL111: int(text) -/
namespace TL
open PySem PySem.Spec PyProof.Rows L2
section
variable {M : Km} {w : Wd} {E : XK}
def rIntS : List V → Hp → VK → Prop := fun xs H Q => ∃ a n, xs = [.str a] ∧ PySem.intText? a = some n ∧ a.length ≤ 640 ∧ Q (.int n) H
def fIntS : List T → G T
  | [.str a] => if a.length ≤ 640 then (match PySem.intText? a with | some n => .ret (.int n) | none => .stuck) else .stuck
  | _ => .stuck
end
end TL
end s_TL111
section s_TL112
set_option Elab.async false
set_option linter.all false
set_option maxRecDepth 100000
set_option maxHeartbeats 4000000
/-! TL112: defs that answer a new thing or None -/
namespace TL
open PySem PySem.Spec PyProof.Rows L2
def PostNw (X : Km) (w : Wd) (H Z : Hp) (Q : VK) : T → Prop := fun t => (t = .non → ∀ H' Z', Grow w H Z H' Z' → Q .non H') ∧ PostF X w H Z Q t
def EvNw (X : Km) (w : Wd) (E : XK) (c : EC) : TE := fun σ H Q => ∃ H0 Z0 r Z o, EnvR X.km w H0 Z0 r σ H Z o ∧ (c r).wp (PostNw X.km w H Z Q) (PostX X.km w E H0 Z0)
structure CNw (X : Cx) (w : Wd) (E : XK) (e : Expr) (c : EC) : Prop where
  pe : PE X e (EvNw X.km w E c)
def SpO (pw : Program × World) (K : PySem.W.Frag) (mg : Str → Option Value) (n : Nat) (F : List T → G T) : Sp := fun vs H Q E => ∃ (w : Wd) (ts : List T) (Z : Hp), (w.wo = pw ∧ ∀ p, w.home = some p → Grow w p.1 p.2 H Z) ∧ vs.length = n ∧ Good w H Z ∧ Trs K mg w Z ts vs ∧
  (F ts).wp (fun t => (t = .non → ∀ H' Z', Grow w H Z H' Z' → Q .non H') ∧ ∀ p o H' Z', Grow w H Z H' Z' → Root K mg w Z' H' t p o → Fresh w H Z' o → Q (.ref p) H') (fun e => ∀ cls d H' Z', Grow w H Z H' Z' → ExR K mg w Z' H' e cls d → E cls d H')
section
variable {X : Cx} {w : Wd} {E : XK} {k j n : Nat} {f : Addr} {fd : FuncData} {ps : List Str} {x : Str} {p pos : Pos} {e : Expr} {es : List Expr} {cs : List Sl → G (List T)} {ca : EC} {F : List T → G T} {fr : Bool}
theorem PostNw.weak {H Z H1 Z1 : Hp} {Q : VK} {t : T} (g : Grow w H Z H1 Z1) (h : PostNw X.km w H Z Q t) : PostNw X.km w H1 Z1 Q t :=
  ⟨fun e H' Z' g' => h.1 e H' Z' (g.trans g'), PostF.weak g h.2⟩
theorem CNw.ce (h : CNw X w E e ca) : CE X w E e ca := ⟨peImp (pe_lk h.pe) fun σ H Q ⟨H0, Z0, r, Z, o, R, h⟩ => ⟨H0, Z0, r, Z, o, R, G.wp_mono h (fun t ht =>
  ⟨fun e H' Z' g => .inl (ht .non H' Z' g (e ▸ .non)), fun p o H' Z' g rt f => (g.frozen rt f).imp fun H2 ⟨Z2, g2, _, tr, _⟩ => ht _ H2 Z2 g2 tr⟩) fun _ x => x⟩⟩
abbrev CallO (P : Program) (wd : World) (K : PySem.W.Frag) (mg : Str → Option Value) (base : Heap) (k : Nat) (x : Str) (n : Nat) (F : List T → G T) : Prop := CallG P wd K mg base k x (SpO (P, wd) K mg n F)
/-- a new thing is a new thing or None -/
theorem CF.nw (h : CF X w E e ca) : CNw X w E e ca := ⟨peImp h.pe fun σ H Q ⟨H0, Z0, r, Z, o, R, h⟩ => ⟨H0, Z0, r, Z, o, R, G.wp_mono h (fun t ht => ht.2) fun _ x => x⟩⟩
/-- x = e: None, or a thing of the slot's own -/
def slO : T → Sl
  | .non => .fz .non
  | t => .ow t
def cSetP (i : Nat) (ca : EC) : SC := fun r => ca r >>= fun t => .ret (.nx (r.set i (slO t)))
end
section
variable {P : Program} {wd : World} {K : PySem.W.Frag} {mg : Str → Option Value} {base : Heap} {k : Nat} {f : Addr} {fd : FuncData} {ps N : List Str} {x qual : Str} {st : Stmt} {c : SC}
abbrev BodyO (P : Program) (wd : World) (K : PySem.W.Frag) (mg : Str → Option Value) (base : Heap) (N : List Str) (qual : Str) (st : Stmt) (k : Nat) (c : SC) : Prop :=
  ∀ (f : Addr) (cdv : Value) (A : Around) (outer : List Env) (s : Shared) (H : Hp) (w : Wd) (E : XK), w.opt = true → Bd (bx P wd K mg base N qual st f cdv A outer s H E) k E → CSs (bx P wd K mg base N qual st f cdv A outer s H E) w E true (defBody st) c
end
end TL
end s_TL112
section s_TL113
set_option Elab.async false
set_option linter.all false
set_option maxRecDepth 100000
set_option maxHeartbeats 4000000
/-! TL113: x, y = e, f: several values at once, some of them new or None -/
namespace TL
open PySem PySem.Spec PyProof.Rows L2
section
variable {X : Cx} {w : Wd} {E : XK} {fr : Bool} {e a b : Expr} {es : List Expr} {ca : EC} {c : List Sl → G (List Sl)} {pos : Pos}
def EvMg (M : Km) (w : Wd) (E : XK) (c : List Sl → G (List Sl)) : TA := fun σ H Q => ∃ H0 Z0 r Z o, EnvR M w H0 Z0 r σ H Z o ∧ (c r).wp (PostM M w H Z Q) (PostX M w E H0 Z0)
structure CMg (X : Cx) (w : Wd) (E : XK) (es : List Expr) (c : List Sl → G (List Sl)) : Prop where
  pa : PA X es (EvMg X.km w E c)
def cgNil : List Sl → G (List Sl) := fun _ => .ret []
def cgFz (ca : EC) (c : List Sl → G (List Sl)) : List Sl → G (List Sl) := fun r => ca r >>= fun t => c r >>= fun ss => .ret (.fz t :: ss)
def cgOw (ca : EC) (c : List Sl → G (List Sl)) : List Sl → G (List Sl) := fun r => ca r >>= fun t => c r >>= fun ss => .ret (.ow t :: ss)
def cgNw (ca : EC) (c : List Sl → G (List Sl)) : List Sl → G (List Sl) := fun r => ca r >>= fun t => c r >>= fun ss => .ret (slO t :: ss)
def cParG (is : List Nat) (c : List Sl → G (List Sl)) : SC := fun r => c r >>= fun ss => if ss.length = is.length then .ret (.nx (setR r is ss)) else .stuck
end
end TL
end s_TL113
section s_TL114
set_option Elab.async false
set_option linter.all false
set_option maxRecDepth 100000
set_option maxHeartbeats 4000000
/-! TL114: x[k], y = e -/
namespace TL
open PySem PySem.Spec PyProof.Rows L2
def cPutN (i j : Nat) (c1 ca : EC) : SC := fun r => ca r >>= fun t => match t, r[i]? with
  | .tup [t1, t2], some (.ow b) => c1 r >>= fun k1 => (match putAt b k1 t1 with
    | some b1 => .ret (.nx ((r.set i (.ow b1)).set j (.fz t2)))
    | none => .stuck)
  | _, _ => .stuck
section
variable {X : Cx} {w : Wd} {E : XK} {fr : Bool} {e i1 : Expr} {pos p0 p1 p2 pt : Pos} {ca c1 : EC} {kt : Nat}
end
end TL
end s_TL114
section s_TL115
set_option Elab.async false
set_option linter.all false
set_option maxRecDepth 100000
set_option maxHeartbeats 4000000
/-! TL115: comprehensions with two fors -/
namespace TL
open PySem PySem.Spec PyProof.Rows L2
/-- n: at most so many items so far -/
def compG2 (g : GC) (tt : List Sl → G Bool) (ci1 : List Sl → G (List T)) (g1 : GC) (tt1 : List Sl → G Bool) (te : EC) (vs1 : List Nat) : Nat → List T → List Sl → G (List T)
  | _, [], _ => .ret []
  | n, t :: ts, r => (g t r).nox >>= fun r1 => (tt r1).nox >>= fun b => if b then ((ci1 r1).nox >>= fun us => if n + us.length ≤ sizeLine then (compG g1 tt1 te us (TL.wipe (wipeR r1 vs1)) >>= fun ys => compG2 g tt ci1 g1 tt1 te vs1 (n + us.length) ts r >>= fun zs => .ret (ys ++ zs)) else .stuck) else compG2 g tt ci1 g1 tt1 te vs1 n ts r
def cComp2 (ci : List Sl → G (List T)) (g : GC) (tt : List Sl → G Bool) (ci1 : List Sl → G (List T)) (g1 : GC) (tt1 : List Sl → G Bool) (te : EC) (vs vs1 : List Nat) : EC := fun r => ci r >>= fun ts => compG2 g tt ci1 g1 tt1 te vs1 0 ts (wipeR r vs) >>= fun ys => .ret (.lst ys)
section
variable {X : Cx} {w : Wd} {E : XK} {fr : Bool} {tg iter tg1 iter1 elt : Expr} {ifs ifs1 : List Expr} {pos : Pos} {te : EC} {ci ci1 : List Sl → G (List T)} {g g1 : GC} {S S1 : List Nat} {tt tt1 : List Sl → G Bool}
variable {H0 Z0 H Z Z1 : Hp} {r : List Sl} {σ σ' : L2.St} {o : Nat → List Addr}
end
end TL
end s_TL115
section s_TL116
set_option Elab.async false
set_option linter.all false
set_option maxRecDepth 100000
set_option maxHeartbeats 4000000
/-! TL116: defs as values, called by a parameter; d.get(k, x) -/
namespace TL
open PySem PySem.Spec PyProof.Rows L2
/-- f(e, ..), f a slot that holds one of the table's defs -/
def cCallV (i : Nat) (tab : List (Str × (List T → G T))) (cs : List Sl → G (List T)) : EC := fun r => match r[i]? with
  | some (.fz (.fn x)) => (match tab.lookup x with
    | some F => cCall F cs r
    | none => .stuck)
  | _ => .stuck
/-- the table's defs keep their promises -/
structure TabV (P : Program) (wd : World) (K : PySem.W.Frag) (mg : Str → Option Value) (base : Heap) (k n : Nat) (tab : List (Str × (List T → G T))) : Prop where
  at_ : ∀ x F, tab.lookup x = some F → ∃ j, j ≤ k ∧ CallT P wd K mg base j x n F
section
variable {X : Cx} {w : Wd} {E : XK} {k n : Nat} {x : Str} {p pos : Pos} {e : Expr} {es : List Expr} {cs : List Sl → G (List T)} {tab : List (Str × (List T → G T))}
end
/-- d.get(k, x) -/
def getD (kts : List (T × T)) (b c : T) : G T := match keyT b with
  | some key => (match dGet kts key with
    | some t => .ret t
    | none => .ret c)
  | none => .stuck
def cGetD (ca cb cc : EC) : EC := fun r => ca r >>= fun a => match a with
  | .dic kts => cb r >>= fun b => cc r >>= fun c => getD kts b c
  | _ => .stuck
section
variable {X : Cx} {w : Wd} {E : XK} {k : Nat} {ob e f : Expr} {apos pos : Pos} {ca cb cc : EC}
end
end TL
end s_TL116
section s_TL117
set_option Elab.async false
set_option linter.all false
set_option maxRecDepth 100000
set_option maxHeartbeats 4000000
/-! TL117: dicts keyed by nested tuples: walked; looked at in passing -/
namespace TL
open PySem PySem.Spec PyProof.Rows L2
/-- the entries as they stand in the heap -/
theorem RelN.at : ∀ {xs : List NE} {us : List (NestedKey × Addr × Value)} {i : Nat} {x : NE}, RelN xs us → xs[i]? = some x → ∃ u, us[i]? = some u ∧ x.2.1 = u.2.1
  | x :: xs, y :: ys, 0, z, h, e => by
    simp only [List.getElem?_cons_zero, Option.some.injEq] at e
    subst e
    exact ⟨y, rfl, h.2.1⟩
  | x :: xs, y :: ys, i + 1, z, h, e => by
    rw [List.getElem?_cons_succ] at e
    obtain ⟨u, h1, h2⟩ := RelN.at h.2.2.2 e
    exact ⟨u, by rw [List.getElem?_cons_succ]; exact h1, h2⟩
  | [], [], i, z, _, e => by simp at e
  | [], _ :: _, _, _, h, _ => h.elim
  | _ :: _, [], _, _, h, _ => h.elim
section
variable {X : Cx} {pins : List (Addr × Obj)} {σ : L2.St} {H : Hp} {s : Shared} {d : Addr} {xs : List NE} {ep : Nat}
end
/-- its keys, one by one -/
def Itn (pw : Program × World) (d : Addr) (ep : Nat) (xs : List NE) : It :=
  ⟨fun i H => H d = some (dnOp pw d ep xs) ∧ i < xs.length, fun i H x H' => H' = H ∧ ∃ e, xs[i]? = some e ∧ x = .ref e.2.1, fun i H => H d = some (dnOp pw d ep xs) ∧ xs.length ≤ i⟩
section
variable {X : Cx} {M : Km} {w : Wd} {E : XK} {tg l : Expr} {ca : EC}
def iDn (pw : Program × World) (tl : TE) : TI := fun σ H R => tl σ H fun x H1 => ∃ a ep xs, x = .ref a ∧ H1 a = some (dnOp pw a ep xs) ∧ R (Itn pw a ep xs) H1
theorem Trn.at : ∀ {Z : Hp} {kts : List (T × T)} {xs : List NE} {i : Nat} {t : T × T}, Trn M.K M.mg w Z kts xs → kts[i]? = some t → ∃ x, xs[i]? = some x ∧ Tr M.K M.mg w Z t.1 (.ref x.2.1)
  | _, _, _, _, _, .nil, e => by simp at e
  | _, _, _, 0, _, .cons k d q a _, e => by simp at e; subst e; exact ⟨_, rfl, q⟩
  | _, _, _, i + 1, t, .cons _ _ _ _ b, e => by
    obtain ⟨x, h1, h2⟩ := Trn.at (i := i) (t := t) b (by simpa using e)
    exact ⟨x, by simpa using h1, h2⟩
/-- the keys of a dict keyed by nested tuples -/
def dnKeys : T → G (List T)
  | .dn kts => .ret (kts.map (·.1))
  | _ => .stuck
end
/-! ### d[k], d a slot's own dict with such keys -/
def cIxN (i : Nat) (ck : EC) : EC := fun r => match r[i]? with
  | some (.ow (.dn kts)) => ck r >>= fun k => fIx (.dn kts) k
  | _ => .stuck
section
variable {X : Cx} {w : Wd} {E : XK} {k : Nat} {x : Str} {e : Expr} {ck : EC} {p0 pos : Pos}
end
end TL
end s_TL117
section s_TL118
set_option Elab.async false
set_option linter.all false
set_option maxRecDepth 100000
set_option maxHeartbeats 4000000
/-! TL118: sorted(d), d keyed by nested tuples, the first key the empty one -/
namespace TL
open PySem PySem.Spec PyProof.Rows L2
section
variable {prog : Program} {w : World} {A : Around} {E : Value → Shared → Prop} {s : Shared}
end
/-! ### sorted(d) -/
def encT (p : T × V) : PyData := (toPy p.1).getD .none
/-- what is asked of the data -/
def SrtOk (ds : List PyData) : Prop := ((∃ r, ds = .tuple [] :: r) ∨ ∀ d ∈ ds, ∃ x r, d = .tuple (x :: r)) ∧ (∀ d ∈ ds, ∀ d' ∈ ds, PySem.W.alike d d' = true) ∧ ∀ d ∈ ds, d.depth ≤ 20
def rSortN (X : Km) : List V → Hp → VK → Prop := fun xs H Q => ∃ (d : Addr) (ep : Nat) (es : List NE) (bs : List (T × V)), xs = [.ref d] ∧ H d = some (dnOp X.pw d ep es) ∧ es.length ≤ 16000000 ∧ bs.map (·.2) = es.map (fun x => V.ref x.2.1) ∧ (∀ p ∈ bs, ∃ dt, toPy p.1 = some dt ∧ Dp X.K H p.2 dt) ∧ SrtOk (bs.map encT) ∧
  ∀ p, H p = none → Q (.ref p) (upd H p (.lst ((bs.mergeSort (PySem.W.dataLe false encT)).map (·.2))))
section
variable {X : Cx}
end
def encK (t : T) : PyData := (toPy t).getD .none
def leT (a b : T) : Bool := PySem.W.dataLe false encK a b
def neT : PyData → Bool
  | .tuple (_ :: _) => true
  | _ => false
def srtB (ds : List PyData) : Bool := (match ds with | .tuple [] :: _ => true | _ => ds.all neT) && ds.all (fun d => ds.all fun d' => PySem.W.alike d d') && ds.all fun d => decide (d.depth ≤ 20)
def fSortN : List T → G T
  | [.dn kts] => if srtB (kts.map fun p => encK p.1) then .ret (.lst ((kts.map (·.1)).mergeSort leT)) else .stuck
  | _ => .stuck
section
variable {M : Km} {w : Wd} {E : XK}
theorem Trn.pairs {Z : Hp} : ∀ {kts : List (T × T)} {xs : List NE}, Trn M.K M.mg w Z kts xs → ∃ bs : List (T × V), bs.map (·.1) = kts.map (·.1) ∧ bs.map (·.2) = xs.map (fun x => V.ref x.2.1) ∧ ∀ p ∈ bs, Tr M.K M.mg w Z p.1 p.2 ∧ ∃ dt, toPy p.1 = some dt
  | _, _, .nil => ⟨[], rfl, rfl, fun p hp => (nomatch hp)⟩
  | _, _, .cons (k := k) (a := a) e d q _ r => by
    obtain ⟨bs, h1, h2, h3⟩ := Trn.pairs r
    obtain ⟨dt, e1, _⟩ := nkT_nkD _ _ e
    refine ⟨(k, .ref a) :: bs, by rw [List.map_cons, List.map_cons, h1], by rw [List.map_cons, List.map_cons, h2], fun p hp => ?_⟩
    rcases List.mem_cons.mp hp with rfl | hp
    · exact ⟨q, dt, e1⟩
    · exact h3 p hp
end
end TL
end s_TL118
section s_TL119
set_option Elab.async false
set_option linter.all false
set_option maxRecDepth 100000
set_option maxHeartbeats 4000000
/-! TL119: {k: v for x in it if ..}, k nested tuples -/
namespace TL
open PySem PySem.Spec PyProof.Rows L2
/-- one store -/
def StoN (X : Km) (D : Addr) (y z : V) (H : Hp) (N : Hp → Prop) : Prop := ∃ (ep : Nat) (xs : List NE) (a : Addr) (dt : PyData) (k : NestedKey), y = .ref a ∧ H D = some (dnOp X.pw D ep xs) ∧ KeysN X.K H xs ∧ xs.length < 16000000 ∧ Dp X.K H (.ref a) dt ∧ nkD dt = some k ∧ k.depth ≤ 8 ∧ ∀ ep', N (upd H D (dnOp X.pw D ep' (putN xs k a z)))
section
variable {X : Cx} {pins : List (Addr × Obj)} {σ : L2.St} {H : Hp} {s : Shared} {E : Value → Shared → Prop}
end
def tDcN (X : Km) (wi : TI) (g : TG) (tt : TT) (tk tv : TE) (vs : List Nat) : TE := fun σ H Q => wi σ H fun J H1 => ∀ D, H1 D = none → ∃ W : Nat → Nat → Hp → Prop, (∃ m, W 0 m (upd H1 D (dnOp X.pw D 0 []))) ∧ ∀ i m H, W i m H →
  (J.stop i H ∧ Q (.ref D) H) ∨ (J.go i H ∧ ∃ Nx : Hp → Prop, (∀ H', Nx H' → ∃ m', m' < m ∧ W (i + 1) m' H') ∧ ∀ x H', J.yld i H x H' → g x (L2.wipe σ vs) H' fun σ2 H2 => L2.wipe σ2 vs = L2.wipe σ vs ∧ tt σ2 H2 fun b H3 =>
    if b = true then tk σ2 H3 fun y H4 => tv σ2 H4 fun z H5 => StoN X D y z H5 Nx else Nx H3)
section
variable {X : Cx}
/-- the block's state between two turns -/
structure TurnN (Y : Cx) (fp : List Addr) (tn : Nat → Heap → Prop) (σ0 : L2.St) (W : Nat → Nat → Hp → Prop) (n : Nat) (s : Shared) : Prop where
  ex : ∃ i H, Inv Y [] σ0 H s ∧ tn i s.heap ∧ (∀ b ∈ fp, H b = none) ∧ W i n H
end
def dcompGN (g : GC) (tt : List Sl → G Bool) (tk tv : EC) : List T → List Sl → List (T × T) → G (List (T × T))
  | [], _, acc => .ret acc
  | t :: ts, r, acc => (g t r).nox >>= fun r1 => (tt r1).nox >>= fun b => if b then ((tk r1).nox >>= fun k => (tv r1).nox >>= fun v => if (tupKey k).isSome && decide (acc.length < 16000000) then dcompGN g tt tk tv ts r (nPut acc k v) else .stuck) else dcompGN g tt tk tv ts r acc
def cDCompN (ci : List Sl → G (List T)) (g : GC) (tt : List Sl → G Bool) (tk tv : EC) (vs : List Nat) : EC := fun r => ci r >>= fun ts => dcompGN g tt tk tv ts (wipeR r vs) [] >>= fun kts => .ret (.dn kts)
section
variable {X : Cx} {w : Wd} {E : XK} {fr : Bool} {tg iter kx vx : Expr} {ifs : List Expr} {pos : Pos} {tk tv : EC} {ci : List Sl → G (List T)} {g : GC} {S : List Nat} {tt : List Sl → G Bool}
variable {H0 Z0 H Z Z1 : Hp} {r : List Sl} {σ σ' : L2.St} {o : Nat → List Addr}
end
end TL
end s_TL119
section s_TL120
set_option Elab.async false
set_option linter.all false
set_option maxRecDepth 100000
set_option maxHeartbeats 4000000
/-! TL120: lambdas with a parameter -/
namespace TL
open PySem PySem.Spec PyProof.Rows L2
/-- a lambda's own names are O, the parameter first; the others are captured ones and globals -/
structure LamS1 (N : List Str) (sc scope : Scope) (O : List Str) : Prop where
  kind : scope.kind = .function
  co : scope.isCoroutine = false
  gen : scope.isGenerator = false
  nocell : ∀ y ∈ scope.names, y.2 ≠ .cell
  loc : ∀ p O', O = p :: O' → scope.names.lookup p = some .local
  own : ∀ y ∈ scope.names, y.2 = .local → y.1 ∈ O
  free : ∀ y ∈ scope.names, y.2 = .free → sc.names.lookup y.1 = some .cell ∨ sc.names.lookup y.1 = some .free
  nd : O.Nodup
  dis : ∀ y ∈ O, y ∉ N
def lamS1B (N : List Str) (sc scope : Scope) (O : List Str) : Bool :=
  decide (scope.kind = .function) && !scope.isCoroutine && !scope.isGenerator && (scope.names.all fun y => !decide (y.2 = .cell) && (!decide (y.2 = .local) || decide (y.1 ∈ O)) && (!decide (y.2 = .free) || decide (sc.names.lookup y.1 = some .cell) || decide (sc.names.lookup y.1 = some .free))) &&
    (O.all fun y => !decide (y ∈ N)) && (match O with | [] => true | p :: _ => decide (scope.names.lookup p = some .local)) && decide O.Nodup
theorem LamS1.has {X : Cx} {N : List Str} {scope : Scope} {O : List Str} (L : LamS1 N X.env.scope scope O) (ok : X.Ok) : ∀ y ∈ scope.names, y.2 = .free → ∃ c, X.env.cells.lookup y.1 = some c := fun y hy e => by
  rcases L.free y hy e with k | k
  · exact ok.has _ (.inl k)
  · exact ok.has _ (.inr k)
abbrev noX : XK := fun _ _ _ => False
/-- the context of the lambda's body: the maker's names and its own -/
def lamCx1 (X : Cx) (A : Around) (outer : List Env) (s : Shared) (H : Hp) (E : XK) (scope : Scope) (f c' : Addr) (O : List Str) : Cx := { LamX.lamCx X A outer s H E scope f c' with N := X.N ++ O }
section
variable {X : Cx} {pins : List (Addr × Obj)} {σ : L2.St} {H HZ : Hp} {s s1 : Shared}
end
/-- f, called with one argument at any state behind (h, H) where D holds, does what φ asks -/
structure ActAt (P : Program) (wd : World) (K : PySem.W.Frag) (mg : Str → Option Value) (base : Heap) (k : Nat) (F : List Addr) (h : Heap) (H : Hp) (f : Addr) (D : Hp → Prop) (φ : V → Hp → VK → Prop) : Prop where
  fn : ∀ (A : Around) (outer : List Env) (s1 : Shared) (H1 : Hp), Env0 P wd K mg base A outer s1 H1 → D H1 → PySem.W.FnAt f s1.heap
  go : ∀ (A : Around) (outer : List Env) (s1 : Shared) (H1 : Hp) (v : V) (u : Value) (Q : VK), A.guards = some [] → Room (k + 1) A → Env0 P wd K mg base A outer s1 H1 → Un F [] H H1 h s1.heap → D H1 → RelV v u → φ v H1 Q →
    codeAny (model P wd) A (.call (.ref f) ⟨[u], []⟩) (CR (L2.CX P wd) outer P wd H1 s1 Q noX) s1
section
variable {X : Cx} {pins : List (Addr × Obj)} {σ : L2.St} {H : Hp} {s : Shared} {k : Nat} {f c' : Addr} {params : Arguments} {body : Expr} {scope : Scope}
end
end TL
end s_TL120
section s_TL121
set_option Elab.async false
set_option linter.all false
set_option maxRecDepth 100000
set_option maxHeartbeats 4000000
/-! TL121: a lambda with a parameter, called by the def that got it -/
namespace TL
open PySem PySem.Spec PyProof.Rows L2
/-- a(e), where a's slot holds the lambda that was handed over; it does g -/
def cUse1 (i : Nat) (g : T → G T) (ce : EC) : EC := fun r => match r[i]? with
  | some (.fz (.clo _)) => ce r >>= fun t => (g t).nox
  | _ => .stuck
/-- each closure that the world tells does g, at any state of the context -/
def ActIn (X : Cx) (w : Wd) (g : T → G T) : Prop := ∀ (j : Nat) (f c : Addr) (pins : List (Addr × Obj)) (σ : L2.St) (H : Hp) (s : Shared) (Z : Hp), Inv X pins σ H s → Good w H Z → (∀ p, w.home = some p → Grow w p.1 p.2 H Z) → Z f = some (w.clo j f c).1 → Z c = some (w.clo j f c).2 →
  PySem.W.FnAt f s.heap ∧ ∀ (v : V) (u : Value) (t : T) (Q : VK), RelV v u → Tr X.K X.mg w Z t v → (g t).wp (Post X.km w H Z Q) (fun _ => False) →
    codeAny (model X.prog X.w) X.A (.call (.ref f) ⟨[u], []⟩) (CR (L2.CX X.prog X.w) X.stack X.prog X.w H s Q noX) s
section
variable {X : Cx} {w : Wd} {E : XK} {g : T → G T} {a : Str} {e : Expr} {ce : EC} {p1 p2 : Pos}
end
/-- a lambda with a parameter, in its maker's context -/
structure LamT1 (X : Cx) (w : Wd) (k : Nat) (l : Lm) (n : Nat) (cb : EC) : Prop where
  ex : ∃ (p : Str) (O' : List Str), O'.length = n ∧ LamS1 X.N X.env.scope l.scope (p :: O') ∧ (∀ (q : Str) (cl : List (Str × Addr)) (pm cv ctv u : Value), bindArgs (PySem.W.kla_fn "<lambda>" q l.params l.body l.scope cl pm cv ctv) ⟨[u], []⟩ = pure [(p, u)]) ∧
    ∀ (A : Around) (outer : List Env) (s : Shared) (H : Hp) (f c' : Addr), Bd (lamCx1 X A outer s H noX l.scope f c' (p :: O')) k noX → CE (lamCx1 X A outer s H noX l.scope f c' (p :: O')) w noX l.body cb
inductive LamsT1 (X : Cx) (w : Wd) (k : Nat) : List Lm → List (Nat × EC) → Prop
  | nil : LamsT1 X w k [] []
  | cons {l : Lm} {q : Nat × EC} {ls : List Lm} {cbs : List (Nat × EC)} : LamT1 X w k l q.1 q.2 → LamsT1 X w k ls cbs → LamsT1 X w k (l :: ls) (q :: cbs)
theorem LamsT1.get {X : Cx} {w : Wd} {k : Nat} : ∀ {ls : List Lm} {cbs : List (Nat × EC)}, LamsT1 X w k ls cbs → ∀ {j : Nat} {q : Nat × EC}, cbs[j]? = some q → ∃ l, ls[j]? = some l ∧ LamT1 X w k l q.1 q.2
  | _, _, .nil, j, cb, e => by simp at e
  | _, _, .cons a b, 0, cb, e => by simp at e; subst e; exact ⟨_, rfl, a⟩
  | _, _, .cons a b, j + 1, cb, e => by
    obtain ⟨l, h1, h2⟩ := LamsT1.get b (j := j) (q := cb) (by simpa using e)
    exact ⟨l, by simpa using h1, h2⟩
/-- what the lambda does, from its maker's slots -/
def lamG (r : List Sl) (q : Nat × EC) (t : T) : G T := if ncT t then (q.2 (wipe r ++ (.fz t :: List.replicate q.1 .un))).nox >>= fun u => if ncT u then .ret u else .stuck else .stuck
/-- the one closure at f, c -/
def pinClo (f c : Addr) (q : HO × HO) : Nat → Addr → Addr → HO × HO := fun _ f' c' => if f' = f ∧ c' = c then q else (.ext fun _ => False, .ext fun _ => False)
/-- the def x, with m things and a lambda handed to it -/
structure ApplE (P : Program) (wd : World) (K : PySem.W.Frag) (mg : Str → Option Value) (base : Heap) (k : Nat) (x : Str) (m : Nat) (F : (T → G T) → List T → G T) : Prop where
  ex : ∃ (st : Stmt) (N ps : List Str) (c : (T → G T) → SC), FunAt K mg x x st ps ∧ FnScope N ps (defScope st) ∧ ps.length = m + 1 ∧ (F = fun g ts => runB (c g) N.length (ts ++ [.clo 0])) ∧
    ∀ (g : T → G T) (f : Addr) (cdv : Value) (A : Around) (outer : List Env) (s : Shared) (H : Hp) (w : Wd), Bd (bx P wd K mg base N x st f cdv A outer s H noX) k noX → ActIn (bx P wd K mg base N x st f cdv A outer s H noX) w g → CSs (bx P wd K mg base N x st f cdv A outer s H noX) w noX false (defBody st) (c g)
/-- x(e, .., lambda) -/
def cAppl (m : Nat) (F : (T → G T) → List T → G T) (cbs : List (Nat × EC)) (cs : List Sl → G (List T)) : EC := fun r => cs r >>= fun ts => match ts[m]? with
  | some (.clo j) => (match cbs[j]? with
    | some q => if ts.length = m + 1 ∧ ncTs (ts.take m) = true then (F (lamG r q) (ts.take m)).nox >>= fun t => if ncT t then .ret t else .stuck else .stuck
    | none => .stuck)
  | _ => .stuck
end TL
end s_TL121
section s_TL122
set_option Elab.async false
set_option linter.all false
set_option maxRecDepth 100000
set_option maxHeartbeats 4000000
/-! TL122: a lambda with a parameter, handed to a def -/
namespace TL
open PySem PySem.Spec PyProof.Rows L2
section
variable {X : Cx} {w : Wd} {E : XK} {k kk kl m : Nat} {x : Str} {e : Expr} {es : List Expr} {cs : List Sl → G (List T)} {p pos : Pos} {ls : List Lm} {cbs : List (Nat × EC)} {F : (T → G T) → List T → G T}
end
end TL
end s_TL122
section s_TL123
set_option Elab.async false
set_option linter.all false
set_option maxRecDepth 100000
set_option maxHeartbeats 4000000
/-! TL123: defs that make lambdas, or call such defs: promises in worlds that have their tables -/
namespace TL
open PySem PySem.Spec PyProof.Rows L2
def HasTbs (w : Wd) (tbs : List (Addr × Str)) : Prop := ∀ p ∈ tbs, HasTb w p.1 p.2
theorem HasTbs.nil {w : Wd} : HasTbs w [] := fun _ h => (nomatch h)
theorem HasTbs.cons {w : Wd} {p : Addr × Str} {t : List (Addr × Str)} (h : HasTb w p.1 p.2) (h2 : HasTbs w t) : HasTbs w (p :: t) := fun q hq => by
  rcases List.mem_cons.mp hq with rfl | hq
  · exact h
  · exact h2 q hq
theorem HasTbs.of {w : Wd} {t t2 : List (Addr × Str)} (h : HasTbs w t2) (s : ∀ p ∈ t, p ∈ t2) : HasTbs w t := fun p hp => h p (s p hp)
theorem HasTbs.all {w : Wd} {tb t : List (Addr × Str)} (e : w.tb = tb) (hU : (tb.map (·.1)).Nodup) (s : ∀ p ∈ t, p ∈ tb) : HasTbs w t := fun p hp => HasTb.of e hU (s p hp)
/-! ### promises -/
def ST (w : Wd) (pw : Program × World) (K : PySem.W.Frag) (mg : Str → Option Value) (n : Nat) (F : List T → G T) : Sp := fun vs H Q E => ∃ (ts : List T) (Z : Hp), (w.wo = pw ∧ ∀ p, w.home = some p → Grow w p.1 p.2 H Z) ∧ vs.length = n ∧ Good w H Z ∧ Trs K mg w Z ts vs ∧
  (F ts).wp (fun t => ∀ v H' Z', Grow w H Z H' Z' → Tr K mg w Z' t v → Q v H') (fun e => ∀ cls d H' Z', Grow w H Z H' Z' → ExR K mg w Z' H' e cls d → E cls d H')
def SO (w : Wd) (pw : Program × World) (K : PySem.W.Frag) (mg : Str → Option Value) (n : Nat) (F : List T → G T) : Sp := fun vs H Q E => ∃ (ts : List T) (Z : Hp), (w.wo = pw ∧ ∀ p, w.home = some p → Grow w p.1 p.2 H Z) ∧ vs.length = n ∧ Good w H Z ∧ Trs K mg w Z ts vs ∧
  (F ts).wp (fun t => (t = .non → ∀ H' Z', Grow w H Z H' Z' → Q .non H') ∧ ∀ p o H' Z', Grow w H Z H' Z' → Root K mg w Z' H' t p o → Fresh w H Z' o → Q (.ref p) H') (fun e => ∀ cls d H' Z', Grow w H Z H' Z' → ExR K mg w Z' H' e cls d → E cls d H')
def SpTt (tbs : List (Addr × Str)) (pw : Program × World) (K : PySem.W.Frag) (mg : Str → Option Value) (n : Nat) (F : List T → G T) : Sp := fun vs H Q E => ∃ w, HasTbs w tbs ∧ ST w pw K mg n F vs H Q E
def SpOt (tbs : List (Addr × Str)) (pw : Program × World) (K : PySem.W.Frag) (mg : Str → Option Value) (n : Nat) (F : List T → G T) : Sp := fun vs H Q E => ∃ w, HasTbs w tbs ∧ SO w pw K mg n F vs H Q E
structure CallSt (P : Program) (wd : World) (K : PySem.W.Frag) (mg : Str → Option Value) (base : Heap) (tbs : List (Addr × Str)) (k : Nat) (x : Str) (n : Nat) (ks : List Str) (perm : List Nat) (dts : List T) (m : Nat) (F : List T → G T) : Prop where
  ex : ∃ f fd ps dvs ds, mg x = some (.ref f) ∧ PySem.W.keepIn K (.ref f) = true ∧ Vals dvs ds ∧ (∀ (w : Wd) Z, Trs K mg w Z dts dvs) ∧ ps.length = m ∧
    (∀ (s : Shared) (us ws : List Value), K.In s.heap → us.length = n → ws.length = ks.length → BindsTo s fd ⟨us, ks.zip ws⟩ (ps.zip (pickL perm (us ++ ws ++ ds)))) ∧ FnG P wd K mg base k f fd ps (SpTt tbs (P, wd) K mg m F)
  len : perm.length = m
  low : ∀ i ∈ perm, i < n + ks.length + dts.length
abbrev CallTt (P : Program) (wd : World) (K : PySem.W.Frag) (mg : Str → Option Value) (base : Heap) (tbs : List (Addr × Str)) (k : Nat) (x : Str) (n : Nat) (F : List T → G T) : Prop := CallG P wd K mg base k x (SpTt tbs (P, wd) K mg n F)
abbrev CallOt (P : Program) (wd : World) (K : PySem.W.Frag) (mg : Str → Option Value) (base : Heap) (tbs : List (Addr × Str)) (k : Nat) (x : Str) (n : Nat) (F : List T → G T) : Prop := CallG P wd K mg base k x (SpOt tbs (P, wd) K mg n F)
theorem SpTt.pick {tbs : List (Addr × Str)} {pw : Program × World} {K : PySem.W.Frag} {mg : Str → Option Value} {n m : Nat} {perm : List Nat} {dts : List T} {dvs : List V} {F : List T → G T} {vs : List V} {H : Hp} {Q : VK} {E : XK} (h : SpTt tbs pw K mg n (fun ts => F (pickL perm (ts ++ dts))) vs H Q E)
    (hd : ∀ (w : Wd) Z, Trs K mg w Z dts dvs) (hp : perm.length = m) (hl : ∀ i ∈ perm, i < n + dts.length) : SpTt tbs pw K mg m F (pickL perm (vs ++ dvs)) H Q E := by
  obtain ⟨w, htb, ts, Z, hwo, hn, g, tr, q⟩ := h
  refine ⟨w, htb, pickL perm (ts ++ dts), Z, hwo, ?_, g, pick_trs (tr.append (hd w Z)) perm, q⟩
  rw [pickL_length, hp]
  intro i hi
  have := hl i hi
  rw [List.length_append, hn, ← (hd w Z).length]
  exact this
/-! ### calls -/
section
variable {X : Cx} {w : Wd} {E : XK} {j k n m : Nat} {x : Str} {p pos : Pos} {e : Expr} {es : List Expr} {kws : List Keyword} {cs ck : List Sl → G (List T)} {F : List T → G T} {ks : List Str} {perm : List Nat} {dts : List T} {tbs : List (Addr × Str)}
end
/-! ### from bodies -/
def fLamO (F : List T → G T) (ts : List T) : G T := fLam F ts
section
variable {P : Program} {wd : World} {K : PySem.W.Frag} {mg : Str → Option Value} {base : Heap} {k : Nat} {f : Addr} {fd : FuncData} {ps N : List Str} {x qual : Str} {st : Stmt} {c : SC} {tbs : List (Addr × Str)} {c' P' : Addr} {ls : List Lm}
/-- the body of a def that makes lambdas -/
abbrev BodyL (P : Program) (wd : World) (K : PySem.W.Frag) (mg : Str → Option Value) (base : Heap) (N : List Str) (qual : Str) (st : Stmt) (tbs : List (Addr × Str)) (ls : List Lm) (fr : Bool) (k : Nat) (c : SC) : Prop :=
  ∀ (f : Addr) (cdv : Value) (A : Around) (outer : List Env) (s : Shared) (H : Hp) (w : Wd) (E : XK), (fr = true → w.opt = true) → HasTbs w tbs → MakesL (bx P wd K mg base N qual st f cdv A outer s H E) w → w.clo = closOf (bx P wd K mg base N qual st f cdv A outer s H E).env ls → Bd (bx P wd K mg base N qual st f cdv A outer s H E) k E → CSs (bx P wd K mg base N qual st f cdv A outer s H E) w E fr (defBody st) c
end
end TL
end s_TL123
section s_TL124
set_option Elab.async false
set_option linter.all false
set_option maxRecDepth 100000
set_option maxHeartbeats 4000000
/-! TL124: a lambda with a parameter is made -/
namespace TL
open PySem PySem.Spec PyProof.Rows L2
section
variable {X : Cx} {w : Wd} {E : XK} {k : Nat} {pos : Pos} {ls : List Lm} {l : Lm} {params : Arguments} {body : Expr} {scope : Scope}
end
section
variable {X : Cx} {w : Wd} {E : XK} {a b c : Expr} {ca cb : EC} {tc : List Sl → G Bool} {pos : Pos}
end
end TL
end s_TL124
section s_TL125
set_option Elab.async false
set_option linter.all false
set_option maxRecDepth 100000
set_option maxHeartbeats 4000000
/-! TL125: dict(zip(a, b)) of two texts -/
namespace TL
open PySem PySem.Spec PyProof.Rows L2
section
variable {prog : Program} {w : World} {K : Type} [DecidableEq K] {A : Around} {E : Value → Shared → Prop} {s : Shared} {T : String} {a d : Addr} {fp wr : List Addr} {n : Nat} {Rel : Nat → Value → Value → Prop} {OK : Heap → Prop}
/-- the pairs are told as they come: keys known, values by what they are -/
structure PairsAre (knd : KeyKind prog w K) (n : Nat) (Rel : Nat → Value → Value → Prop) (ks : List K) (Gv : Nat → Value → Prop) : Prop where
  ok : ∀ i key v, Rel i key v → (∃ k, ks[i]? = some k ∧ knd.is k key = true) ∧ Gv i v
def Came (ks : List K) (Gv : Nat → Value → Prop) (n : Nat) (kvs : List (K × Value)) : Prop := kvs.length = n ∧ ∀ j p, kvs[j]? = some p → ks[j]? = some p.1 ∧ Gv j p.2
end
section
variable {prog : Program} {w : World} {A : Around} {E : Value → Shared → Prop} {s : Shared} {x y : Str} {t u : Tok}
def oS (x : Str) (t : Tok) : Obj := { cls := .type "str_ascii_iterator", data := .fields #[.str x t, .int 0 0] }
def SgAt (x : Str) (i : Nat) (v : Value) : Prop := ∃ c u, x.cps[i]? = some c ∧ v = .str ⟨#[c]⟩ u
end
end TL
end s_TL125
section s_TL126
set_option Elab.async false
set_option linter.all false
set_option maxRecDepth 100000
set_option maxHeartbeats 4000000
/-! TL126: dict(zip(a, b)) of two texts, by computations -/
namespace TL
open PySem PySem.Spec PyProof.Rows L2
section
variable {prog : Program} {w : World} {A : Around} {E : Value → Shared → Prop} {s : Shared} {x y : Str} {t u : Tok}
end
def ksS (x : Str) : List Key := x.cps.toList.map fun c => .inr ⟨#[c]⟩
def vsS (x : Str) : List V := x.cps.toList.map fun c => .str ⟨#[c]⟩
section
variable {X : Cx} {w : Wd} {E : XK} {e e2 : Expr} {ta : TA} {cs : List Sl → G (List T)} {p pz pos pos2 : Pos}
/-- the dict of two texts, sign by sign -/
def dictZipS : List T → G T
  | [.str x, .str y] => if (x.cps.all (· < 128) && y.cps.all (· < 128) && fits x.cps.size) = true then .ret (.dic (mergeT [] ((chars x).zip (chars y)))) else .stuck
  | _ => .stuck
end
end TL
end s_TL126
section s_TL127
set_option Elab.async false
set_option linter.all false
set_option maxRecDepth 100000
set_option maxHeartbeats 4000000
/-! TL127: a lambda without parameters, handed to a def that hands it on to what catches -/
namespace TL
open PySem PySem.Spec PyProof.Rows L2
/-- each closure that the world tells does g, called without arguments -/
def ActIn0 (X : Cx) (w : Wd) (k : Nat) (g : G T) : Prop := ∀ (j : Nat) (f c : Addr) (pins : List (Addr × Obj)) (σ : L2.St) (H : Hp) (s : Shared) (Z : Hp), Inv X pins σ H s → Good w H Z → (∀ p, w.home = some p → Grow w p.1 p.2 H Z) → Z f = some (w.clo j f c).1 → Z c = some (w.clo j f c).2 →
  ActT X.prog X.w X.K X.mg X.base k (frs X.stack) s.heap H f (fun E' H1 Q' => ∃ Z1, Good w H1 Z1 ∧ (∀ p, w.home = some p → Grow w p.1 p.2 H1 Z1) ∧ Sub Z Z1 ∧ g.wp (Post X.km w H1 Z1 Q') (PostX X.km w E' H1 Z1))
/-- what caught(act) tells, where act does g -/
def cCaughtI (ks : List Str) (g : G T) (ca : EC) : EC := fun r => ca r >>= fun t => match t with
  | .clo _ => catchG ks g
  | _ => .stuck
section
variable {X : Cx} {w : Wd} {E : XK} {k kk : Nat} {x : Str} {ks : List Str} {e : Expr} {ca : EC} {g : G T} {p pos : Pos}
end
/-- what is answered and raised holds no closure -/
def ncG : G T → G T
  | .ret t => if ncT t then .ret t else .stuck
  | .exc e => if ncT e then .exc e else .stuck
  | .stuck => .stuck
  | .pick n k => .pick n fun i => ncG (k i)
  | .any k => .any fun l => ncG (k l)
/-- the def x, with a lambda handed to it -/
structure ApplK (P : Program) (wd : World) (K : PySem.W.Frag) (mg : Str → Option Value) (base : Heap) (k kl : Nat) (x : Str) (F : G T → G T) : Prop where
  ex : ∃ (st : Stmt) (N ps : List Str) (c : G T → SC), FunAt K mg x x st ps ∧ FnScope N ps (defScope st) ∧ ps.length = 1 ∧ (F = fun g => runB (c g) N.length [.clo 0]) ∧
    ∀ (g : G T) (f : Addr) (cdv : Value) (A : Around) (outer : List Env) (s : Shared) (H : Hp) (w : Wd), Bd (bx P wd K mg base N x st f cdv A outer s H noX) k noX → ActIn0 (bx P wd K mg base N x st f cdv A outer s H noX) w kl g → CSs (bx P wd K mg base N x st f cdv A outer s H noX) w noX false (defBody st) (c g)
/-- x(lambda) -/
def cApplK (F : G T → G T) (cbs : List EC) (ca : EC) : EC := fun r => ca r >>= fun t => match t with
  | .clo j => (match cbs[j]? with
    | some cb => (F (ncG (cb (wipe r)))).nox >>= fun t => if ncT t then .ret t else .stuck
    | none => .stuck)
  | _ => .stuck
end TL
end s_TL127
section s_TL128
set_option Elab.async false
set_option linter.all false
set_option maxRecDepth 100000
set_option maxHeartbeats 4000000
/-! TL128: a lambda without parameters, handed to a def by its maker -/
namespace TL
open PySem PySem.Spec PyProof.Rows L2
section
variable {X : Cx} {w : Wd} {E : XK} {k kk kl : Nat} {x : Str} {e : Expr} {ca : EC} {p pos : Pos} {ls : List Lm} {cbs : List EC} {F : G T → G T}
end
end TL
end s_TL128
section s_TL129
set_option Elab.async false
set_option linter.all false
set_option maxRecDepth 100000
set_option maxHeartbeats 4000000
/-! TL129: a comprehension whose element may look at the def around it -/
namespace TL
open PySem PySem.Spec PyProof.Rows L2
section
variable {X : Cx} {elt tg iter : Expr} {ifs : List Expr} {scope : Scope} {own : List (Str × Nat)} {pos : Pos} {wi : TI} {g : TG} {tt : TT} {te : TE}
end
end TL
end s_TL129
section s_TL130
set_option Elab.async false
set_option linter.all false
set_option maxRecDepth 100000
set_option maxHeartbeats 4000000
/-! TL130: lambdas without parameters, handed to a def in a comprehension -/
namespace TL
open PySem PySem.Spec PyProof.Rows L2
/-- x(v) in a comprehension with the names own, v a lambda of the def around -/
def cApplKc (F : G T → G T) (cbs : List EC) (own : List Nat) (ca : EC) : EC := fun r => ca r >>= fun t => match t with
  | .clo j => (match cbs[j]? with
    | some cb => (F (ncG (cb (TL.wipe (wipeR r own))))).nox >>= fun t => if ncT t then .ret t else .stuck
    | none => .stuck)
  | _ => .stuck
section
variable {X : Cx} {w : Wd} {E : XK} {k kk kl : Nat} {x : Str} {e : Expr} {ca : EC} {p pos : Pos} {ls : List Lm} {cbs : List EC} {F : G T → G T}
end
end TL
end s_TL130
section s_TL131
set_option Elab.async false
set_option linter.all false
set_option maxRecDepth 100000
set_option maxHeartbeats 4000000
/-! TL131: isinstance(an exception, a builtin exception class) -/
namespace TL
open PySem PySem.Spec PyProof.Rows L2
/-- isinstance(.., c), c a builtin exception class: what is asked of the exceptions in l -/
structure IsV (K : PySem.W.Frag) (mg : Str → Option Value) (c : String) (l : List (Str × Bool)) : Prop where
  ex : mg (c : Str) = none ∧ (∀ n ∈ aTys, PySem.W.kitOne K (.type n) (.type c) = some false) ∧ ∀ d b, l.lookup d = some b → ∃ D, mg d = some (.ref D) ∧ exvB K D = true ∧ PySem.W.kitOne K (.ref D) (.type c) = some b
def rIsV (K : PySem.W.Frag) (c : String) : List V → Hp → VK → Prop := fun xs H Q => ∃ (a C : Addr) (d : Option Addr) (b : Bool), xs = [.ref a, .ty c] ∧ ExAt H C d a ∧ (∀ dd, d = some dd → ∃ gs, H dd = some (.xd gs)) ∧ exvB K C = true ∧ PySem.W.kitOne K (.ref C) (.type c) = some b ∧ Q (.bl b) H
def rIsVT (K : PySem.W.Frag) (c : String) : List V → Hp → VK → Prop := fun xs H Q => rIsi K xs H Q ∨ rIsV K c xs H Q
theorem call_isV {X : Cx} {c : String} : CallR X (.builtin "isinstance") (rIsVT X.K c) := by
  intro pins s σ H xs us Q I r h
  rcases h with h | h
  · exact call_isi pins s σ H xs us Q I r h
  · obtain ⟨a, C, d, b, rfl, ha, hd, hx, hk, q⟩ := h
    obtain ⟨u1, u2, rfl, r1, r2⟩ := vals2 r
    cases (show u1 = Value.ref a from r1)
    cases (show u2 = Value.type c from r2)
    obtain ⟨oe, od, J, _⟩ := exc_at I ha hd
    exact PySem.W.kia_one (exv_kit hx) I.kIn J hk (fun z => nomatch z) fun tk => ⟨.bl b, H, I.tok tk, rfl, q⟩
section
variable {X : Cx} {w : Wd} {E : XK} {c : String} {l : List (Str × Bool)} {e : Expr} {ca : EC} {p p1 pos : Pos}
theorem ce_isV (I : IsV X.K X.mg c l) (hm : X.mg "isinstance" = none) (he : CE X w E e ca) (hg : Gl X "isinstance" := by rfl) (hgc : Gl X (c : Str) := by rfl) (hv : bootBuiltins (c : Str) = some (.type c) := by rfl) (hn : (c : Str) ≠ "__name__" := by decide) (hdc : ((c : Str) == ("__debug__" : Str)) = false := by decide)
    (hs1 : starEach [e, .Name (c : Str) p1] X.env = (false, eval e X.env) :: starEach [.Name (c : Str) p1] X.env := by rfl) (hs2 : starEach [.Name (c : Str) p1] X.env = (false, eval (.Name (c : Str) p1) X.env) :: starEach [] X.env := by rfl) (hpl : (backTo pos (starEach [.Name (c : Str) p1] X.env)).any (·.1) = false := by rfl) :
    CE X w E (.Call (.Name "isinstance" p) [e, .Name (c : Str) p1] [] pos) (cOp1 (fIsX l) ca) := by
  obtain ⟨hmc, hty, hex⟩ := I.ex
  refine ⟨peImp (pe_callB (call_isV (c := c)) hg hm (by decide +kernel) (pa_cons he.pe (pa_cons (pe_bltn (v := .ty c) hgc hmc hv rfl hn hdc) pa_nil hs2) hs1) (by decide) (by decide) hs1 hpl) fun σ H Q h => ?_⟩
  obtain ⟨H0, Z0, r, Z, o, R, h⟩ := h
  refine evSeq (P := fun H Z => Post X.km w H Z Q) (PX := fun _ => True) R (fun g => Post.weak g) h fun x H1 Z1 a R1 g1 t1 h1 => ?_
  by_cases ha : ∃ d fs, a = .exc d fs
  · obtain ⟨d, fs, rfl⟩ := ha
    unfold fIsX at h1
    simp only at h1
    cases q : l.lookup d with
    | none => rw [q] at h1; exact h1.elim
    | some b =>
      rw [q] at h1
      obtain ⟨D, hd, hx, hk⟩ := hex d b q
      refine .inr ?_
      have G := R1.good
      cases t1 with
      | exc0 m e0 =>
        have z := m.symm.trans hd
        cases z
        exact ⟨_, D, none, b, rfl, .inl (G.zh _ _ e0), fun dd e => (nomatch e), hx, hk, h1 _ H1 Z1 (Grow.refl G) (.bl b)⟩
      | excD m e0 ed tf =>
        have z := m.symm.trans hd
        cases z
        exact ⟨_, D, _, b, rfl, .inl (G.zh _ _ e0), fun dd e => by cases e; exact ⟨_, G.zh _ _ ed⟩, hx, hk, h1 _ H1 Z1 (Grow.refl G) (.bl b)⟩
      | excS m e0 et =>
        have z := m.symm.trans hd
        cases z
        exact ⟨_, D, none, b, rfl, .inr ⟨rfl, _, G.zh _ _ e0⟩, fun dd e => (nomatch e), hx, hk, h1 _ H1 Z1 (Grow.refl G) (.bl b)⟩
  · have h2 : ∃ n, tyName a = some n ∧ (G.ret (T.bl false)).wp (Post X.km w H1 Z1 Q) (PostX X.km w E H0 Z0) := by
      unfold fIsX at h1
      split at h1
      · exact absurd ⟨_, _, rfl⟩ ha
      · split at h1
        · rename_i n hn
          exact ⟨n, hn, h1⟩
        · exact h1.elim
    obtain ⟨n, hn, h3⟩ := h2
    exact .inl ⟨x, .ty c, .type n, .type c, false, rfl, .ty c, ty_of (M := X.km) R1.good t1 hn, hty n (tyName_in hn), h3 _ H1 Z1 (Grow.refl R1.good) (.bl _)⟩
end
inductive IsVL (K : PySem.W.Frag) (mg : Str → Option Value) (c : String) : List (Str × Bool) → Prop
  | nil : IsVL K mg c []
  | cons {d : Str} {b : Bool} {D : Addr} {l : List (Str × Bool)} : mg d = some (.ref D) → exvB K D = true → PySem.W.kitOne K (.ref D) (.type c) = some b → IsVL K mg c l → IsVL K mg c ((d, b) :: l)
theorem IsVL.get {K : PySem.W.Frag} {mg : Str → Option Value} {c : String} : ∀ {l : List (Str × Bool)}, IsVL K mg c l → ∀ d b, l.lookup d = some b → ∃ D, mg d = some (.ref D) ∧ exvB K D = true ∧ PySem.W.kitOne K (.ref D) (.type c) = some b
  | _, .nil, d, b, e => by cases e
  | _, .cons (d := d0) h1 h2 h3 r, d, b, e => by
    rw [List.lookup_cons] at e
    by_cases q : d = d0
    · subst q
      simp at e
      subst e
      exact ⟨_, h1, h2, h3⟩
    · have z : (d == d0) = false := by simp [q]
      rw [z] at e
      exact IsVL.get r d b e
theorem isV_mk {K : PySem.W.Frag} {mg : Str → Option Value} {h : Heap} {c : String} {l : List (Str × Bool)} (z : mg (c : Str) = none) (tk : ∀ n ∈ aTys, PySem.W.kitOne K (.type n) (.type c) = some false) (L : IsVL K mg c l) : IsV K mg c l := ⟨z, tk, L.get⟩
end TL
end s_TL131
section s_TL132
set_option Elab.async false
set_option linter.all false
set_option maxRecDepth 100000
set_option maxHeartbeats 4000000
/-! TL132: != of two lists of other lengths, whatever is in them -/
namespace TL
open PySem PySem.Spec PyProof.Rows L2
def rNeL (K : PySem.W.Frag) : R2 := fun x y H Q => ∃ a b xs ys, x = .ref a ∧ y = .ref b ∧ SqL K H a xs ∧ SqL K H b ys ∧ xs.length ≠ ys.length ∧ Q (.bl true) H
def fNeL : T → T → G T
  | .lst ts, .lst us => if ts.length = us.length then fNe (.lst ts) (.lst us) else .ret (.bl true)
  | a, b => fNe a b
section
variable {M : Km} {X : Cx} {w : Wd} {E : XK} {k : Nat}
end
end TL
end s_TL132
section s_TL133
set_option Elab.async false
set_option linter.all false
set_option maxRecDepth 100000
set_option maxHeartbeats 4000000
/-! TL133: l.index(b) of truth values -/
namespace TL
open PySem PySem.Spec PyProof.Rows L2
def rIdxB (K : PySem.W.Frag) : V → List V → Hp → VK → Prop := fun x xs H Q => ∃ (p : Addr) (bs : List Bool) (k : Bool), x = .ref p ∧ xs = [.bl k] ∧ SqL K H p (bs.map V.bl) ∧ k ∈ bs ∧ Q (.int ((bs.idxOf k : Nat) : Int)) H
section
variable {X : Cx}
end
def fIndexB : T → List T → G T
  | .lst ts, [.bl k] => (match bls ts with | some bs => if k ∈ bs then .ret (.int ((bs.idxOf k : Nat) : Int)) else .stuck | none => .stuck)
  | _, _ => .stuck
def cIndexB (co : EC) (cs : List Sl → G (List T)) : EC := fun r => co r >>= fun o => match o with
  | .lst ts => cs r >>= fun us => fIndexB (.lst ts) us
  | _ => .stuck
section
variable {X : Cx} {w : Wd} {E : XK} {o e : Expr} {co : EC} {cs : List Sl → G (List T)} {apos cpos : Pos}
end
end TL
end s_TL133
section s_TL134
set_option Elab.async false
set_option linter.all false
set_option maxRecDepth 100000
set_option maxHeartbeats 4000000
/-! TL134: defs that make lambdas and may raise -/
namespace TL
open PySem PySem.Spec PyProof.Rows L2
def ncX : G T → G T
  | .ret t => if ncT t then .ret t else .stuck
  | .exc e => if ncT e then .exc e else .stuck
  | .stuck => .stuck
  | .pick n k => .pick n fun i => ncX (k i)
  | .any k => .any fun l => ncX (k l)
/-- as fLam, an error may be raised -/
def fLamX (F : List T → G T) (ts : List T) : G T := if ncTs ts then ncX (F ts) else .stuck
section
variable {P : Program} {wd : World} {K : PySem.W.Frag} {mg : Str → Option Value} {base : Heap} {k : Nat} {f : Addr} {fd : FuncData} {ps N : List Str} {x qual : Str} {st : Stmt} {c : SC} {tbs : List (Addr × Str)} {c' P' : Addr} {ls : List Lm}
end
end TL
end s_TL134
section s_TL135
set_option Elab.async false
set_option linter.all false
set_option maxRecDepth 100000
set_option maxHeartbeats 4000000
/-! TL135: own things with own things in them: paths, nodes, stores -/
namespace TL
open PySem PySem.Spec PyProof.Rows L2
def DKd.toT (k : DKd) (ts : List T) : T := match k with
  | .lst => .lst ts
  | .dic ks => .dic (ks.zip ts)
  | .dn ks => .dn (ks.zip ts)
  | .ins c fs => .ins c (fs.zip ts)
  | .lstA _ => .lst ts
  | .me c fs => .ins c (fs.zip ts)
mutual
def DT.toT : DT → T
  | .fz t => t
  | .nd k ds => k.toT (DT.toTs ds)
def DT.toTs : List DT → List T
  | [] => []
  | d :: ds => d.toT :: DT.toTs ds
end
def atD : List Nat → DT → Option DT
  | [], d => some d
  | j :: p, .nd _ ds => (match ds[j]? with | some d => atD p d | none => none)
  | _ :: _, .fz _ => none
def putD : List Nat → DT → DT → DT
  | [], _, d' => d'
  | j :: p, .nd k ds, d' => (match ds[j]? with | some d => .nd k (ds.set j (putD p d d')) | none => .nd k ds)
  | _ :: _, .fz t, _ => .fz t
theorem atD_snoc {k : DKd} {ds : List DT} {j : Nat} {dj : DT} (hj : ds[j]? = some dj) : ∀ {p : List Nat} {d : DT}, atD p d = some (.nd k ds) → atD (p ++ [j]) d = some dj
  | [], d, h => by
    cases h
    show (match ds[j]? with | some d => atD [] d | none => none) = _
    rw [hj]; rfl
  | i :: p, .fz t, h => by cases h
  | i :: p, .nd k2 es, h => by
    show (match es[i]? with | some d => atD (p ++ [j]) d | none => none) = _
    have h' : (match es[i]? with | some d => atD p d | none => none) = some (.nd k ds) := h
    cases e : es[i]? with
    | none => rw [e] at h'; cases h'
    | some d => rw [e] at h'; exact atD_snoc hj (p := p) h'
theorem putD_snoc {k : DKd} {ds : List DT} {j : Nat} {dj d' : DT} (hj : ds[j]? = some dj) : ∀ {p : List Nat} {d : DT}, atD p d = some (.nd k ds) → putD (p ++ [j]) d d' = putD p d (.nd k (ds.set j d'))
  | [], d, h => by
    cases h
    show (match ds[j]? with | some d => DT.nd k (ds.set j (putD [] d d')) | none => .nd k ds) = _
    rw [hj]; rfl
  | i :: p, .fz t, h => by cases h
  | i :: p, .nd k2 es, h => by
    show (match es[i]? with | some d => DT.nd k2 (es.set i (putD (p ++ [j]) d d')) | none => .nd k2 es) = (match es[i]? with | some d => DT.nd k2 (es.set i (putD p d _)) | none => .nd k2 es)
    have h' : (match es[i]? with | some d => atD p d | none => none) = some (.nd k ds) := h
    cases e : es[i]? with
    | none => rfl
    | some d =>
      rw [e] at h'
      simp only
      rw [putD_snoc hj (p := p) h']
section
variable {K : PySem.W.Frag} {mg : Str → Option Value} {w : Wd} {Z H : Hp}
theorem DRs.length : ∀ {ds : List DT} {vs : List V} {os : List Addr}, DRs K mg w Z H ds vs os → ds.length = vs.length
  | _, _, _, .nil => rfl
  | _, _, _, .cons _ r _ => by rw [List.length_cons, List.length_cons, DRs.length r]
theorem DRs.get : ∀ {ds : List DT} {vs : List V} {os : List Addr} {j : Nat} {d : DT}, DRs K mg w Z H ds vs os → ds[j]? = some d → ∃ v o1, vs[j]? = some v ∧ DR K mg w Z H d v o1 ∧ (∀ a ∈ o1, a ∈ os) ∧
    ∀ Z1 H1 d2 v2 o2, Sub Z Z1 → DR K mg w Z1 H1 d2 v2 o2 → (∀ a ∈ os, a ∉ o1 → ∀ u, H a = some u → H1 a = some u) → (∀ a ∈ o2, a ∈ o1 ∨ a ∉ os) → ∃ os', DRs K mg w Z1 H1 (ds.set j d2) (vs.set j v2) os' ∧ ∀ a ∈ os', a ∈ os ∨ a ∈ o2
  | _, _, _, _, _, .nil, e => by simp at e
  | _, _, _, 0, d, .cons (o1 := o1) (os := os) h r dj, e => by
    simp at e; subst e
    refine ⟨_, o1, rfl, h, fun a ha => List.mem_append_left _ ha, fun Z1 H1 d2 v2 o2 s h2 hp hn => ⟨o2 ++ os, .cons h2 (r.move s fun a ha u hu => hp a (List.mem_append_right _ ha) (fun z => dj a z ha) u hu) fun a ha z => ?_, fun a ha => ?_⟩⟩
    · rcases hn a ha with q | q
      · exact dj a q z
      · exact q (List.mem_append_right _ z)
    · rcases List.mem_append.mp ha with q | q
      · exact .inr q
      · exact .inl (List.mem_append_right _ q)
  | _, _, _, j + 1, d, .cons (o1 := o1) (os := os) h r dj, e => by
    obtain ⟨v, o3, h1, h2, h3, h4⟩ := DRs.get (j := j) r (by simpa using e)
    refine ⟨v, o3, by simpa using h1, h2, fun a ha => List.mem_append_right _ (h3 a ha), fun Z1 H1 d2 v2 o2 s q2 hp hn => ?_⟩
    obtain ⟨os', k1, k2⟩ := h4 Z1 H1 d2 v2 o2 s q2 (fun a ha hq => hp a (List.mem_append_right _ ha) hq) fun a ha => (hn a ha).imp id fun z y => z (List.mem_append_right _ y)
    refine ⟨o1 ++ os', .cons (h.move s fun a ha u hu => hp a (List.mem_append_left _ ha) (fun z => dj a ha (h3 a z)) u hu) k1 fun a ha z => ?_, fun a ha => ?_⟩
    · rcases k2 a z with q | q
      · exact dj a ha q
      · rcases hn a q with y | y
        · exact dj a ha (h3 a y)
        · exact y (List.mem_append_left _ ha)
    · rcases List.mem_append.mp ha with q | q
      · exact .inl (List.mem_append_left _ q)
      · exact (k2 a q).imp (fun z => List.mem_append_right _ z) id
/-- what stands at a path -/
structure AtP (K : PySem.W.Frag) (mg : Str → Option Value) (w : Wd) (Z H : Hp) (d : DT) (v : V) (o : List Addr) (p : List Nat) (d1 : DT) (v1 : V) (o1 : List Addr) : Prop where
  at_ : atD p d = some d1
  sub : DR K mg w Z H d1 v1 o1
  mem : ∀ a ∈ o1, a ∈ o
  put : ∀ Z1 H1 d2 o2, Sub Z Z1 → DR K mg w Z1 H1 d2 v1 o2 → (∀ a ∈ o, a ∉ o1 → ∀ u, H a = some u → H1 a = some u) → (∀ a ∈ o2, a ∈ o1 ∨ a ∉ o) → ∃ o3, DR K mg w Z1 H1 (putD p d d2) v o3 ∧ ∀ a ∈ o3, a ∈ o ∨ a ∈ o2
variable {d d1 : DT} {v v1 : V} {o o1 : List Addr} {p : List Nat}
theorem AtP.nil (h : DR K mg w Z H d v o) : AtP K mg w Z H d v o [] d v o := ⟨rfl, h, fun _ q => q, fun _ _ _ o2 _ q _ _ => ⟨o2, q, fun _ q => .inr q⟩⟩
theorem AtP.move {Z' H' : Hp} (A : AtP K mg w Z H d v o p d1 v1 o1) (s : Sub Z Z') (h : ∀ a ∈ o, ∀ u, H a = some u → H' a = some u) : AtP K mg w Z' H' d v o p d1 v1 o1 := by
  refine ⟨A.at_, A.sub.move s fun a ha => h a (A.mem a ha), A.mem, fun Z1 H1 d2 o2 s1 q hp hn => A.put Z1 H1 d2 o2 (s.trans s1) q (fun a ha hq u hu => ?_) hn⟩
  exact hp a ha hq u (h a ha u hu)
theorem AtP.step {k : DKd} {ds : List DT} {j : Nat} {dj : DT} (A : AtP K mg w Z H d v o p (.nd k ds) v1 o1) (hj : ds[j]? = some dj) : ∃ q vs own vj oj, v1 = .ref q ∧ NodeR K mg w Z H k q vs own ∧ vs.length = ds.length ∧ vs[j]? = some vj ∧ AtP K mg w Z H d v o (p ++ [j]) dj vj oj := by
  have h1 := A.sub
  cases h1 with
  | nd n r dj' =>
    rename_i q vs own os
    obtain ⟨vj, oj, e1, e2, e3, e4⟩ := r.get hj
    refine ⟨q, vs, own, vj, oj, rfl, n, r.length.symm, e1, atD_snoc hj A.at_, e2, fun a ha => A.mem a (List.mem_append_right _ (e3 a ha)), fun Z1 H1 d2 o2 s h2 hp hn => ?_⟩
    obtain ⟨os', k1, k2⟩ := e4 Z1 H1 d2 vj o2 s h2 (fun a ha hq => hp a (A.mem a (List.mem_append_right _ ha)) hq) fun a ha => (hn a ha).imp id fun z y => z (A.mem a (List.mem_append_right _ y))
    have ev : vs.set j vj = vs := by
      apply List.ext_getElem?
      intro i
      rw [List.getElem?_set]
      split
      · rename_i e
        subst e
        have hl := (List.getElem?_eq_some_iff.mp e1).1
        rw [if_pos hl, e1]
      · rfl
    rw [ev] at k1
    have n1 : NodeR K mg w Z1 H1 k q vs own := n.move s fun a ha u hu => hp a (A.mem a (List.mem_append_left _ ha)) (fun z => dj' a ha (e3 a z)) u hu
    have dn : ∀ a ∈ own, a ∉ os' := fun a ha z => by
      rcases k2 a z with y | y
      · exact dj' a ha y
      · rcases hn a y with x | x
        · exact dj' a ha (e3 a x)
        · exact x (A.mem a (List.mem_append_left _ ha))
    rw [putD_snoc hj A.at_]
    obtain ⟨o3, t1, t2⟩ := A.put Z1 H1 (.nd k (ds.set j d2)) (own ++ os') s (.nd n1 k1 dn) (fun a ha hq => hp a ha fun z => hq (List.mem_append_right _ (e3 a z))) fun a ha => by
      rcases List.mem_append.mp ha with y | y
      · exact .inl (List.mem_append_left _ y)
      · rcases k2 a y with x | x
        · exact .inl (List.mem_append_right _ x)
        · exact (hn a x).imp (fun z => List.mem_append_right _ (e3 a z)) id
    refine ⟨o3, t1, fun a ha => ?_⟩
    rcases t2 a ha with y | y
    · exact .inl y
    · rcases List.mem_append.mp y with x | x
      · exact .inl (A.mem a (List.mem_append_left _ x))
      · rcases k2 a x with z | z
        · exact .inl (A.mem a (List.mem_append_right _ z))
        · exact .inr z
end

/-! ### keys -/
section
variable {K : PySem.W.Frag} {mg : Str → Option Value} {w : Wd} {Z H : Hp}
theorem KysN.length : ∀ {ks : List T} {xs : List NE}, KysN K mg w Z ks xs → ks.length = xs.length
  | _, _, .nil => rfl
  | _, _, .cons _ _ _ r => by rw [List.length_cons, List.length_cons, KysN.length r]
end
section
variable {M : Km} {w : Wd} {Z H : Hp}
theorem KysN.all (s : Sub Z H) : ∀ {ks : List T} {xs : List NE}, KysN M.K M.mg w Z ks xs → ∀ x ∈ xs, x.1.depth ≤ 8 ∧ ∃ d, Dp M.K H (.ref x.2.1) d ∧ nkD d = some x.1
  | _, _, .nil, x, hx => (nomatch hx)
  | _, _, .cons e d q r, x, hx => by
    rcases List.mem_cons.mp hx with z | hx
    · subst z
      obtain ⟨d', h1, h2⟩ := nkT_nkD _ _ e
      exact ⟨d, d', q.dp s h1, h2⟩
    · exact KysN.all s r x hx
theorem KysN.keysN (s : Sub Z H) {ks : List T} {xs : List NE} (h : KysN M.K M.mg w Z ks xs) (nd : (xs.map (·.1)).Nodup) : KeysN M.K H xs := ⟨nd, h.all s⟩
/-- the place of a key -/
def DKd.ix (k : DKd) (n : Nat) (t : T) : Option Nat := match k with
  | .lst => (match t with | .int i => ixN n i | _ => none)
  | .dic ks => (match keyT t with | some q => ks.findIdx? (fun x => decide (keyT x = some q)) | none => none)
  | .dn ks => (match tupKey t with | some q => ks.findIdx? (fun x => decide (nkT x = some q)) | none => none)
  | .ins _ _ => none
  | .lstA _ => (match t with | .int i => ixN n i | _ => none)
  | .me _ _ => none
/-- a store at a key -/
def DKd.put (k : DKd) (ds : List DT) (t : T) (d : DT) : Option (DKd × List DT) := match k with
  | .lst => (match t with | .int i => (ixN ds.length i).map fun j => (.lst, ds.set j d) | _ => none)
  | .dic ks => (match keyT t with
    | some q => if fits (ks.length + 1) then some (match ks.findIdx? (fun x => decide (keyT x = some q)) with | some j => (.dic ks, ds.set j d) | none => (.dic (ks ++ [t]), ds ++ [d])) else none
    | none => none)
  | .dn ks => (match tupKey t with
    | some q => if ks.length < 16000000 then some (match ks.findIdx? (fun x => decide (nkT x = some q)) with | some j => (.dn ks, ds.set j d) | none => (.dn (ks ++ [t]), ds ++ [d])) else none
    | none => none)
  | .ins _ _ => none
  | .lstA a => (match t with | .int i => (ixN ds.length i).map fun j => (.lstA a, ds.set j d) | _ => none)
  | .me _ _ => none
end
end TL
end s_TL135
section s_TL136
set_option Elab.async false
set_option linter.all false
set_option maxRecDepth 100000
set_option maxHeartbeats 4000000
/-! TL136: own things with own things in them: places, new things, x = .., L[k], L[k] = e, L.append(e) -/
namespace TL
open PySem PySem.Spec PyProof.Rows L2
section
variable {X : Km} {w : Wd} {H0 Z0 H Z : Hp} {r : List Sl} {σ : L2.St} {o : Nat → List Addr}
/-- free: of no slot, not known at the beginning -/
def Free (w : Wd) (H0 Z : Hp) (o : Nat → List Addr) (a : Addr) : Prop := H0 a = none ∧ Z a = none ∧ a ∉ w.W ∧ ∀ j, a ∉ o j
end

/-! ### places -/
abbrev PC := List Sl → G (List Nat)
def EvL (X : Km) (w : Wd) (E : XK) (i : Nat) (c : PC) : TE := fun σ H Q => ∃ H0 Z0 r Z o, EnvR X.km w H0 Z0 r σ H Z o ∧ (c r).wp (fun p => ∀ H1 Z1 d v d1 v1 o1, EnvR X.km w H0 Z0 r σ H1 Z1 o → Grow w H Z H1 Z1 → r[i]? = some (.dd d) → σ[i]? = some (some v) → AtP X.K X.mg w Z1 H1 d v (o i) p d1 v1 o1 → Q v1 H1) (PostX X.km w E H0 Z0)
structure CL (X : Cx) (w : Wd) (E : XK) (e : Expr) (i : Nat) (c : PC) : Prop where
  pe : PE X e (EvL X.km w E i c)
/-- the thing at a place -/
def nodeAt (r : List Sl) (i : Nat) (p : List Nat) : Option DT := match r[i]? with
  | some (.dd d) => atD p d
  | _ => none
/-- the thing at a place is another one now -/
def putAtD (r : List Sl) (i : Nat) (p : List Nat) (d2 : DT) : List Sl := match r[i]? with
  | some (.dd d) => r.set i (.dd (putD p d d2))
  | _ => r
def cpVar (i : Nat) : PC := fun r => match r[i]? with
  | some (.dd _) => .ret []
  | _ => .stuck
def cpIx (i : Nat) (cp : PC) (ck : EC) : PC := fun r => cp r >>= fun p => ck r >>= fun t => match nodeAt r i p with
  | some (.nd k ds) => (match k.ix ds.length t with | some j => if j < ds.length then .ret (p ++ [j]) else .stuck | none => .stuck)
  | _ => .stuck
/-- what is frozen at a place -/
def cRdL (i : Nat) (cp : PC) : EC := fun r => cp r >>= fun p => match nodeAt r i p with
  | some (.fz t) => .ret t
  | _ => .stuck
section
variable {X : Cx} {w : Wd} {E : XK} {fr : Bool} {e ke : Expr} {pos p0 : Pos} {cp : PC} {ck ca : EC} {i kk : Nat} {H0 Z0 H Z : Hp} {r : List Sl} {σ : L2.St} {o : Nat → List Addr} {D : Ends} {Q : VK}
end

/-! ### new things -/
abbrev NC := List Sl → G DT
def PostDT (X : Km) (w : Wd) (H Z : Hp) (Q : VK) : DT → Prop := fun d => ∀ v o H' Z', Grow w H Z H' Z' → DR X.K X.mg w Z' H' d v o → Fresh w H Z' o → Q v H'
def EvDT (X : Km) (w : Wd) (E : XK) (c : NC) : TE := fun σ H Q => ∃ H0 Z0 r Z o, EnvR X.km w H0 Z0 r σ H Z o ∧ (c r).wp (PostDT X.km w H Z Q) (PostX X.km w E H0 Z0)
/-- what is new, or frozen -/
structure CDT (X : Cx) (w : Wd) (E : XK) (e : Expr) (c : NC) : Prop where
  pe : PE X e (EvDT X.km w E c)
theorem PostDT.weak {X : Km} {w : Wd} {H Z H1 Z1 : Hp} {Q : VK} {d : DT} (g : Grow w H Z H1 Z1) (h : PostDT X.km w H Z Q d) : PostDT X.km w H1 Z1 Q d := by
  intro v o H' Z' g' r f
  refine h v o H' Z' (g.trans g') r fun a ha => ⟨?_, (f a ha).2⟩
  cases q : H a with
  | none => rfl
  | some u =>
    have z := (f a ha).1
    rw [g.hh a u q (f a ha).2.2] at z
    cases z
def cnE (ca : EC) : NC := fun r => ca r >>= fun t => .ret (.fz t)
/-- a new thing whose items are frozen -/
def shlT : T → Option DT
  | .lst ts => some (.nd .lst (ts.map .fz))
  | .dic [] => some (.nd (.dic []) [])
  | .dn [] => some (.nd (.dn []) [])
  | .ins c fs => some (.nd (.ins c (fs.map (·.1))) (fs.map fun f => .fz f.2))
  | _ => none
def cnF (ca : EC) : NC := fun r => ca r >>= fun t => match shlT t with | some d => .ret d | none => .stuck
section
variable {K : PySem.W.Frag} {mg : Str → Option Value} {w : Wd} {Z H : Hp}
theorem Trs.drs : ∀ {ts : List T} {vs : List V}, Trs K mg w Z ts vs → DRs K mg w Z H (ts.map .fz) vs []
  | _, _, .nil => .nil
  | _, _, .cons a b => .cons (o1 := []) (.fz a) (Trs.drs b) fun _ h => (nomatch h)
theorem Trf.drs : ∀ {fs : List (Str × T)} {gs : List (Str × V)}, Trf K mg w Z fs gs → DRs K mg w Z H (fs.map fun f => .fz f.2) (gs.map (·.2)) [] ∧ gs.map (·.1) = fs.map (·.1)
  | _, _, .nil => ⟨.nil, rfl⟩
  | _, _, .cons a b => by
    obtain ⟨h1, h2⟩ := Trf.drs b
    exact ⟨.cons (o1 := []) (.fz a) h1 fun _ h => (nomatch h), by simp only [List.map_cons, h2]⟩
theorem Root.dr {t : T} {d : DT} {p : Addr} {o : List Addr} (rt : Root K mg w Z H t p o) (e : shlT t = some d) : DR K mg w Z H d (.ref p) o := by
  have nl : ∀ {own : List Addr}, own = own ++ [] := (List.append_nil _).symm
  unfold shlT at e
  split at e
  · cases e
    obtain ⟨rfl, vs, hp, hl, tr⟩ := rt
    rw [nl (own := [p])]
    exact .nd ⟨rfl, hp, hl⟩ tr.drs fun _ _ h => (nomatch h)
  · cases e
    obtain ⟨rfl, kvs, hp, hl, tr⟩ := rt
    cases tr
    rw [nl (own := [p])]
    exact .nd ⟨rfl, [], hp, hl, rfl, rfl, by simp⟩ .nil fun _ _ h => (nomatch h)
  · cases e
    obtain ⟨rfl, xs, hp, hl, nd, tr⟩ := rt
    cases tr
    rw [nl (own := [p])]
    exact .nd ⟨rfl, [], hp, hl, by simp, rfl, .nil⟩ .nil fun _ _ h => (nomatch h)
  · cases e
    obtain ⟨C, dx, gs, rfl, ne, m, hi, hd, tf⟩ := rt
    obtain ⟨h1, h2⟩ := tf.drs (H := H)
    rw [nl (own := [p, dx])]
    exact .nd ⟨C, dx, gs, rfl, ne, m, hi, hd, h2, rfl⟩ h1 fun _ _ h => (nomatch h)
  · cases e
end
section
variable {X : Cx} {w : Wd} {E : XK} {fr : Bool} {e ke ve : Expr} {pos p0 tpos : Pos} {cp : PC} {ck ca : EC} {cn : NC} {i kk : Nat} {H0 Z0 H Z : Hp} {r : List Sl} {σ : L2.St} {o : Nat → List Addr} {D : Ends} {Q : VK}
/-- x = .. -/
def cSetDT (i : Nat) (cn : NC) : SC := fun r => cn r >>= fun d => .ret (.nx (r.set i (.dd d)))
/-! ### L[k] = e -/
def cPutL (i : Nat) (cp : PC) (ck : EC) (cn : NC) : SC := fun r => cn r >>= fun d => cp r >>= fun p => match nodeAt r i p with
  | some (.nd k ds) => ck r >>= fun t => (match k.put ds t d with | some q => .ret (.nx (putAtD r i p (.nd q.1 q.2))) | none => .stuck)
  | _ => .stuck
/-! ### L.append(e) -/
def cAppL (i : Nat) (cp : PC) (cn : NC) : SC := fun r => cp r >>= fun p => match nodeAt r i p with
  | some (.nd .lst ds) => cn r >>= fun d => if fits (ds.length + 1) then .ret (.nx (putAtD r i p (.nd .lst (ds ++ [d])))) else .stuck
  | _ => .stuck
end
end TL
end s_TL136
section s_TL137
set_option Elab.async false
set_option linter.all false
set_option maxRecDepth 100000
set_option maxHeartbeats 4000000
/-! TL137: comprehensions whose items are new things: [..], {k: ..} -/
namespace TL
open PySem PySem.Spec PyProof.Rows L2
section
variable {M : Km} {w : Wd} {Z H : Hp}
end
/-- a new thing that is being filled -/
structure AccN (X : Km) (w : Wd) (H1 : Hp) (D : Addr) (k : DKd) (ds : List DT) (vs : List V) (os : List Addr) (Z H : Hp) : Prop where
  n : NodeR X.K X.mg w Z H k D vs [D]
  r : DRs X.K X.mg w Z H ds vs os
  d : D ∉ os
  f : ∀ a ∈ D :: os, H1 a = none ∧ Z a = none ∧ a ∉ w.W
section
variable {X : Km} {w : Wd} {H1 Z1 : Hp} {D : Addr} {k k' : DKd} {ds ds' : List DT} {vs vs' : List V} {os os' : List Addr} {Z H Z' H' : Hp}
theorem AccN.tracked (A : AccN X w H1 D k ds vs os Z H) : ∀ a ∈ D :: os, H a ≠ none := fun a ha => by
  rcases List.mem_cons.mp ha with z | z
  · exact A.n.tracked a (by simp [z])
  · exact A.r.tracked a z
theorem AccN.move (A : AccN X w H1 D k ds vs os Z H) (g : Grow w H Z H' Z') : AccN X w H1 D k ds vs os Z' H' := by
  refine ⟨A.n.move g.zz fun a ha u hu => g.hh a u hu (A.f a (by simp at ha; simp [ha])).2.2, A.r.move g.zz fun a ha u hu => g.hh a u hu (A.f a (by simp [ha])).2.2, A.d, fun a ha => ⟨(A.f a ha).1, g.free (A.f a ha).2.1 (A.tracked a ha), (A.f a ha).2.2⟩⟩
/-- what is new behind it is beside it -/
theorem AccN.apart (A : AccN X w H1 D k ds vs os Z H) (g : Grow w H1 Z1 H Z) {o2 : List Addr} (f : Fresh w H Z' o2) : (∀ a ∈ o2, a ≠ D ∧ a ∉ os) ∧ ∀ a ∈ o2, H1 a = none ∧ Z' a = none ∧ a ∉ w.W := by
  refine ⟨fun a ha => ⟨fun z => A.tracked a (by simp [z]) (f a ha).1, fun z => A.tracked a (by simp [z]) (f a ha).1⟩, fun a ha => ⟨?_, (f a ha).2⟩⟩
  cases e : H1 a with
  | none => rfl
  | some u => have z := g.hh a u e (f a ha).2.2; rw [(f a ha).1] at z; cases z
/-- one thing more -/
theorem AccN.next (A : AccN X w H1 D k ds vs os Z H) {o2 : List Addr} (h2 : ∀ a ∈ o2, a ≠ D ∧ a ∉ os) (f2 : ∀ a ∈ o2, H1 a = none ∧ Z a = none ∧ a ∉ w.W) {u : HO} (n : NodeR X.K X.mg w Z (upd H D u) k' D vs' [D]) (r : DRs X.K X.mg w Z H ds' vs' os') (ho : ∀ a ∈ os', a ∈ os ∨ a ∈ o2) : AccN X w H1 D k' ds' vs' os' Z (upd H D u) := by
  have hD : D ∉ os' := fun z => (ho D z).elim A.d fun y => (h2 D y).1 rfl
  refine ⟨n, r.move (Sub.refl _) fun a ha x hx => ?_, hD, fun a ha => ?_⟩
  · have ne : a ≠ D := fun z => hD (z ▸ ha)
    rw [upd_ne ne]; exact hx
  · rcases List.mem_cons.mp ha with z | z
    · exact A.f a (by simp [z])
    · rcases ho a z with y | y
      · exact A.f a (by simp [y])
      · exact f2 a y
theorem AccN.dr (A : AccN X w H1 D k ds vs os Z H) : DR X.K X.mg w Z H (.nd k ds) (.ref D) ([D] ++ os) := .nd A.n A.r fun a ha => by rw [List.mem_singleton.mp ha]; exact A.d
theorem AccN.fresh (A : AccN X w H1 D k ds vs os Z H) : Fresh w H1 Z ([D] ++ os) := fun a ha => A.f a (by simpa using ha)
end
def lcNG (g : GC) (tt : List Sl → G Bool) (tn : NC) : List T → List Sl → List DT → G DT
  | [], _, acc => .ret (.nd .lst acc)
  | t :: ts, r, acc => (g t r).nox >>= fun r1 => (tt r1).nox >>= fun b => if b then ((tn r1).nox >>= fun d => lcNG g tt tn ts r (acc ++ [d])) else lcNG g tt tn ts r acc
def cLcN (ci : List Sl → G (List T)) (g : GC) (tt : List Sl → G Bool) (tn : NC) (vs : List Nat) : NC := fun r => ci r >>= fun ts => lcNG g tt tn ts (wipeR r vs) []
def dcNG (g : GC) (tt : List Sl → G Bool) (tk : EC) (tn : NC) : List T → List Sl → DKd → List DT → G DT
  | [], _, k, ds => .ret (.nd k ds)
  | t :: ts, r, k, ds => (g t r).nox >>= fun r1 => (tt r1).nox >>= fun b => if b then ((tk r1).nox >>= fun kt => (tn r1).nox >>= fun d => match k.put ds kt d with | some q => dcNG g tt tk tn ts r q.1 q.2 | none => .stuck) else dcNG g tt tk tn ts r k ds
/-- keys are texts or ints -/
def cDcT (ci : List Sl → G (List T)) (g : GC) (tt : List Sl → G Bool) (tk : EC) (tn : NC) (vs : List Nat) : NC := fun r => ci r >>= fun ts => dcNG g tt tk tn ts (wipeR r vs) (.dic []) []
/-- keys are nested tuples -/
def cDcU (ci : List Sl → G (List T)) (g : GC) (tt : List Sl → G Bool) (tk : EC) (tn : NC) (vs : List Nat) : NC := fun r => ci r >>= fun ts => dcNG g tt tk tn ts (wipeR r vs) (.dn []) []
section
variable {X : Cx} {w : Wd} {E : XK} {fr : Bool} {tg iter kx vx elt : Expr} {ifs : List Expr} {pos : Pos} {tk : EC} {tn : NC} {ci : List Sl → G (List T)} {g : GC} {S : List Nat} {tt : List Sl → G Bool}
variable {H0 Z0 H Z Z1 : Hp} {r : List Sl} {σ σ' : L2.St} {o : Nat → List Addr}
end
end TL
end s_TL137
section s_TL138
set_option Elab.async false
set_option linter.all false
set_option maxRecDepth 100000
set_option maxHeartbeats 4000000
/-! TL138: own things with own things in them: frozen, answered, L[k] op= e -/
namespace TL
open PySem PySem.Spec PyProof.Rows L2
/-- names without repeats -/
structure NdL (N : List Str) : Prop where
  nd : N.Nodup
mutual
def DT.flat : DT → Bool
  | .fz _ => true
  | .nd (.dic _) _ => false
  | .nd .lst ds => DT.flats ds
  | .nd (.dn _) ds => DT.flats ds
  | .nd (.ins _ _) ds => DT.flats ds
  | .nd (.lstA _) ds => DT.flats ds
  | .nd (.me _ _) ds => DT.flats ds
def DT.flats : List DT → Bool
  | [] => true
  | d :: ds => d.flat && DT.flats ds
end
/-- it can be frozen: a dict by texts or ints at the top alone -/
def DT.frzOk : DT → Bool
  | .fz _ => true
  | .nd _ ds => DT.flats ds
section
variable {K : PySem.W.Frag} {mg : Str → Option Value} {w : Wd} {Z H Z2 : Hp}
theorem KysN.trn : ∀ {ks : List T} {xs : List NE} {ts : List T}, KysN K mg w Z ks xs → Trs K mg w Z ts (xs.map (·.2.2)) → Trn K mg w Z (ks.zip ts) xs
  | _, _, _, .nil, .nil => .nil
  | _, _, _, .cons e h8 tk r, .cons a b => .cons e h8 tk a (KysN.trn r b)
theorem trf_of : ∀ {fs : List Str} {gs : List (Str × V)} {ts : List T}, gs.map (·.1) = fs → Trs K mg w Z ts (gs.map (·.2)) → Trf K mg w Z (fs.zip ts) gs
  | [], [], _, _, .nil => .nil
  | _ :: fs, (f, x) :: gs, _, e, .cons a b => by
    simp only [List.map_cons, List.cons.injEq] at e
    rw [← e.1]
    exact .cons a (trf_of e.2 b)
  | [], _ :: _, _, e, _ => by simp at e
  | _ :: _, [], _, e, _ => by simp at e
/-- a thing that is no dict by texts or ints, once it is frozen -/
theorem NodeR.tr {k : DKd} {p : Addr} {vs : List V} {own : List Addr} {ts : List T} (n : NodeR K mg w Z H k p vs own) (hk : ∀ ks, k ≠ .dic ks) (s : Sub Z Z2) (f : ∀ a ∈ own, Z2 a = H a) (tr : Trs K mg w Z2 ts vs) : Tr K mg w Z2 (k.toT ts) (.ref p) := by
  cases k with
  | lst => obtain ⟨rfl, hp, hl⟩ := n; exact .lst (by rw [f p (by simp)]; exact hp) hl tr
  | dic ks => exact absurd rfl (hk ks)
  | dn ks =>
    obtain ⟨rfl, xs, ⟨ep, hp⟩, hl, nd, rfl, kn⟩ := n
    exact .dn ⟨ep, by rw [f p (by simp)]; exact hp⟩ hl nd ((kn.mono s).trn tr)
  | ins c fs =>
    obtain ⟨C, dx, gs, rfl, ne, m, hi, hd, e1, rfl⟩ := n
    exact .ins m (by rw [f p (by simp)]; exact hi) (by rw [f dx (by simp)]; exact hd) (trf_of e1 tr)
  | lstA a => obtain ⟨_, rfl, hp, hl⟩ := n; exact .lst (by rw [f p (by simp)]; exact hp) hl tr
  | me c fs =>
    obtain ⟨_, C, dx, gs, rfl, ne, m, hi, hd, e1, rfl⟩ := n
    exact .ins m (by rw [f p (by simp)]; exact hi) (by rw [f dx (by simp)]; exact hd) (trf_of e1 tr)
mutual
theorem DR.tr (s : Sub Z Z2) : ∀ {d : DT} {v : V} {o : List Addr}, DR K mg w Z H d v o → d.flat = true → (∀ a ∈ o, Z2 a = H a) → Tr K mg w Z2 d.toT v
  | .fz t, _, _, .fz h, _, _ => by rw [DT.toT]; exact h.mono s
  | .nd .lst ds, _, _, .nd n r dj, hf, f => by
    rw [DT.toT]
    rw [DT.flat] at hf
    exact n.tr (fun _ h => by cases h) s (fun a ha => f a (List.mem_append_left _ ha)) (DRs.tr s r hf fun a ha => f a (List.mem_append_right _ ha))
  | .nd (.dn ks) ds, _, _, .nd n r dj, hf, f => by
    rw [DT.toT]
    rw [DT.flat] at hf
    exact n.tr (fun _ h => by cases h) s (fun a ha => f a (List.mem_append_left _ ha)) (DRs.tr s r hf fun a ha => f a (List.mem_append_right _ ha))
  | .nd (.ins c fs) ds, _, _, .nd n r dj, hf, f => by
    rw [DT.toT]
    rw [DT.flat] at hf
    exact n.tr (fun _ h => by cases h) s (fun a ha => f a (List.mem_append_left _ ha)) (DRs.tr s r hf fun a ha => f a (List.mem_append_right _ ha))
  | .nd (.dic ks) ds, _, _, .nd n r dj, hf, f => by rw [DT.flat] at hf; cases hf
  | .nd (.lstA a) ds, _, _, .nd n r dj, hf, f => by
    rw [DT.toT]
    rw [DT.flat] at hf
    exact n.tr (fun _ h => by cases h) s (fun a ha => f a (List.mem_append_left _ ha)) (DRs.tr s r hf fun a ha => f a (List.mem_append_right _ ha))
  | .nd (.me c fs) ds, _, _, .nd n r dj, hf, f => by
    rw [DT.toT]
    rw [DT.flat] at hf
    exact n.tr (fun _ h => by cases h) s (fun a ha => f a (List.mem_append_left _ ha)) (DRs.tr s r hf fun a ha => f a (List.mem_append_right _ ha))
theorem DRs.tr (s : Sub Z Z2) : ∀ {ds : List DT} {vs : List V} {o : List Addr}, DRs K mg w Z H ds vs o → DT.flats ds = true → (∀ a ∈ o, Z2 a = H a) → Trs K mg w Z2 (DT.toTs ds) vs
  | [], _, _, .nil, _, _ => by rw [DT.toTs]; exact .nil
  | d :: ds, _, _, .cons h r dj, hf, f => by
    rw [DT.toTs]
    rw [DT.flats, Bool.and_eq_true] at hf
    exact .cons (DR.tr s h hf.1 fun a ha => f a (List.mem_append_left _ ha)) (DRs.tr s r hf.2 fun a ha => f a (List.mem_append_right _ ha))
end
end
section
variable {X : Cx} {w : Wd} {E : XK} {fr : Bool} {H0 Z0 H Z : Hp} {r : List Sl} {σ : L2.St} {o : Nat → List Addr} {D : Ends} {st : Stmt} {sts : List Stmt} {c : SC} {pos : Pos}
/-- slot i is frozen, then a statement -/
def frzD (i : Nat) (r : List Sl) : Option (List Sl) := match r[i]? with
  | some (.dd d) => if d.frzOk then some (r.set i (.fz d.toT)) else none
  | _ => none
def cFrzDD (i : Nat) (c : SC) : SC := fun r => match frzD i r with
  | some r' => c r'
  | none => .stuck
/-- return x -/
def cRetDD (i : Nat) : SC := fun r => match r[i]? with
  | some (.dd (.nd k ds)) => if DT.flats ds then .ret (.rt (k.toT (DT.toTs ds))) else .stuck
  | _ => .stuck
/-! ### L[k] op= e -/
/-- an item of a list or a dict by texts or ints -/
def rGetA (K : PySem.W.Frag) : V → V → Hp → VK → Prop := fun o i H Q => rGetL K o i H Q ∨ rDGet o i H Q
def DKd.ixA (k : DKd) (t : T) : Option Nat := match k with
  | .lst => natOf t
  | .dic ks => (match keyT t with | some q => ks.findIdx? (fun x => decide (keyT x = some q)) | none => none)
  | _ => none
def cAugL (i : Nat) (cp : PC) (ck : EC) (f : Int → Int → Int) (ca : EC) : SC := fun r => cp r >>= fun p => match nodeAt r i p with
  | some (.nd k ds) => ck r >>= fun t => (match k.ixA t with
    | some j => (match ds[j]? with
      | some (.fz x) => ca r >>= fun y => augK f x y >>= fun z => (match k.put ds t (.fz z) with | some q => .ret (.nx (putAtD r i p (.nd q.1 q.2))) | none => .stuck)
      | _ => .stuck)
    | none => .stuck)
  | _ => .stuck
end
end TL
end s_TL138
section s_TL139
set_option Elab.async false
set_option linter.all false
set_option maxRecDepth 100000
set_option maxHeartbeats 4000000
/-! TL139: != of two dicts of data that are equal -/
namespace PySem.W
open Lean Elab Tactic Meta PySem PySem.Calls PyProof.Rows PyProof.V PySem.Spec
section
variable {prog : Program} {w : World} {K : Type} [DecidableEq K] {knd : KeyKind prog w K} {A : Around} {E : Value → Shared → Prop} {s : Shared}
end
end PySem.W
namespace TL
open PySem PySem.Spec PyProof.Rows L2
def rNeDD (K : PySem.W.Frag) : R2 := fun x y H Q => ∃ a b ks ls, x = .ref a ∧ y = .ref b ∧ Rd H a (.dK ks) ∧ Rd H b (.dK ls) ∧ ks.length = ls.length ∧ (∀ p ∈ ks, ∃ u, valV ls p.1 = some u ∧ EqDp K H p.2 u) ∧ Q (.bl false) H
def fNeA : T → T → G T
  | .dic kts, .dic lts => if kts.length = lts.length ∧ eqDic kts lts = true then .ret (.bl false) else .stuck
  | a, b => fNe a b
section
variable {M : Km} {X : Cx} {w : Wd} {E : XK} {k : Nat}
end
section
variable {X : Cx} {w : Wd} {E : XK} {j k n m : Nat} {x : Str} {p pos : Pos} {F : List T → G T} {tbs : List (Addr × Str)}
end
end TL
end s_TL139
section s_TL140
set_option Elab.async false
set_option linter.all false
set_option maxRecDepth 100000
set_option maxHeartbeats 4000000
/-! TL140: sum of a tuple of ints -/
namespace TL
open PySem PySem.Spec PyProof.Rows L2
def rSumT (K : PySem.W.Frag) : List V → Hp → VK → Prop := fun vs H Q => ∃ (a : Addr) (ns : List Int), vs = [V.ref a] ∧ SqT K H a (ns.map V.int) ∧ Q (.int ns.sum) H
def rSumA (K : PySem.W.Frag) : List V → Hp → VK → Prop := fun vs H Q => rSumT K vs H Q ∨ rSum K vs H Q
def fSumA : List T → G T
  | [.tup ts] => (match intTs ts with | some is => .ret (.int is.sum) | none => .stuck)
  | ts => fSum ts
section
variable {M : Km} {w : Wd} {E : XK}
end
end TL
end s_TL140
section s_TL141
set_option Elab.async false
set_option linter.all false
set_option maxRecDepth 100000
set_option maxHeartbeats 4000000
/-! TL141: a comprehension whose test may look at the def around it: a listed lambda is called there -/
namespace TL
open PySem PySem.Spec PyProof.Rows L2
section
variable {X : Cx} {elt tg iter : Expr} {ifs : List Expr} {scope : Scope} {own : List (Str × Nat)} {pos : Pos} {wi : TI} {g : TG} {tt : TT} {te : TE}
end
section
variable {X : Cx} {w : Wd} {E : XK} {Wf : L2.St → Prop} {e a b : Expr} {ca cb : EC} {x : Str} {id : String} {p pos : Pos} {F : List T → G T} {rd : List V → Hp → VK → Prop}
end
section
variable {X : Cx} {w : Wd} {E : XK} {k kk kl : Nat} {x : Str} {e a2 elt : Expr} {ca cb ce : EC} {p p2 pos pos2 pos3 : Pos} {ls : List Lm} {cbs : List EC} {F : G T → G T}
end
end TL
end s_TL141
section s_TL142
set_option Elab.async false
set_option linter.all false
set_option maxRecDepth 100000
set_option maxHeartbeats 4000000
/-! TL142: own things that are lent to what is called, which may change them -/
namespace TL
open PySem PySem.Spec PyProof.Rows L2
/-- the heap without some addresses -/
def hideH (H : Hp) (l : List Addr) : Hp := fun a => if a ∈ l then none else H a
section
variable {X : Km} {w : Wd} {H0 Z0 H Z : Hp} {r : List Sl} {σ : L2.St} {o : Nat → List Addr}
end

/-! ### what is lent -/
/-- a slot's thing that is known to be self -/
def lendK : Sl → Bool
  | .me _ => true
  | .dd (.nd (.me _ _) _) => true
  | _ => false
/-- an answer; the slots' own addresses are o -/
def AnsL (K : PySem.W.Frag) (mg : Str → Option Value) (w : Wd) (fr : Bool) (Hb Z H : Hp) (o : List Addr) (t : T) (v : V) : Prop :=
  if fr = true then ∃ p oo, v = .ref p ∧ Root K mg w Z H t p oo ∧ (∀ a ∈ oo, Hb a = none ∧ Z a = none ∧ a ∉ w.W) ∧ ∀ a ∈ o, a ∉ oo else Tr K mg w Z t v
/-- a promise of a def whose i-th parameter is lent -/
def SpLe (pw : Program × World) (K : PySem.W.Frag) (mg : Str → Option Value) (i n : Nat) (fr : Bool) (F : Sl → List T → G (T × Sl)) : Sp := fun vs H Q E => ∃ (w : Wd) (s : Sl) (ts : List T) (Z : Hp) (o : List Addr) (ws : List V),
  (w.wo = pw ∧ ∀ p, w.home = some p → Grow w p.1 p.2 (hideH H o) Z) ∧ vs = ws.set i (.ref w.me) ∧ ws.length = n ∧ i < n ∧ Good w H Z ∧ (∀ a ∈ o, Z a = none ∧ a ∉ w.W) ∧ SlR K mg w Z H s (some (.ref w.me)) o ∧ Trs K mg w Z ts ws ∧
  (F s ts).wp (fun q => ∀ v H' Z' o', Grow w (hideH H o) Z H' Z' → SlR K mg w Z' H' q.2 (some (.ref w.me)) o' → (∀ a ∈ o', hideH H o a = none ∧ Z' a = none ∧ a ∉ w.W) → AnsL K mg w fr (hideH H o) Z' H' o' q.1 v → Q v H')
    (fun e => ∀ cls d H' Z', Grow w (hideH H o) Z H' Z' → ExR K mg w Z' H' e cls d → E cls d H')
/-- a def by its body's computation, its i-th parameter lent -/
def runL (fr : Bool) (c : SC) (m i : Nat) (s : Sl) (ts : List T) : G (T × Sl) := c ((ts.map Sl.fz ++ List.replicate (m - ts.length) Sl.un).set i s) >>= fun k => match k with
  | .rm t r => (match r[i]? with | some s' => if lendK s' then .ret (t, s') else .stuck | none => .stuck)
  | .nx r => if fr then .stuck else (match r[i]? with | some s' => if lendK s' then .ret (.non, s') else .stuck | none => .stuck)
  | _ => .stuck
section
variable {P : Program} {wd : World} {K : PySem.W.Frag} {mg : Str → Option Value} {base : Heap} {k : Nat} {f : Addr} {fd : FuncData} {ps N : List Str} {x qual : Str} {st : Stmt} {c : SC} {fr : Bool} {i : Nat}
end

/-! ### expressions that may change the slots' own things -/
abbrev LC := List Sl → G (T × List Sl)
section
variable (X : Km) (w : Wd) (E : XK) (fr : Bool)
def PostLe (H0 Z0 Z : Hp) (σ : L2.St) (Q : VK) : T × List Sl → Prop := fun q => ∀ v H' Z' o', EnvR X.km w H0 Z0 q.2 σ H' Z' o' → Sub Z Z' → Ans X.km w fr H0 Z' H' o' q.1 v → Q v H'
def EvLe (c : LC) : TE := fun σ H Q => ∃ H0 Z0 r Z o, EnvR X.km w H0 Z0 r σ H Z o ∧ (c r).wp (PostLe X.km w fr H0 Z0 Z σ Q) (PostX X.km w E H0 Z0)
end
structure CLe (X : Cx) (w : Wd) (E : XK) (fr : Bool) (e : Expr) (c : LC) : Prop where
  pe : PE X e (EvLe X.km w E fr c)
section
variable {X : Cx} {w : Wd} {E : XK} {fr : Bool} {e ke : Expr} {pos p0 tpos : Pos} {ca : EC} {cle : LC} {H0 Z0 H Z Z1 : Hp} {r : List Sl} {σ : L2.St} {o : Nat → List Addr} {D : Ends} {Q : VK}
theorem PostLe.weak {q : T × List Sl} (s : Sub Z Z1) (h : PostLe X.km w fr H0 Z0 Z σ Q q) : PostLe X.km w fr H0 Z0 Z1 σ Q q := fun v H' Z' o' R s' => h v H' Z' o' R (s.trans s')
/-- an expression that changes nothing -/
def leE (ca : EC) : LC := fun r => ca r >>= fun t => .ret (t, r)
/-- a new list is frozen at once -/
def leFrz (c : LC) : LC := fun r => c r >>= fun q => match q.1 with | .lst _ => .ret q | _ => .stuck
/-- it stands alone -/
def cDropLe (c : LC) : SC := fun r => c r >>= fun q => .ret (.nx q.2)
/-- x = .. -/
def cSetLe (i : Nat) (c : LC) : SC := fun r => c r >>= fun q => .ret (.nx (q.2.set i (.fz q.1)))
/-- x = .., what is new -/
def cSetLeO (i : Nat) (c : LC) : SC := fun r => c r >>= fun q => .ret (.nx (q.2.set i (.ow q.1)))
/-- return .. -/
def cRetLe (c : LC) : SC := fun r => c r >>= fun q => .ret (.rm q.1 q.2)
/-- return x, x's root its own; the slots are known -/
def cRetOM (i : Nat) : SC := fun r => match r[i]? with
  | some (.ow t) => .ret (.rm t (r.set i .un))
  | _ => .stuck
/-- L[k] = .. -/
def cPutLe (i : Nat) (cp : PC) (ck : EC) (cle : LC) : SC := fun r => cle r >>= fun q0 => cp q0.2 >>= fun p => match nodeAt q0.2 i p with
  | some (.nd k ds) => ck q0.2 >>= fun t => (match k.put ds t (.fz q0.1) with | some q => .ret (.nx (putAtD q0.2 i p (.nd q.1 q.2))) | none => .stuck)
  | _ => .stuck
end
end TL
end s_TL142
section s_TL143
set_option Elab.async false
set_option linter.all false
set_option maxRecDepth 100000
set_option maxHeartbeats 4000000
/-! TL143: methods whose self is lent -/
namespace TL
open PySem PySem.Spec PyProof.Rows L2
/-- what a slot's thing is as self -/
def lendTo (c m : Str) : Sl → Option Sl
  | .ow (.ins c' fs) => if c' = c ∧ fs.lookup m = none then some (.me (.ins c' fs)) else none
  | .me (.ins c' fs) => if c' = c ∧ fs.lookup m = none then some (.me (.ins c' fs)) else none
  | .dd (.nd (.me c' fs) ds) => if c' = c ∧ fs.contains m = false then some (.dd (.nd (.me c' fs) ds)) else none
  | _ => none
/-- .. and what it is when it is back -/
def slBack : Sl → Sl → Option Sl
  | .ow _, .me t => some (.ow t)
  | .me _, s => some s
  | .dd _, s => some s
  | _, _ => none
section
variable {K : PySem.W.Frag} {mg : Str → Option Value} {w : Wd} {Z H Z' H' : Hp} {s s1 s' s2 : Sl} {x : Option V} {o o' : List Addr} {c m : Str} {p : Addr}
end
section
variable {X : Km} {w : Wd} {H0 Z0 H Z : Hp} {r : List Sl} {σ : L2.St} {o : Nat → List Addr} {fr : Bool}
end
/-- o.m(..), o's thing lent -/
def cMLe (i : Nat) (c m : Str) (F : Sl → List T → G (T × Sl)) (cs : List Sl → G (List T)) : LC := fun r => match r[i]? with
  | some s => (match lendTo c m s with
    | some s1 => cs r >>= fun ts => F s1 (.non :: ts) >>= fun q => (match slBack s q.2 with | some s2 => .ret (q.1, r.set i s2) | none => .stuck)
    | none => .stuck)
  | none => .stuck
/-- the class c has the method m, self lent -/
structure MethLe (P : Program) (wd : World) (K : PySem.W.Frag) (mg : Str → Option Value) (base : Heap) (k : Nat) (c m : Str) (n : Nat) (fr : Bool) (F : Sl → List T → G (T × Sl)) : Prop where
  ex : ∃ C f fd ps, mg c = some (.ref C) ∧ Cls K C ∧ Meth K C m f ∧ Binds K fd ps [] ∧ FnG P wd K mg base k f fd ps (SpLe (P, wd) K mg 0 (n + 1) fr F)
section
variable {X : Cx} {w : Wd} {E : XK} {j k n i : Nat} {f C : Addr} {c m x : Str} {e : Expr} {es : List Expr} {cs : List Sl → G (List T)} {pos apos p0 : Pos} {F : Sl → List T → G (T × Sl)} {fr : Bool}
end
section
variable {P : Program} {wd : World} {K : PySem.W.Frag} {mg : Str → Option Value} {base : Heap} {k n : Nat} {ps N : List Str} {cl m x qual : Str} {st : Stmt} {c : SC} {fr : Bool}
end
end TL
end s_TL143
section s_TL144
set_option Elab.async false
set_option linter.all false
set_option maxRecDepth 100000
set_option maxHeartbeats 4000000
/-! TL144: attributes of own things at places; __init__ whose self has own things in it; tests that look at them -/
namespace TL
open PySem PySem.Spec PyProof.Rows L2
/-- an instance's class and fields -/
def DKd.fl : DKd → Option (Str × List Str)
  | .ins c fs => some (c, fs)
  | .me c fs => some (c, fs)
  | _ => none
/-- its fields are others -/
def DKd.wfl : DKd → List Str → DKd
  | .ins c _, fs => .ins c fs
  | .me c _, fs => .me c fs
  | k, _ => k
section
variable {K : PySem.W.Frag} {mg : Str → Option Value} {w : Wd} {Z H : Hp}
end
/-- L.f -/
def cpFld (i : Nat) (c f : Str) (cp : PC) : PC := fun r => cp r >>= fun p => match nodeAt r i p with
  | some (.nd k ds) => (match k.fl with
    | some (c', fs) => if c' = c then (match fs.findIdx? (· == f) with | some j => if j < ds.length then .ret (p ++ [j]) else .stuck | none => .stuck) else .stuck
    | none => .stuck)
  | _ => .stuck
/-- L.f = e -/
def putFD (k : DKd) (fs : List Str) (ds : List DT) (f : Str) (d : DT) : DT := match fs.findIdx? (· == f) with
  | some j => .nd (k.wfl fs) (ds.set j d)
  | none => .nd (k.wfl (fs ++ [f])) (ds ++ [d])
def cFldL (i : Nat) (c f : Str) (cp : PC) (cn : NC) : SC := fun r => cn r >>= fun d => cp r >>= fun p => match nodeAt r i p with
  | some (.nd k ds) => (match k.fl with
    | some (c', fs) => if c' = c ∧ fs.length < 1000 then .ret (.nx (putAtD r i p (putFD k fs ds f d))) else .stuck
    | none => .stuck)
  | _ => .stuck
section
variable {X : Cx} {w : Wd} {E : XK} {fr : Bool} {e ke ve : Expr} {pos p0 tpos pos' : Pos} {cp : PC} {ck ca : EC} {cn : NC} {i kk : Nat} {H0 Z0 H Z : Hp} {r : List Sl} {σ : L2.St} {o : Nat → List Addr} {D : Ends} {Q : VK} {c f : Str}
/-! ### a test, slot i's thing frozen for its time -/
def cPkTD (i : Nat) (c : List Sl → G Bool) : List Sl → G Bool := fun r => match frzD i r with
  | some r' => c r'
  | none => .stuck
end
end TL
end s_TL144
section s_TL145
set_option Elab.async false
set_option linter.all false
set_option maxRecDepth 100000
set_option maxHeartbeats 4000000
/-! TL145: tests that look at own things with own things in them; __init__ whose self has own things in it -/
namespace TL
open PySem PySem.Spec PyProof.Rows L2
section
variable {X : Cx} {w : Wd} {E : XK} {e : Expr} {tb : List Sl → G Bool} {ca : EC}
/-- an expression, slot i's thing frozen for its time: the answer does not hold it -/
def cPkED (i : Nat) (c : EC) : EC := fun r => match frzD i r with
  | some r' => c r' >>= fun t => if hard t then .ret t else .stuck
  | none => .stuck
/-- .. when it can be frozen without a lock -/
def noDic : DT → Bool
  | .nd (.dic _) _ => false
  | _ => true
def cPkDD (i : Nat) (c : EC) : EC := fun r => match r[i]? with
  | some (.dd d) => if noDic d = true then cPkED i c r else .stuck
  | _ => .stuck
end

/-! ### __init__ -/
def runID (c0 : Str) (c : SC) (m : Nat) (ts : List T) : G T := c (.dd (.nd (.me c0 []) []) :: (ts.map Sl.fz ++ List.replicate (m - 1 - ts.length) Sl.un)) >>= fun k => match k with
  | .nx (.dd (.nd (.me c fs) ds) :: _) => if DT.flats ds = true then .ret (.ins c (fs.zip (DT.toTs ds))) else .stuck
  | _ => .stuck
section
variable {P : Program} {wd : World} {K : PySem.W.Frag} {mg : Str → Option Value} {base : Heap} {k n : Nat} {f : Addr} {fd : FuncData} {ps N : List Str} {cl x qual : Str} {st : Stmt} {c : SC} {C : Addr}
end
end TL
end s_TL145
section s_TL146
set_option Elab.async false
set_option linter.all false
set_option maxRecDepth 100000
set_option maxHeartbeats 4000000
/-! TL146: new dicts with entries as own things; methods that answer new things; return, the slots known -/
namespace TL
open PySem PySem.Spec PyProof.Rows L2
/-- a new dict keyed by nested tuples, its values frozen -/
def shlN : T → Option DT
  | .dn kts => some (.nd (.dn (kts.map (·.1))) (kts.map fun k => .fz k.2))
  | _ => none
def cnN (ca : EC) : NC := fun r => ca r >>= fun t => match shlN t with | some d => .ret d | none => .stuck
section
variable {K : PySem.W.Frag} {mg : Str → Option Value} {w : Wd} {Z H : Hp}
theorem Trn.drs : ∀ {kts : List (T × T)} {xs : List NE}, Trn K mg w Z kts xs → DRs K mg w Z H (kts.map fun k => .fz k.2) (xs.map (·.2.2)) [] ∧ KysN K mg w Z (kts.map (·.1)) xs
  | _, _, .nil => ⟨.nil, .nil⟩
  | _, _, .cons e h8 tk tv r => by
    obtain ⟨h1, h2⟩ := Trn.drs r
    exact ⟨.cons (o1 := []) (.fz tv) h1 fun _ h => (nomatch h), .cons e h8 tk h2⟩
end
section
variable {X : Cx} {w : Wd} {E : XK} {j k n : Nat} {c m : Str} {e o : Expr} {es : List Expr} {ca co : EC} {cs : List Sl → G (List T)} {pos apos : Pos} {F : List T → G T}
/-- the class c has the method m, which answers a new thing -/
structure MethN (P : Program) (wd : World) (K : PySem.W.Frag) (mg : Str → Option Value) (base : Heap) (k : Nat) (c m : Str) (n : Nat) (F : List T → G T) : Prop where
  ex : ∃ C f fd ps, mg c = some (.ref C) ∧ Cls K C ∧ Meth K C m f ∧ Binds K fd ps [] ∧ FnG P wd K mg base k f fd ps (SpF (P, wd) K mg (n + 1) F)
end
section
variable {P : Program} {wd : World} {K : PySem.W.Frag} {mg : Str → Option Value} {base : Heap} {k n : Nat} {ps N : List Str} {cl m x qual : Str} {st : Stmt} {c : SC}
end
end TL
end s_TL146
section s_TL147
set_option Elab.async false
set_option linter.all false
set_option maxRecDepth 100000
set_option maxHeartbeats 4000000
/-! TL147: three names at once, cells among them; own things as things with own things in them; frozen, at once or again -/
namespace TL
open PySem PySem.Spec PyProof.Rows L2
section
variable {X : Cx} {w : Wd} {E : XK} {fr : Bool} {a b c : Expr} {pos : Pos} {l : List (Bool × EC)}
end
/-- an own thing as one with own things in it -/
def asDD (i : Nat) (r : List Sl) : List Sl := match r[i]? with
  | some (.ow t) => (match shlT t with | some d => r.set i (.dd d) | none => r)
  | _ => r
theorem EnvR.asDD {X : Km} {w : Wd} {H0 Z0 H Z : Hp} {r : List Sl} {σ : L2.St} {o : Nat → List Addr} (R : EnvR X.km w H0 Z0 r σ H Z o) (i : Nat) : EnvR X.km w H0 Z0 (TL.asDD i r) σ H Z o := by
  unfold TL.asDD
  split
  · rename_i t er
    split
    · rename_i d ed
      have hir := (List.getElem?_eq_some_iff.mp er).1
      refine ⟨R.gr, by rw [List.length_set]; exact R.len, fun j s x h1 h2 => ?_, fun j hj => R.out j (by rw [List.length_set] at hj; exact hj), R.dis, R.fr, R.wo⟩
      by_cases e : j = i
      · subst e
        rw [List.getElem?_set_self hir] at h1
        cases h1
        obtain ⟨p, ex, rt⟩ := R.sl j _ _ er h2
        exact ⟨.ref p, ex, rt.dr ed⟩
      · rw [List.getElem?_set_ne (Ne.symm e)] at h1
        exact R.sl j s x h1 h2
    · exact R
  · exact R
def cAsD (i : Nat) (c : SC) : SC := fun r => c (asDD i r)
section
variable {X : Cx} {w : Wd} {E : XK} {fr : Bool} {D : Ends} {σ : L2.St} {H : Hp}
/-- slot i is frozen, if it is not yet -/
def cFrzI (i : Nat) (c : SC) : SC := fun r => match r[i]? with
  | some (.fz _) => c r
  | _ => cFrzDD i c r
end
end TL
end s_TL147
section s_TL148
set_option Elab.async false
set_option linter.all false
set_option maxRecDepth 100000
set_option maxHeartbeats 4000000
/-! TL148: name = {k: v for ..} on one line, the name a local; a thing with own things in it -/
namespace TL
open PySem PySem.Spec PyProof.Rows L2
section
variable {X : Cx}
end
section
variable {X : Cx} {w : Wd} {E : XK} {fr : Bool} {tg iter kx vx : Expr} {ifs : List Expr} {pos : Pos} {tk : EC} {tn : NC} {ci : List Sl → G (List T)} {g : GC} {S : List Nat} {tt : List Sl → G Bool}
end
end TL
end s_TL148
section s_TL149
set_option Elab.async false
set_option linter.all false
set_option maxRecDepth 100000
set_option maxHeartbeats 4000000
/-! TL149: an own instance peeked at: the answer holds no instance of its form -/
namespace TL
open PySem PySem.Spec PyProof.Rows L2
mutual
/-- no instance with just these fields is in it -/
def noFs (ns : List Str) : T → Bool
  | .tup ts => noFss ns ts
  | .lst ts => noFss ns ts
  | .dic kts => noFsd ns kts
  | .dn kts => noFsn ns kts
  | .ins _ fs => !decide (fs.map (·.1) = ns) && noFsf ns fs
  | .exc _ fs => noFsf ns fs
  | .clo _ => false
  | _ => true
def noFss (ns : List Str) : List T → Bool
  | [] => true
  | t :: ts => noFs ns t && noFss ns ts
def noFsd (ns : List Str) : List (T × T) → Bool
  | [] => true
  | (_, t) :: kts => noFs ns t && noFsd ns kts
def noFsn (ns : List Str) : List (T × T) → Bool
  | [] => true
  | (k, t) :: kts => noFs ns k && noFs ns t && noFsn ns kts
def noFsf (ns : List Str) : List (Str × T) → Bool
  | [] => true
  | (_, t) :: fs => noFs ns t && noFsf ns fs
end
/-- without some addresses -/
def Zr (qs : List Addr) (Z : Hp) : Hp := fun a => if a ∈ qs then none else Z a
section
variable {K : PySem.W.Frag} {mg : Str → Option Value} {w : Wd} {Z : Hp} {p dx C : Addr} {gs : List (Str × V)} {ns : List Str}
theorem Zr.at_ (hp : Z p = some (.ins C dx gs)) (hd : Z dx = some (.own p)) {a : Addr} {u : HO} (h : Z a = some u) (h1 : u ≠ .ins C dx gs) (h2 : u ≠ .own p) : Zr [p, dx] Z a = some u := by
  unfold Zr
  rw [if_neg fun hm => ?_]
  · exact h
  · simp only [List.mem_cons, List.not_mem_nil, or_false] at hm
    rcases hm with rfl | rfl
    · rw [h] at hp; exact h1 (Option.some.inj hp)
    · rw [h] at hd; exact h2 (Option.some.inj hd)
theorem Zr.rd (hp : Z p = some (.ins C dx gs)) (hd : Z dx = some (.own p)) {a : Addr} {u : HO} (h : Rd Z a u) (h1 : u ≠ .ins C dx gs) (h2 : u ≠ .own p) : Rd (Zr [p, dx] Z) a u := by
  rcases h with h | ⟨o, h⟩
  · exact .inl (Zr.at_ hp hd h h1 h2)
  · exact .inr ⟨o, Zr.at_ hp hd h (by simp) (by simp)⟩
theorem Trf.names : ∀ {fs : List (Str × T)} {gs : List (Str × V)}, Trf K mg w Z fs gs → fs.map (·.1) = gs.map (·.1)
  | _, _, .nil => rfl
  | _, _, .cons _ r => by rw [List.map_cons, List.map_cons, Trf.names r]
mutual
theorem Tr.wo (hp : Z p = some (.ins C dx gs)) (hd : Z dx = some (.own p)) (hn : gs.map (·.1) = ns) : ∀ {t : T} {v : V}, Tr K mg w Z t v → noFs ns t = true → Tr K mg w (Zr [p, dx] Z) t v
  | _, _, .non, _ => .non
  | _, _, .bl b, _ => .bl b
  | _, _, .int i, _ => .int i
  | _, _, .str x, _ => .str x
  | _, _, .ty n, _ => .ty n
  | _, _, .tup h l r, q => .tup (h.elim (fun h => .inl (Zr.rd hp hd h (by simp) (by simp))) .inr) l (Trs.wo hp hd hn r (by unfold noFs at q; exact q))
  | _, _, .lst h l r, q => .lst (Zr.at_ hp hd h (by simp) (by simp)) l (Trs.wo hp hd hn r (by unfold noFs at q; exact q))
  | _, _, .dic ⟨o, h⟩ l r, q => .dic ⟨o, Zr.at_ hp hd h (by simp) (by simp)⟩ l (Trd.wo hp hd hn r (by unfold noFs at q; exact q))
  | _, _, .dn ⟨ep, h⟩ l n r, q => .dn ⟨ep, Zr.at_ hp hd h (by simp [dnO]) (by simp [dnO])⟩ l n (Trn.wo hp hd hn r (by unfold noFs at q; exact q))
  | _, _, @Tr.ins _ _ _ _ c fs C' p' dx' gs' a h d r, q => by
    unfold noFs at q
    rw [Bool.and_eq_true, Bool.not_eq_true', decide_eq_false_iff_not] at q
    have np : p' ≠ p := fun e => by
      subst e
      rw [h] at hp
      cases hp
      exact q.1 ((Trf.names r).trans hn)
    have nd : p' ≠ dx := fun e => by subst e; rw [h] at hd; cases hd
    have n1 : dx' ≠ p := fun e => by subst e; rw [d] at hp; cases hp
    have n2 : dx' ≠ dx := fun e => by
      subst e
      rw [d] at hd
      cases hd
      exact np rfl
    have e1 : Zr [p, dx] Z p' = Z p' := if_neg (by simp [np, nd])
    have e2 : Zr [p, dx] Z dx' = Z dx' := if_neg (by simp [n1, n2])
    exact .ins a (e1.trans h) (e2.trans d) (Trf.wo hp hd hn r q.2)
  | _, _, .adr a, _ => .adr a
  | _, _, .fn h, _ => .fn h
  | _, _, .drw h, _ => .drw h
  | _, _, .exc0 h e, _ => .exc0 h (Zr.at_ hp hd e (by simp [excV]) (by simp [excV]))
  | _, _, .excD h e d r, q => .excD h (Zr.at_ hp hd e (by simp [excV]) (by simp [excV])) (Zr.at_ hp hd d (by simp) (by simp)) (Trf.wo hp hd hn r (by unfold noFs at q; exact q))
  | _, _, .excS h e d, _ => .excS h (Zr.at_ hp hd e (by simp [excSV]) (by simp [excSV])) (Zr.at_ hp hd d (by simp) (by simp))
  | _, _, .clo _ _, q => by unfold noFs at q; cases q
  | _, _, .scr h l, _ => .scr (h.elim (fun h => .inl (Zr.rd hp hd h (by simp) (by simp))) .inr) l
theorem Trs.wo (hp : Z p = some (.ins C dx gs)) (hd : Z dx = some (.own p)) (hn : gs.map (·.1) = ns) : ∀ {ts : List T} {vs : List V}, Trs K mg w Z ts vs → noFss ns ts = true → Trs K mg w (Zr [p, dx] Z) ts vs
  | _, _, .nil, _ => .nil
  | _, _, .cons a b, q => by
    unfold noFss at q
    rw [Bool.and_eq_true] at q
    exact .cons (Tr.wo hp hd hn a q.1) (Trs.wo hp hd hn b q.2)
theorem Trd.wo (hp : Z p = some (.ins C dx gs)) (hd : Z dx = some (.own p)) (hn : gs.map (·.1) = ns) : ∀ {ts : List (T × T)} {vs : List (Key × V)}, Trd K mg w Z ts vs → noFsd ns ts = true → Trd K mg w (Zr [p, dx] Z) ts vs
  | _, _, .nil, _ => .nil
  | _, _, .cons k a b, q => by
    unfold noFsd at q
    rw [Bool.and_eq_true] at q
    exact .cons k (Tr.wo hp hd hn a q.1) (Trd.wo hp hd hn b q.2)
theorem Trn.wo (hp : Z p = some (.ins C dx gs)) (hd : Z dx = some (.own p)) (hn : gs.map (·.1) = ns) : ∀ {ts : List (T × T)} {vs : List NE}, Trn K mg w Z ts vs → noFsn ns ts = true → Trn K mg w (Zr [p, dx] Z) ts vs
  | _, _, .nil, _ => .nil
  | _, _, .cons k d a b r, q => by
    unfold noFsn at q
    rw [Bool.and_eq_true, Bool.and_eq_true] at q
    exact .cons k d (Tr.wo hp hd hn a q.1.1) (Tr.wo hp hd hn b q.1.2) (Trn.wo hp hd hn r q.2)
theorem Trf.wo (hp : Z p = some (.ins C dx gs)) (hd : Z dx = some (.own p)) (hn : gs.map (·.1) = ns) : ∀ {fs : List (Str × T)} {vs : List (Str × V)}, Trf K mg w Z fs vs → noFsf ns fs = true → Trf K mg w (Zr [p, dx] Z) fs vs
  | _, _, .nil, _ => .nil
  | _, _, .cons a b, q => by
    unfold noFsf at q
    rw [Bool.and_eq_true] at q
    exact .cons (Tr.wo hp hd hn a q.1) (Trf.wo hp hd hn b q.2)
end
end
end TL
end s_TL149
section s_TL150
set_option Elab.async false
set_option linter.all false
set_option maxRecDepth 100000
set_option maxHeartbeats 4000000
/-! TL150: an own instance peeked at (expressions, tests, new things); properties -/
namespace TL
open PySem PySem.Spec PyProof.Rows L2
def insOf : Sl → Option (T × List Str)
  | .ow (.ins c fs) => some (.ins c fs, fs.map (·.1))
  | .me (.ins c fs) => some (.ins c fs, fs.map (·.1))
  | _ => none
section
variable {X : Cx} {w : Wd} {E : XK} {e : Expr} {tb : List Sl → G Bool} {ca : EC} {H0 Z0 H Z : Hp} {r : List Sl} {σ : L2.St} {o : Nat → List Addr}
def cPkI (i : Nat) (ca : EC) : EC := fun r => match r[i]? with
  | some s => (match insOf s with
    | some (t, ns) => ca (r.set i (.fz t)) >>= fun u => if noFs ns u = true then .ret u else .stuck
    | none => .stuck)
  | none => .stuck
def cPkTI (i : Nat) (tb : List Sl → G Bool) : List Sl → G Bool := fun r => match r[i]? with
  | some s => (match insOf s with
    | some (t, _) => tb (r.set i (.fz t))
    | none => .stuck)
  | none => .stuck
/-- a new thing -/
theorem Root.wo {K : PySem.W.Frag} {mg : Str → Option Value} {Z H : Hp} {p dx C q : Addr} {gs : List (Str × V)} {ns : List Str} {t : T} {oo : List Addr} (hp : Z p = some (.ins C dx gs)) (hd : Z dx = some (.own p)) (hn : gs.map (·.1) = ns) (rt : Root K mg w Z H t q oo) (hc : noFs ns t = true) : Root K mg w (Zr [p, dx] Z) H t q oo := by
  cases t <;> try exact rt.elim
  case tup ts =>
    obtain ⟨a, bs, rfl, q', va, vs, rfl, h1, h2, h3, h4, h5⟩ := rt.ex
    unfold noFs noFss noFss at hc
    rw [Bool.and_eq_true, Bool.and_eq_true] at hc
    have hb := hc.2.1
    unfold noFs at hb
    exact ⟨q', va, vs, rfl, h1.elim (fun h => .inl (Zr.rd hp hd h (by simp) (by simp))) .inr, Tr.wo hp hd hn h2 hc.1, h3, h4, Trs.wo hp hd hn h5 hb⟩
  case lst ts =>
    obtain ⟨rfl, vs, h, l, tr⟩ := rt
    exact ⟨rfl, vs, h, l, Trs.wo hp hd hn tr (by unfold noFs at hc; exact hc)⟩
  case dic ts =>
    obtain ⟨rfl, vs, h, l, tr⟩ := rt
    exact ⟨rfl, vs, h, l, Trd.wo hp hd hn tr (by unfold noFs at hc; exact hc)⟩
  case dn ts =>
    obtain ⟨rfl, xs, h, l, n, tr⟩ := rt
    exact ⟨rfl, xs, h, l, n, Trn.wo hp hd hn tr (by unfold noFs at hc; exact hc)⟩
  case ins c fs =>
    obtain ⟨C', dx', gs', rfl, ne, m, h, h2, tr⟩ := rt
    unfold noFs at hc
    rw [Bool.and_eq_true] at hc
    exact ⟨C', dx', gs', rfl, ne, m, h, h2, Trf.wo hp hd hn tr hc.2⟩
end
/-! ### properties -/
section
variable {X : Cx} {k : Nat} {C p g a dx : Addr} {fs : List (Str × V)} {f : Str} {fd : FuncData} {ps : List Str} {sp : Sp} {dvs : List V} {ds : List Value} {E : XK} {e : Expr} {pos : Pos} {ta : TE}
end
/-- the class c has the property m -/
structure PrG (P : Program) (wd : World) (K : PySem.W.Frag) (mg : Str → Option Value) (base : Heap) (k : Nat) (c m : Str) (sp : Sp) : Prop where
  ex : ∃ C p g fd ps, mg c = some (.ref C) ∧ Cls K C ∧ PropOf K C m p g ∧ Binds K fd ps [] ∧ FnG P wd K mg base k g fd ps sp
abbrev PrT (P : Program) (wd : World) (K : PySem.W.Frag) (mg : Str → Option Value) (base : Heap) (k : Nat) (c m : Str) (F : List T → G T) : Prop := PrG P wd K mg base k c m (SpT (P, wd) K mg 1 F)
abbrev PrN (P : Program) (wd : World) (K : PySem.W.Frag) (mg : Str → Option Value) (base : Heap) (k : Nat) (c m : Str) (F : List T → G T) : Prop := PrG P wd K mg base k c m (SpF (P, wd) K mg 1 F)
def cPrG (c : Str) (F : List T → G T) (co : EC) : EC := fun r => co r >>= fun s => match s with
  | .ins d fs => if d = c then (F [.ins d fs]).nox else .stuck
  | _ => .stuck
section
variable {X : Cx} {w : Wd} {E : XK} {j k : Nat} {c m : Str} {e : Expr} {pos : Pos} {co : EC} {F : List T → G T}
end
end TL
end s_TL150
section s_TL151
set_option Elab.async false
set_option linter.all false
set_option maxRecDepth 100000
set_option maxHeartbeats 4000000
/-! TL151: e.append(..), e.clear() of what is new, as a statement -/
namespace TL
open PySem PySem.Spec PyProof.Rows L2
def cTmpM (ty : String) (F : T → List T → Option T) (co : EC) (cs : List Sl → G (List T)) : SC := fun r => co r >>= fun t => if tyT t = some ty then cs r >>= fun ts => (match F t ts with | some _ => .ret (.nx r) | none => .stuck) else .stuck
def cTmpC (co : EC) : SC := fun r => co r >>= fun t => match t with
  | .dic _ => .ret (.nx r)
  | _ => .stuck
section
variable {X : Cx} {w : Wd} {E : XK} {fr : Bool} {H0 Z0 H Z : Hp} {r : List Sl} {σ : L2.St} {o : Nat → List Addr} {D : Ends} {pos apos cpos p0 : Pos} {e eo : Expr} {es : List Expr} {cs : List Sl → G (List T)} {co : EC}
end
end TL
end s_TL151
section s_TL152
set_option Elab.async false
set_option linter.all false
set_option maxRecDepth 100000
set_option maxHeartbeats 4000000
/-! TL152: new things as lending expressions; defs whose first argument is lent -/
namespace TL
open PySem PySem.Spec PyProof.Rows L2
section
variable {X : Cx} {w : Wd} {E : XK} {j k n i : Nat} {c x y : Str} {e : Expr} {es : List Expr} {cs : List Sl → G (List T)} {ca : EC} {pos p p0 : Pos} {F : Sl → List T → G (T × Sl)} {fr : Bool}
end
end TL
end s_TL152
section s_TL153
set_option Elab.async false
set_option linter.all false
set_option maxRecDepth 100000
set_option maxHeartbeats 4000000
/-! TL153: != of lists whose items have an own __eq__ (equal ones) -/
namespace TL
open PySem PySem.Spec PyProof.Rows L2
open PySem.SeqAt GQ
open AutoSeq1 (wpAny_loadPart')
open MeetsSeq MeetsSeq2 MeetsSeq3 SeqRoads2
section
variable {prog : Program} {w : World} {A : Around} {R : Result → Shared → Prop}
end
section
variable {prog : Program} {w : World} {A : Around} {E : Value → Shared → Prop} {s : Shared}
end
end TL
end s_TL153
section s_TL154
set_option Elab.async false
set_option linter.all false
set_option maxRecDepth 100000
set_option maxHeartbeats 4000000
/-! TL154: == of nested things that hold instances with an own __eq__ (equal ones); != of such lists -/
namespace TL
open PySem PySem.Spec PyProof.Rows L2
/-- somewhere below the running body, with room, and no guards -/
structure SubQ (X : Cx) (n : Nat) (A : Around) : Prop where
  s : L2.Sub X n A
  g : A.guards = some []
theorem SubQ.in1 {X : Cx} {n : Nat} {A : Around} (s : SubQ X (n + 1) A) : SubQ X n A.in1 := ⟨s.s.in1, s.g⟩
theorem SubQ.mono {X : Cx} {n m : Nat} {A : Around} (s : SubQ X n A) (h : m ≤ n) : SubQ X m A := ⟨s.s.mono h, s.g⟩
def EqQ (X : Cx) (n : Nat) (D : Eqv) : Prop := ∀ (A : Around) (pins : List (Addr × Obj)) (s : Shared) (σ : L2.St) (H : Hp) (x y : V) (u v : Value), SubQ X n A → Inv X pins σ H s → RelV x u → RelV y v → D x y H →
  wpAny (model X.prog X.w) A (eqBool u v) (fun r s' => r = true ∧ LoopI X pins σ H s') X.xe s
def RcQ (op : CmpOp) (b : Bool) (X : Cx) (n : Nat) (D : Eqv) : Prop := ∀ (A : Around) (pins : List (Addr × Obj)) (s : Shared) (σ : L2.St) (H : Hp) (x y : V) (u v : Value), SubQ X n A → Inv X pins σ H s → RelV x u → RelV y v → D x y H →
  wpAny (model X.prog X.w) A (richCompare op u v) (fun r s' => r = .bool b ∧ LoopI X pins σ H s') X.xe s
section
variable {X : Cx} {n m : Nat} {D D' : Eqv}
theorem EqG.q (h : EqG X n D) : EqQ X n D := fun A pins s σ H x y u v sb I rx ry d => h A pins s σ H x y u v sb.s I rx ry d
theorem EqQ.mono (h : EqQ X n D) (hn : n ≤ m) : EqQ X m D := fun A pins s σ H x y u v sb => h A pins s σ H x y u v (sb.mono hn)
theorem EqQ.or (h : EqQ X n D) (h' : EqQ X n D') : EqQ X n (fun x y H => D x y H ∨ D' x y H) := fun A pins s σ H x y u v sb I rx ry d =>
  d.elim (fun d => h A pins s σ H x y u v sb I rx ry d) fun d => h' A pins s σ H x y u v sb I rx ry d
def rCmpQ (b : Bool) (D : Eqv) : R2 := fun x y H Q => D x y H ∧ ∀ H', Ext H H' → Q (.bl b) H'
end
end TL
end s_TL154
section s_TL155
set_option Elab.async false
set_option linter.all false
set_option maxRecDepth 100000
set_option maxHeartbeats 4000000
/-! TL155: lists, tuples and instances with an own __eq__ that are equal: == and != told by what they hold -/
namespace TL
open PySem PySem.Spec PyProof.Rows L2
/-- flat -/
def flT : T → Bool
  | .non | .bl _ | .int _ | .str _ => true
  | _ => false
/-- an instance whose fields are tuples of flat things, or flat -/
def flF : List (Str × T) → Bool
  | [] => true
  | (_, .tup ts) :: fs => ts.all flT && flF fs
  | (_, t) :: fs => flT t && flF fs
section
variable {K : PySem.W.Frag} {mg : Str → Option Value} {w w' : Wd} {Z : Hp}
theorem Tr.fl {t : T} {v : V} (h : Tr K mg w Z t v) (hf : flT t = true) : Tr K mg w' Z t v := by
  cases h <;> simp [flT] at hf
  · exact .non
  · exact .bl _
  · exact .int _
  · exact .str _
theorem Trs.fl : ∀ {ts : List T} {vs : List V}, Trs K mg w Z ts vs → ts.all flT = true → Trs K mg w' Z ts vs
  | _, _, .nil, _ => .nil
  | _, _, .cons a b, q => by
    rw [List.all_cons, Bool.and_eq_true] at q
    exact .cons (a.fl q.1) (Trs.fl b q.2)
theorem Trf.fl : ∀ {fs : List (Str × T)} {gs : List (Str × V)}, Trf K mg w Z fs gs → flF fs = true → Trf K mg w' Z fs gs
  | _, _, .nil, _ => .nil
  | (_, t) :: _, _, .cons a b, q => by
    cases t with
    | tup ts =>
      unfold flF at q
      rw [Bool.and_eq_true] at q
      cases a with
      | tup h l r => exact .cons (.tup h l (Trs.fl r q.1)) (Trf.fl b q.2)
    | non => exact .cons (a.fl rfl) (Trf.fl b (by unfold flF at q; rw [Bool.and_eq_true] at q; exact q.2))
    | bl _ => exact .cons (a.fl rfl) (Trf.fl b (by unfold flF at q; rw [Bool.and_eq_true] at q; exact q.2))
    | int _ => exact .cons (a.fl rfl) (Trf.fl b (by unfold flF at q; rw [Bool.and_eq_true] at q; exact q.2))
    | str _ => exact .cons (a.fl rfl) (Trf.fl b (by unfold flF at q; rw [Bool.and_eq_true] at q; exact q.2))
    | _ => unfold flF at q; rw [Bool.and_eq_true] at q; exact absurd q.1 (by simp [flT])
end
/-- what the own __eq__ of two instances is asked -/
def RIns (pw : Program × World) (K : PySem.W.Frag) (mg : Str → Option Value) (c : Str) (F : List T → G T) : Addr → Addr → Hp → Prop := fun a b H =>
  ∃ (Z : Hp) (fs gs : List (Str × T)), TL.Sub Z H ∧ Tr K mg (Wd.base pw []) Z (.ins c fs) (.ref a) ∧ Tr K mg (Wd.base pw []) Z (.ins c gs) (.ref b) ∧ F [.ins c fs, .ins c gs] = .ret (.bl true)
def DD (K : PySem.W.Frag) (C : Addr) (R : Addr → Addr → Hp → Prop) : Nat → Eqv
  | 0 => fun x y H => DFlat x y H ∨ DIns C R x y H
  | n + 1 => fun x y H => (DFlat x y H ∨ DIns C R x y H) ∨ (DTup K (DD K C R n) x y H ∨ DList (DD K C R n) x y H)
section
variable {X : Cx} {C f : Addr} {R : Addr → Addr → Hp → Prop} {fd : FuncData} {ps : List Str} {m : Nat}
end
def PairR (R : T → T → Prop) : List T → List T → Prop
  | [], [] => True
  | t :: ts, u :: us => R t u ∧ PairR R ts us
  | _, _ => False
/-- equal, as == says it -/
def relT (c : Str) (F : List T → G T) : Nat → T → T → Prop
  | 0, a, b => (flT a = true ∧ a = b) ∨ ∃ fs gs, a = .ins c fs ∧ b = .ins c gs ∧ flF fs = true ∧ flF gs = true ∧ F [a, b] = .ret (.bl true)
  | n + 1, a, b => ((flT a = true ∧ a = b) ∨ ∃ fs gs, a = .ins c fs ∧ b = .ins c gs ∧ flF fs = true ∧ flF gs = true ∧ F [a, b] = .ret (.bl true)) ∨
      ((∃ ts us, a = .tup ts ∧ b = .tup us ∧ PairR (relT c F n) ts us) ∨ ∃ ts us, a = .lst ts ∧ b = .lst us ∧ PairR (relT c F n) ts us)
section
variable {K : PySem.W.Frag} {mg : Str → Option Value} {w : Wd} {Z H : Hp} {c : Str} {C : Addr} {F : List T → G T} {pw : Program × World}
end
theorem Good.ext {w : Wd} {H Z H' : Hp} (g : Good w H Z) (e : Ext H H') : Grow w H Z H' Z := by
  refine ⟨⟨fun a u h => e a u (g.zh a u h), g.zw, w.loc (fun a ha => ?_) (Sub.refl _) g.wi⟩, Sub.refl _, fun _ _ q => .inl q, fun a u h _ => e a u h⟩
  cases q : H a with
  | none => exact absurd q (w.tr g.wi a ha)
  | some u => exact e a u q
open Classical in
/-- two lists that are equal: == and != -/
noncomputable def fLstD (c : Str) (F : List T → G T) (n : Nat) (b : Bool) : T → T → G T := fun x y => if ∃ ts us, x = .lst ts ∧ y = .lst us ∧ PairR (relT c F n) ts us then .ret (.bl b) else .stuck
section
variable {X : Cx} {w : Wd} {E : XK} {c : Str} {C f : Addr} {F : List T → G T} {fd : FuncData} {ps : List Str} {m k n : Nat} {b : Bool}
end
end TL
end s_TL155
section s_TL156
set_option Elab.async false
set_option linter.all false
set_option maxRecDepth 100000
set_option maxHeartbeats 4000000
/-! TL156: == and != of lists that hold instances with an own __eq__, as tests -/
namespace TL
open PySem PySem.Spec PyProof.Rows L2
section
variable {X : Cx} {w : Wd} {E : XK} {c : Str} {F : List T → G T} {j k n : Nat} {a b : Expr} {ca cb : EC} {pos : Pos}
end
end TL
end s_TL156
section s_TL157
set_option Elab.async false
set_option linter.all false
set_option maxRecDepth 100000
set_option maxHeartbeats 4000000
/-! TL157: sorted(t) of a tuple of data -/
namespace TL
open PySem PySem.Spec PyProof.Rows L2
def rSortT (X : Km) : List V → Hp → VK → Prop := fun xs H Q => ∃ (a : Addr) (bs : List (T × V)), xs = [.ref a] ∧ SqT X.K H a (bs.map (·.2)) ∧ bs.length ≤ 1000 ∧ (∀ p ∈ bs, ∃ dt, toPy p.1 = some dt ∧ Dp X.K H p.2 dt) ∧ SrtOk (bs.map encT) ∧
  ∀ p, H p = none → Q (.ref p) (upd H p (.lst ((bs.mergeSort (PySem.W.dataLe false encT)).map (·.2))))
section
variable {X : Cx}
end
open Classical in
noncomputable def fSortT : List T → G T
  | [.tup ts] => if srtB (ts.map encK) = true ∧ ts.length ≤ 1000 ∧ ∀ t ∈ ts, (toPy t).isSome then .ret (.lst (ts.mergeSort leT)) else .stuck
  | _ => .stuck
section
variable {M : Km} {w : Wd} {E : XK}
end
end TL
end s_TL157
section s_TL158
set_option Elab.async false
set_option linter.all false
set_option maxRecDepth 100000
set_option maxHeartbeats 4000000
/-! TL158: tests that change slots; expressions over lending ones; statements that are not reached -/
namespace TL
open PySem PySem.Spec PyProof.Rows L2
abbrev LTC := List Sl → G (Bool × List Sl)
section
variable (X : Km) (w : Wd) (E : XK)
def PostTLe (H0 Z0 Z : Hp) (σ : L2.St) (Q : Bool → Hp → Prop) : Bool × List Sl → Prop := fun q => ∀ H' Z' o', EnvR X.km w H0 Z0 q.2 σ H' Z' o' → Sub Z Z' → Q q.1 H'
def EvTLe (c : LTC) : TT := fun σ H Q => ∃ H0 Z0 r Z o, EnvR X.km w H0 Z0 r σ H Z o ∧ (c r).wp (PostTLe X.km w H0 Z0 Z σ Q) (PostX X.km w E H0 Z0)
end
structure CTLe (X : Cx) (w : Wd) (E : XK) (e : Expr) (c : LTC) : Prop where
  pt : PT X e (EvTLe X.km w E c)
section
variable {X : Cx} {w : Wd} {E : XK} {fr : Bool} {e a b : Expr} {pos p : Pos} {cb : EC} {c : LC} {H0 Z0 H Z Z1 : Hp} {r : List Sl} {σ : L2.St} {o : Nat → List Addr}
def cIfLe (tc : LTC) (c d : SC) : SC := fun r => tc r >>= fun q => if q.1 then c q.2 else d q.2
/-- an operation on what a lending expression answers -/
def le1 (F : T → G T) (c : LC) : LC := fun r => c r >>= fun q => F q.1 >>= fun t => .ret (t, q.2)
def le2 (F : T → T → G T) (c : LC) (cb : EC) : LC := fun r => c r >>= fun q => cb q.2 >>= fun b => F q.1 b >>= fun t => .ret (t, q.2)
/-- as a test -/
def leB (c : LC) : LTC := fun r => c r >>= fun q => asB q.1 >>= fun b => .ret (b, q.2)
end
end TL
end s_TL158
section s_TL159
set_option Elab.async false
set_option linter.all false
set_option maxRecDepth 100000
set_option maxHeartbeats 4000000
/-! TL159: properties by their defs -/
namespace TL
open PySem PySem.Spec PyProof.Rows L2
/-- the class c has the property m, read by a def -/
structure PropAt (K : PySem.W.Frag) (mg : Str → Option Value) (c m x qual : Str) (st : Stmt) (ps : List Str) : Prop where
  ex : ∃ C p g fd, mg c = some (.ref C) ∧ Cls K C ∧ PropOf K C m p g ∧ Fun K x qual st g fd ∧ Binds K fd ps []
section
variable {P : Program} {wd : World} {K : PySem.W.Frag} {mg : Str → Option Value} {base : Heap} {k : Nat} {ps N : List Str} {cl m x qual : Str} {st : Stmt} {c : SC}
end
section
variable {K : PySem.W.Frag} {h : Heap} {mg : Str → Option Value} {x qual : Str} {st : Stmt} {ps : List Str} {p g C : Addr} {oc kV doc pm cdv ct : Value} {od an : Option Addr} {osl : Array (Option Value)} {c m : Str} {rest : List Value}
end
end TL
end s_TL159
section s_TL160
set_option Elab.async false
set_option linter.all false
set_option maxRecDepth 100000
set_option maxHeartbeats 4000000
/-! TL160: defs that are lent their first argument; lending by a test -/
namespace TL
open PySem PySem.Spec PyProof.Rows L2
section
variable {P : Program} {wd : World} {K : PySem.W.Frag} {mg : Str → Option Value} {base : Heap} {k : Nat} {ps N : List Str} {x qual : Str} {st : Stmt} {c : SC} {fr : Bool}
end
section
variable {X : Cx} {w : Wd} {E : XK} {fr : Bool} {e a b : Expr} {pos : Pos} {tc : List Sl → G Bool} {ca cb : LC}
def leIf (tc : List Sl → G Bool) (ca cb : LC) : LC := fun r => tc r >>= fun p => if p then ca r else cb r
end
section
variable {X : Cx} {w : Wd} {E : XK} {c : Str} {F : List T → G T} {j k n : Nat} {a b : Expr} {ca cb : EC} {pos : Pos}
end
end TL
end s_TL160
section s_TL161
set_option Elab.async false
set_option linter.all false
set_option maxRecDepth 100000
set_option maxHeartbeats 4000000
/-! TL161: == of a tuple that begins with a text, and a tuple of one text, whatever else is in the first -/
namespace TL
open PySem PySem.Spec PyProof.Rows L2
def rEqT1 (K : PySem.W.Frag) : R2 := fun x y H Q => ∃ a b t ts z, x = .ref a ∧ y = .ref b ∧ SqT K H a (.str t :: ts) ∧ SqT K H b [.str z] ∧ Q (.bl (decide (t = z) && ts.isEmpty)) H
def fEqT1 : T → T → G T
  | .tup (.str x :: ts), .tup [.str y] => .ret (.bl (decide (x = y) && ts.isEmpty))
  | a, b => fEq a b
section
variable {M : Km} {X : Cx} {w : Wd} {E : XK} {k : Nat}
end
end TL
end s_TL161
section s_TL162
set_option Elab.async false
set_option linter.all false
set_option maxRecDepth 100000
set_option maxHeartbeats 4000000
/-! TL162: methods called with keywords only -/
namespace TL
open PySem PySem.Spec PyProof.Rows L2
/-- the class c has the method m, called with the keywords ks -/
structure MethS (P : Program) (wd : World) (K : PySem.W.Frag) (mg : Str → Option Value) (base : Heap) (k : Nat) (c m : Str) (ks : List Str) (perm : List Nat) (mm : Nat) (F : List T → G T) : Prop where
  ex : ∃ C f fd ps, mg c = some (.ref C) ∧ Cls K C ∧ Meth K C m f ∧ ps.length = mm ∧ (∀ (s : Shared) (u : Value) (ws : List Value), K.In s.heap → ws.length = ks.length → BindsTo s fd ⟨[u], ks.zip ws⟩ (ps.zip (pickL perm ([u] ++ ws ++ [])))) ∧ FnG P wd K mg base k f fd ps (SpT (P, wd) K mg mm F)
  len : perm.length = mm
  low : ∀ i ∈ perm, i < ks.length + 1
structure MethAtS (K : PySem.W.Frag) (mg : Str → Option Value) (c m x qual : Str) (st : Stmt) (ps ks : List Str) (perm : List Nat) : Prop where
  ex : ∃ C f fd, mg c = some (.ref C) ∧ Cls K C ∧ Meth K C m f ∧ Fun K x qual st f fd ∧ (∀ (s : Shared) (u : Value) (ws : List Value), K.In s.heap → ws.length = ks.length → BindsTo s fd ⟨[u], ks.zip ws⟩ (ps.zip (pickL perm ([u] ++ ws ++ []))))
section
variable {P : Program} {wd : World} {K : PySem.W.Frag} {mg : Str → Option Value} {base : Heap} {k n : Nat} {ps ks N : List Str} {perm : List Nat} {cl m x qual : Str} {st : Stmt} {c : SC}
end
section
variable {K : PySem.W.Frag} {h : Heap} {mg : Str → Option Value} {c m x qual : Str} {st : Stmt} {ps ks : List Str} {perm : List Nat} {C f : Addr} {oc kV doc pm cdv ct : Value} {od an : Option Addr} {osl : Array (Option Value)}
end
section
variable {X : Cx} {w : Wd} {E : XK} {j k mm : Nat} {c m : Str} {o : Expr} {apos pos : Pos} {kws : List Keyword} {co : EC} {ck : List Sl → G (List T)} {F : List T → G T} {ks : List Str} {perm : List Nat}
end
end TL
end s_TL162
section s_TL163
set_option Elab.async false
set_option linter.all false
set_option maxRecDepth 100000
set_option maxHeartbeats 4000000
/-! TL163: a lent argument at any place; attributes of own things written; copies; items and slices of what lends -/
namespace TL
open PySem PySem.Spec PyProof.Rows L2
section
variable {P : Program} {wd : World} {K : PySem.W.Frag} {mg : Str → Option Value} {base : Heap} {k : Nat} {ps N : List Str} {x qual : Str} {st : Stmt} {c : SC} {fr : Bool}
end
section
variable {X : Cx} {w : Wd} {E : XK} {j k m n i : Nat} {c x y : Str} {e : Expr} {es : List Expr} {cs c1 c2 : List Sl → G (List T)} {ca cb : EC} {pos p p0 p2 : Pos} {F : Sl → List T → G (T × Sl)} {fr : Bool} {cle : LC}
/-- arguments, one of them a lent name -/
structure CALe (X : Cx) (w : Wd) (E : XK) (es : List Expr) (i : Nat) (c1 c2 : List Sl → G (List T)) : Prop where
  pa : PA X es fun σ H Q => EvA X.km w E c1 σ H fun vs H1 => tVar i σ H1 fun v H2 => EvA X.km w E c2 σ H2 fun us H3 => Q (vs ++ v :: us) H3
/-- x(.., y, ..), y lent -/
def cMLeI (i : Nat) (c m : Str) (F : Sl → List T → G (T × Sl)) (c1 c2 : List Sl → G (List T)) : LC := fun r => match r[i]? with
  | some s => (match lendTo c m s with
    | some s1 => c1 r >>= fun ts => c2 r >>= fun us => F s1 (ts ++ .non :: us) >>= fun q => (match slBack s q.2 with | some s2 => .ret (q.1, r.set i s2) | none => .stuck)
    | none => .stuck)
  | none => .stuck
/-- e[lo:hi], e lends a list -/
def leSl (c : LC) (c1 c2 : List Sl → G (Option Int)) : LC := fun r => c r >>= fun q => c1 q.2 >>= fun l => c2 q.2 >>= fun u => match q.1 with
  | .lst ts => .ret (.lst (cutT ts l u), q.2)
  | _ => .stuck
end
/-! ### a copy of an own thing: a new instance of the same fields -/
def noFsR (ns : List Str) : T → Bool
  | .ins _ fs => noFsf ns fs
  | _ => false
def cPkN (i : Nat) (ca : EC) : EC := fun r => match r[i]? with
  | some s => (match insOf s with
    | some (t, ns) => ca (r.set i (.fz t)) >>= fun u => if noFsR ns u = true then .ret u else .stuck
    | none => .stuck)
  | none => .stuck
section
variable {X : Cx} {w : Wd} {E : XK} {e : Expr} {ca : EC}
end
/-! ### x.f = e, x an own instance -/
def cFldOw (i : Nat) (c f : Str) (ca : EC) : SC := fun r => ca r >>= fun t => match r[i]? with
  | some (.ow (.ins c' fs)) => if c' = c ∧ fs.length < 1000 then .ret (.nx (r.set i (.ow (.ins c' (putFT f t fs))))) else .stuck
  | _ => .stuck
section
variable {X : Cx} {w : Wd} {E : XK} {fr : Bool} {H0 Z0 H Z : Hp} {r : List Sl} {σ : L2.St} {o : Nat → List Addr} {D : Ends} {pos pos' p0 : Pos} {e : Expr} {ca : EC} {c f : Str} {C : Addr}
end
end TL
end s_TL163
section s_TL164
set_option Elab.async false
set_option linter.all false
set_option maxRecDepth 100000
set_option maxHeartbeats 4000000
/-! TL164: isinstance where instances of another own class may come -/
namespace TL
open PySem PySem.Spec PyProof.Rows L2
/-- the classes c and d; an instance of d is none of c -/
structure InsT2 (K : PySem.W.Frag) (mg : Str → Option Value) (c d : Str) : Prop where
  ex : ∃ C D, InsF K mg c C ∧ InsF K mg d D ∧ PySem.W.kitOne K (.ref D) (.ref C) = some false
def fIsj (c0 d0 : Str) (c : Cl) (t : T) : G T := match t with
  | .ins d fs => if d = d0 then (match c with
    | .ty b => if bTys.contains b then .ret (.bl false) else .stuck
    | .own c' => if c' = c0 then .ret (.bl false) else .stuck) else fIsi c0 [c] (.ins d fs)
  | t => fIsi c0 [c] t
section
variable {X : Cx} {w : Wd} {E : XK} {e b : Expr} {ca : EC} {pos p p1 p2 : Pos} {c0 d0 : Str} {C D : Addr}
end
section
variable {K : PySem.W.Frag} {h : Heap} {mg : Str → Option Value} {c d : Str} {C D : Addr}
end
end TL
end s_TL164
section s_TL165
set_option Elab.async false
set_option linter.all false
set_option maxRecDepth 100000
set_option maxHeartbeats 4000000
/-! TL165: == and != of lists and tuples, item by item, with either answer -/
namespace TL
open PySem PySem.Spec PyProof.Rows L2
open PySem.SeqAt GQ
open AutoSeq1 (wpAny_loadPart')
open MeetsSeq MeetsSeq2 MeetsSeq3 SeqRoads2
section
variable {prog : Program} {w : World} {A : Around} {R : Result → Shared → Prop}
/-- at each turn the two lists are read anew: N items each; the i-th two are equal, or they are not and that ends it -/
def ListB (prog : Program) (w : World) (A : Around) (E : Value → Shared → Prop) (l b : Addr) (N : Nat) (I : Nat → Shared → Prop) (J : Shared → Prop) : Prop :=
  ∀ i s, I i s → ∃ (items items2 : Array Value) (n n2 : Nat), s.heap.get? l = some { cls := .type "list", data := .seq items n } ∧ s.heap.get? b = some { cls := .type "list", data := .seq items2 n2 } ∧ items.size = N ∧ items2.size = N ∧
    ∀ (h1 : i < items.size) (h2 : i < items2.size), wpAny (model prog w) A.in1 (eqBool items[i] items2[i]) (fun r s' => (r = true ∧ I (i + 1) s') ∨ (r = false ∧ I i s' ∧ J s')) E s
end
section
variable {prog : Program} {w : World} {A : Around} {E : Value → Shared → Prop} {s : Shared}
end
end TL
end s_TL165
section s_TL166
set_option Elab.async false
set_option linter.all false
set_option maxRecDepth 100000
set_option maxHeartbeats 4000000
/-! TL166: == and != of nested lists and tuples that hold instances with an own __eq__, with either answer (of instances: equal ones) -/
namespace TL
open PySem PySem.Spec PyProof.Rows L2
abbrev EqvB := V → V → Hp → Bool → Prop
def MonB (D : EqvB) : Prop := ∀ x y H H' b, Ext H H' → D x y H b → D x y H' b
/-- from the front on, up to the first two that differ -/
def PrsB (D : EqvB) (H : Hp) : List V → List V → Bool → Prop
  | [], [], b => b = true
  | x :: xs, y :: ys, b => (b = false ∧ D x y H false) ∨ (D x y H true ∧ PrsB D H xs ys b)
  | _, _, b => b = false
def EqB (X : Cx) (n : Nat) (D : EqvB) : Prop := ∀ (A : Around) (pins : List (Addr × Obj)) (s : Shared) (σ : L2.St) (H : Hp) (x y : V) (u v : Value) (b : Bool), SubQ X n A → Inv X pins σ H s → RelV x u → RelV y v → D x y H b →
  wpAny (model X.prog X.w) A (eqBool u v) (fun r s' => r = b ∧ LoopI X pins σ H s') X.xe s
def RcB (op : CmpOp) (neg : Bool) (X : Cx) (n : Nat) (D : EqvB) : Prop := ∀ (A : Around) (pins : List (Addr × Obj)) (s : Shared) (σ : L2.St) (H : Hp) (x y : V) (u v : Value) (b : Bool), SubQ X n A → Inv X pins σ H s → RelV x u → RelV y v → D x y H b →
  wpAny (model X.prog X.w) A (richCompare op u v) (fun r s' => r = .bool (b != neg) ∧ LoopI X pins σ H s') X.xe s
/-- a thing and itself never differ -/
def NeI (X : Cx) (D : EqvB) : Prop := ∀ (pins : List (Addr × Obj)) (s : Shared) (σ : L2.St) (H : Hp) (x : V) (b : Bool), Inv X pins σ H s → D x x H b → b = true
def LstB (D : EqvB) : EqvB := fun x y H b => ∃ a c xs ys, x = .ref a ∧ y = .ref c ∧ H a = some (.lst xs) ∧ H c = some (.lst ys) ∧ ((xs.length = ys.length ∧ PrsB D H xs ys b) ∨ (xs.length ≠ ys.length ∧ b = false))
def TupB (K : PySem.W.Frag) (D : EqvB) : EqvB := fun x y H b => ∃ a c xs ys, x = .ref a ∧ y = .ref c ∧ SqT K H a xs ∧ SqT K H c ys ∧ PrsB D H xs ys b
section
variable {X : Cx} {n m : Nat} {D D' : EqvB} {H : Hp} {b : Bool}
theorem EqB.mono (h : EqB X n D) (hn : n ≤ m) : EqB X m D := fun A pins s σ H x y u v b sb => h A pins s σ H x y u v b (sb.mono hn)
theorem EqB.or (h : EqB X n D) (h' : EqB X n D') : EqB X n (fun x y H b => D x y H b ∨ D' x y H b) := fun A pins s σ H x y u v b sb I rx ry d =>
  d.elim (fun d => h A pins s σ H x y u v b sb I rx ry d) fun d => h' A pins s σ H x y u v b sb I rx ry d
theorem MonB.or (h : MonB D) (h' : MonB D') : MonB (fun x y H b => D x y H b ∨ D' x y H b) := fun x y H H' b e d => d.imp (h x y H H' b e) (h' x y H H' b e)
theorem NeI.or (h : NeI X D) (h' : NeI X D') : NeI X (fun x y H b => D x y H b ∨ D' x y H b) := fun p s σ H x b I d => d.elim (h p s σ H x b I) (h' p s σ H x b I)
end
def DB0 (C : Addr) (R : Addr → Addr → Hp → Prop) : EqvB := fun x y H b => (flatV x = true ∧ flatV y = true ∧ eqV x y = b) ∨ (b = true ∧ DIns C R x y H)
def DB (K : PySem.W.Frag) (C : Addr) (R : Addr → Addr → Hp → Prop) : Nat → EqvB
  | 0 => DB0 C R
  | n + 1 => fun x y H b => DB0 C R x y H b ∨ (TupB K (DB K C R n) x y H b ∨ LstB (DB K C R n) x y H b)
section
variable {X : Cx} {C f : Addr} {R : Addr → Addr → Hp → Prop} {fd : FuncData} {ps : List Str} {m : Nat}
theorem RcB.or {op : CmpOp} {neg : Bool} {n : Nat} {D D' : EqvB} (h : RcB op neg X n D) (h' : RcB op neg X n D') : RcB op neg X n (fun x y H b => D x y H b ∨ D' x y H b) := fun A pins s σ H x y u v b sb I rx ry d =>
  d.elim (fun d => h A pins s σ H x y u v b sb I rx ry d) fun d => h' A pins s σ H x y u v b sb I rx ry d
def rCmpB (neg : Bool) (D : EqvB) : R2 := fun x y H Q => ∃ b, D x y H b ∧ ∀ H', Ext H H' → Q (.bl (b != neg)) H'
end
/-- == of flat things -/
def eqF : T → T → Bool
  | .non, .non => true
  | .bl a, .bl b => a == b
  | .bl a, .int b => (if a then 1 else 0) == b
  | .int a, .bl b => a == (if b then 1 else 0)
  | .int a, .int b => a == b
  | .str a, .str b => a == b
  | _, _ => false
def eqT0 (c : Str) (F : List T → G T) : T → T → Option Bool
  | .ins c1 fs, .ins c2 gs => if c1 = c ∧ c2 = c ∧ flF fs = true ∧ flF gs = true then (match F [.ins c1 fs, .ins c2 gs] with
    | .ret (.bl true) => some true
    | _ => none) else none
  | a, b => if flT a = true ∧ flT b = true then some (eqF a b) else none
def eqTs (g : T → T → Option Bool) : List T → List T → Option Bool
  | [], [] => some true
  | t :: ts, u :: us => match g t u with
    | some true => eqTs g ts us
    | r => r
  | _, _ => some false
/-- == as far as it can be told: none where it cannot -/
def seqT (c : Str) (F : List T → G T) : Nat → T → T → Option Bool
  | 0, a, b => eqT0 c F a b
  | n + 1, a, b => match a, b with
    | .tup ts, .tup us => eqTs (seqT c F n) ts us
    | .lst ts, .lst us => if ts.length = us.length then eqTs (seqT c F n) ts us else some false
    | a, b => eqT0 c F a b
/-- two lists, or two tuples: == and != -/
def fSeqB (c : Str) (F : List T → G T) (n : Nat) (neg : Bool) (a b : T) : G T :=
  match a, b with
  | .tup ts, .tup us => (match eqTs (seqT c F n) ts us with
    | some r => .ret (.bl (r != neg))
    | none => .stuck)
  | .lst ts, .lst us => if ts.length = us.length then (match eqTs (seqT c F n) ts us with
    | some r => .ret (.bl (r != neg))
    | none => .stuck) else .ret (.bl (false != neg))
  | _, _ => .stuck
section
variable {K : PySem.W.Frag} {mg : Str → Option Value} {w : Wd} {Z H : Hp} {c : Str} {C : Addr} {F : List T → G T} {pw : Program × World}
end
section
variable {X : Cx} {w : Wd} {E : XK} {c : Str} {C f : Addr} {F : List T → G T} {fd : FuncData} {ps : List Str} {m k n : Nat} {neg : Bool}
abbrev DSeq (K : PySem.W.Frag) (C : Addr) (R : Addr → Addr → Hp → Prop) (n : Nat) : EqvB := fun x y H b => TupB K (DB K C R n) x y H b ∨ LstB (DB K C R n) x y H b
end
section
variable {X : Cx} {w : Wd} {E : XK} {c : Str} {F : List T → G T} {j k n : Nat} {a b : Expr} {ca cb : EC} {pos : Pos}
end
end TL
end s_TL166
section s_TL167
set_option Elab.async false
set_option linter.all false
set_option maxRecDepth 100000
set_option maxHeartbeats 4000000
/-! TL167: an __eq__ that answers NotImplemented; an instance looked for in a list of other things -/
namespace TL
open PySem PySem.Spec PyProof.Rows L2
open PySem.SeqAt GQ
open AutoSeq1 (wpAny_loadPart')
open MeetsSeq MeetsSeq2 MeetsSeq3 SeqRoads2
section
variable {prog : Program} {w : World} {A : Around} {R : Result → Shared → Prop}
end
section
variable {prog : Program} {w : World} {A : Around} {E : Value → Shared → Prop} {s : Shared}
end
section
variable {prog : Program} {w : World} {A : Around} {E : Value → Shared → Prop} {s : Shared} {K : PySem.W.Frag} {x C f : Addr} {ox : Obj} {od : Option Obj}
end
end TL
end s_TL167
section s_TL168
set_option Elab.async false
set_option linter.all false
set_option maxRecDepth 100000
set_option maxHeartbeats 4000000
/-! TL168: an __eq__ that answers NotImplemented, by its body; `x in [..]` where no item is equal to the instance x -/
namespace TL
open PySem PySem.Spec PyProof.Rows L2
def NR (CX : CXT) (outer : List Env) (P : Program) (w : World) (H : Hp) (s : Shared) (Q : VK) (E : XK) (r : Result) (s' : Shared) : Prop :=
  match r with
  | .ok (.ret u) => u = Value.notImplemented ∧ L2.CE outer P w H s Q Value.none s'
  | .ok _ => False
  | .error e => CX outer H s E e s'
/-- a def that answers NotImplemented where its computation says None -/
structure FnN (P : Program) (wd : World) (K : PySem.W.Frag) (mg : Str → Option Value) (base : Heap) (k : Nat) (f : Addr) (fd : FuncData) (ps : List Str) (sp : Sp) : Prop where
  len : ∀ vs H Q E, sp vs H Q E → vs.length = ps.length
  go : ∀ (A : Around) (outer : List Env) (s : Shared) (H : Hp) (args : Args) (us : List Value) (vs : List V) (Q : VK) (E : XK), A.guards = some [] → Room k A → Env0 P wd K mg base A outer s H → BindsTo s fd args (ps.zip us) →
    Vals vs us → sp vs H Q E → codeAny (model P wd) A (.call (.ref f) args) (NR (L2.CX P wd) outer P wd H s Q E) s
structure NSs (X : Cx) (sts : List Stmt) (t : TT) : Prop where
  run : ∀ (pins : List (Addr × Obj)) (s : Shared) (σ : L2.St) (H : Hp) (Q : Hp → Prop), Inv X pins σ H s → t σ H (fun b H' => b = true ∧ Q H') →
    wpAny (model X.prog X.w) X.A (execs sts X.env) (fun fl s' => fl = .ret Value.notImplemented ∧ ∃ σ' H', Inv X pins σ' H' s' ∧ Q H') X.xe s
def runN (ct : List Sl → G Bool) (m : Nat) (ts : List T) : G T := ct (ts.map .fz ++ List.replicate (m - ts.length) .un) >>= fun b => if b = true then .ret .non else .stuck
section
variable {P : Program} {wd : World} {K : PySem.W.Frag} {mg : Str → Option Value} {base : Heap} {k : Nat} {f : Addr} {fd : FuncData} {ps N : List Str} {x qual : Str} {st : Stmt} {ct : List Sl → G Bool}
end
/-- the class c has an __eq__ that answers NotImplemented where F says None; d: another own class -/
structure EqN (P : Program) (wd : World) (K : PySem.W.Frag) (mg : Str → Option Value) (base : Heap) (k : Nat) (c : Str) (F : List T → G T) : Prop where
  ex : ∃ C f fd ps, EqF K mg c C f ∧ Binds K fd ps [] ∧ FnN P wd K mg base k f fd ps (SpT (P, wd) K mg 2 F)
def LoopW (X : Cx) (pins : List (Addr × Obj)) (σ : L2.St) (w : Wd) (H Z : Hp) (s' : Shared) : Prop := ∃ H' Z', Inv X pins σ H' s' ∧ Grow w H Z H' Z'
/-- what the world stands on -/
def HW (X : Cx) (w : Wd) (H Z : Hp) : Prop := w.wo = (X.prog, X.w) ∧ ∀ p, w.home = some p → Grow w p.1 p.2 H Z
theorem HW.grow {X : Cx} {w : Wd} {H Z H' Z' : Hp} (h : HW X w H Z) (g : Grow w H Z H' Z') : HW X w H' Z' := ⟨h.1, fun p hp => (h.2 p hp).trans g⟩
/-- an item that is not equal to the instance -/
def okI (c c2 : Str) (F F2 : List T → G T) (fs : List (Str × T)) : T → Bool
  | .ins d gs => decide (d = c2) && (match F2 [.ins d gs, .ins c fs] with
    | .ret (.bl false) => true
    | _ => false)
  | .non => isN (F [.ins c fs, .non])
  | .int i => isN (F [.ins c fs, .int i])
  | .tup ts => isN (F [.ins c fs, .tup ts])
  | .lst ts => isN (F [.ins c fs, .lst ts])
  | _ => false
where isN : G T → Bool
  | .ret .non => true
  | _ => false
section
variable {X : Cx} {w : Wd} {n m m2 : Nat} {c c2 : Str} {C C2 f f2 a : Addr} {fd fd2 : FuncData} {ps ps2 : List Str} {F F2 : List T → G T} {pins : List (Addr × Obj)} {s : Shared} {σ : L2.St} {H Z : Hp} {A : Around} {fs : List (Str × T)} {t : T} {v : V} {u : Value}
end
end TL
end s_TL168
section s_TL169
set_option Elab.async false
set_option linter.all false
set_option maxRecDepth 100000
set_option maxHeartbeats 4000000
/-! TL169: `x in [..]` where no item is equal to the instance x -/
namespace TL
open PySem PySem.Spec PyProof.Rows L2
open PySem.SeqAt GQ
section
variable {prog : Program} {w : World} {A : Around} {E : Value → Shared → Prop} {s : Shared} {K : PySem.W.Frag} {x C f : Addr} {ox : Obj} {od : Option Obj}
end
section
variable {X : Cx} {w : Wd} {n m m2 : Nat} {c c2 : Str} {C C2 f f2 a : Addr} {fd fd2 : FuncData} {ps ps2 : List Str} {F F2 : List T → G T} {pins : List (Addr × Obj)} {s : Shared} {σ : L2.St} {H Z : Hp} {A : Around} {fs : List (Str × T)} {t : T} {v : V} {u : Value}
end
def rInI (X : Cx) (c c2 : Str) (F F2 : List T → G T) : R2 := fun x y H Q => ∃ (w : Wd) (Z : Hp) (fs : List (Str × T)) (ts : List T), HW X w H Z ∧ Good w H Z ∧ Tr X.K X.mg w Z (.ins c fs) x ∧ Tr X.K X.mg w Z (.lst ts) y ∧ ts.all (okI c c2 F F2 fs) = true ∧ ∀ H' Z', Grow w H Z H' Z' → Q (.bl false) H'
def fInI (c c2 : Str) (F F2 : List T → G T) (a b : T) : G T := match a, b with
  | .ins d fs, .lst ts => if d = c ∧ ts.all (okI c c2 F F2 fs) = true then .ret (.bl false) else .stuck
  | _, _ => .stuck
section
variable {X : Cx} {w : Wd} {E : XK} {n j j2 k : Nat} {c c2 : Str} {C C2 f f2 : Addr} {fd fd2 : FuncData} {ps ps2 : List Str} {F F2 : List T → G T} {a b : Expr} {ca cb : EC} {pos : Pos}
end
end TL
end s_TL169
section s_TL170
set_option Elab.async false
set_option linter.all false
set_option maxRecDepth 100000
set_option maxHeartbeats 4000000
/-! TL170: an own dict looked at, in a world with tables (a def with lambdas is called with it) -/
namespace TL
open PySem PySem.Spec PyProof.Rows L2
def cPkTb (i : Nat) (tb : List Sl → G Bool) : List Sl → G Bool := fun r => match r[i]? with
  | some (.ow (.dic kts)) => tb (r.set i (.fz (.dic kts)))
  | _ => .stuck
section
variable {X : Cx} {w : Wd} {E : XK} {e : Expr} {tb : List Sl → G Bool}
end
end TL
end s_TL170
section s_TL171
set_option Elab.async false
set_option linter.all false
set_option maxRecDepth 100000
set_option maxHeartbeats 4000000
/-! TL171: `_law_caught(lambda: got.append(e))` as an expression; `x, y = that, something new` -/
namespace TL
open PySem PySem.Spec PyProof.Rows L2
def endLe (i : Nat) (ts : List T) (r : List Sl) : Bool × T → G (T × List Sl)
  | (true, t) => match mAppend (.lst ts) [t] with
    | some t' => .ret (.non, r.set i (.ow t'))
    | none => .stuck
  | (false, e) => .ret (e, r)
def leCaughtA (i : Nat) (ks : List Str) (cb : EC) : LC := fun r => match r[i]? with
  | some (.ow (.lst ts)) => catchA ks (cb (wipe r)) >>= endLe i ts r
  | _ => .stuck
section
variable {X : Cx} {w : Wd} {E : XK} {fr : Bool} {k kk : Nat} {x y : Str} {LE : Value} {ks : List Str} {e : Expr} {cb : EC} {p py pos spos : Pos} {ls : List Lm}
end
/-- x, y = what changes slots, something new -/
def cParLe (i j : Nat) (c : LC) (cb : EC) : SC := fun r => c r >>= fun q => cb q.2 >>= fun t => .ret (.nx ((q.2.set i (.fz q.1)).set j (.ow t)))
section
variable {X : Cx} {w : Wd} {E : XK} {fr : Bool} {a b : Expr} {cle : LC} {cb : EC} {pos : Pos}
end
end TL
end s_TL171
section s_TL172
set_option Elab.async false
set_option linter.all false
set_option maxRecDepth 100000
set_option maxHeartbeats 4000000
/-! TL172: exceptions made as values: a class without __init__, with one text; str of it; what makes one to be raised, as a value -/
namespace TL
open PySem PySem.Spec PyProof.Rows L2
section
variable {fs ex : List Addr} {H : Hp} {h h' : Heap} {a b : Addr} {o u : HO}
theorem unLaid2 (k : ∀ b u, h.get? b = some u → h'.get? b = some u) (hp : h.get? a = none) (hp2 : h.get? b = none) (hn : H a = none) (hn2 : H b = none) (hab : b ≠ a) : Un fs ex H (upd (upd H a o) b u) h h' where
  keep := fun c v q _ _ _ => k c v q
  slot := fun c v q _ _ _ => ⟨v.slots, k c v q⟩
  free := fun c v q n _ => by
    rw [upd_ne (fun z => by rw [z, hp2] at q; cases q), upd_ne (fun z => by rw [z, hp] at q; cases q)]; exact n
  there := fun c v q _ => ⟨v, k c v q⟩
  tups := fun c xs q => by rw [upd_ne (ne_of_none q hn2), upd_ne (ne_of_none q hn)]; exact q
  frzs := fun c v xs q => by rw [upd_ne (ne_of_none q hn2), upd_ne (ne_of_none q hn)]; exact q
  tbls := fun c ps q => ⟨#[], by rw [upd_ne (ne_of_none q hn2), upd_ne (ne_of_none q hn), q]; simp⟩
end
section
variable {X : Cx} {pins : List (Addr × Obj)} {σ : L2.St} {H : Hp} {s : Shared}
theorem excS_ok {P : Program} {w : World} {H : Hp} {h : Heap} {a t0 C : Addr} {oe : Obj} {vs : Array Value} (e : h.get? a = some oe) (z : Zc (.ref C) none oe) (d : oe.data = .fields vs) (h0 : vs[0]? = some (.ref t0)) : ObjOk P w H h a (excSV C t0 a) :=
  ⟨⟨oe, vs, e, z, d, h0⟩, ⟨oe, e⟩, fun _ _ ⟨o, v, q, r⟩ k => ⟨o, v, k o q, r⟩⟩
theorem excV_ok {P : Program} {w : World} {H : Hp} {h : Heap} {a C : Addr} {d : Option Addr} {oe : Obj} {vs : Array Value} (e : h.get? a = some oe) (z : Zc (.ref C) d oe) (hd : oe.data = .fields vs) : ObjOk P w H h a (excV C d a) :=
  ⟨⟨oe, vs, e, z, hd⟩, ⟨oe, e⟩, fun _ _ ⟨o, v, q, r⟩ k => ⟨o, v, k o q, r⟩⟩
theorem laid2 {h' : Heap} {a b : Addr} {o u : HO} {t' : Nat} (I : Inv X pins σ H s) (k : ∀ b u, s.heap.get? b = some u → h'.get? b = some u) (hp : s.heap.get? a = none) (hp2 : s.heap.get? b = none) (hab : b ≠ a)
    (new : ∀ H', ObjOk X.prog X.w H' h' a o) (new2 : ∀ H', ObjOk X.prog X.w H' h' b u) : Inv X pins σ (upd (upd H a o) b u) { s with heap := h', toks := t' } := by
  have hn : H a = none := I.hok.gone hp
  have hn2 : H b = none := I.hok.gone hp2
  have e2 : upd H a o b = none := by rw [upd_ne hab]; exact hn2
  exact I.un (unLaid2 k hp hp2 hn hn2 hab) ((I.hok.laidN k hn (new _)).laidN (fun _ _ q => q) e2 (new2 _))
/-- X(e), e a text, X an own exception class without own __init__, as a value -/
theorem pe_excS {C : Addr} {bmB : List Value} {B newId initId : String} {x : Str} {e : Expr} {ta : TE} {p pos : Pos} (F : ExcBaseFacts B newId initId bmB) (q : PySem.W.excIn X.K C bmB newId = true) (gC : X.mg x = some (.ref C)) (kC : PySem.W.keepIn X.K (.ref C) = true) (hg : Gl X x)
    (he : PE X e ta) (hs : starEach [e] X.env = (false, eval e X.env) :: starEach [] X.env := by rfl) (hdb : (x == ("__debug__" : Str)) = false := by decide) :
    PE X (.Call (.Name x p) [e] [] pos) (fun σ H Q => ta σ H fun v H1 => ∃ m, v = .str m ∧ ∀ a t0, H1 a = none → H1 t0 = none → t0 ≠ a → Q (.ref a) (upd (upd H1 a (excSV C t0 a)) t0 (.tup [.str m]))) := by
  refine ⟨fun pins s σ H Q I h => ?_⟩
  refine wpAny_Call_Name_kw (ld_glob I hg gC ?_ hdb)
  refine PySem.W.callWith_K (h₀ := X.base) I.ok.mod.kin kC ?_ hs (by rfl)
  rw [hs]
  show wpAny _ _ (spliced ((false, eval e X.env) :: backTo pos (starEach [] X.env))) _ _ s
  refine Calls.spliced_cons (thn (he.run pins s σ H _ I h) fun u s1 ⟨v, H1, I1, r1, m, hv, q1⟩ => ?_)
  subst hv
  obtain ⟨tk, rfl⟩ := r1
  refine Calls.spliced_nil ⟨I1.kIn, ?_⟩
  show wpAny _ _ (call (.ref C) [_]) _ _ _
  obtain ⟨bm, N, nm, qn, bs, hdct, sn, sub, ab, col, dd, k0, k1, k2, k3, k5, mN, hC, hN, hni, T⟩ := exc_obj I1.kIn q
  refine wpAny_call_exc_subT F T hC hN hni (fun h' a hm => ?_) (by show 1 ≤ sizeLine; rw [sizeLine_eq]; omega)
  obtain ⟨t, ht, tn, tt⟩ := hm.there
  have hta : t ≠ a := fun z => by
    rw [z, ht] at tt
    have := Option.some.inj tt
    injection this with e1
    cases e1
  have hn : H1 a = none := I1.hok.gone hm.new
  have hn2 : H1 t = none := I1.hok.gone tn
  refine ⟨.ref a, upd (upd H1 a (excSV C t a)) t (.tup [.str m]), ?_, rfl, q1 a t hn hn2 hta⟩
  refine laid2 I1 hm.keeps hm.new tn hta (fun H' => excS_ok ht ⟨rfl, rfl⟩ rfl rfl) fun H' => ⟨by show 1 ≤ sizeLine; rw [sizeLine_eq]; omega, [_], .cons ⟨tk, rfl⟩ .nil, ?_⟩
  exact ⟨_, tt, rfl, _, rfl⟩
/-- what would be raised, as a value -/
theorem pe_ofMk {e : Expr} {tm : L2.St → Hp → XK → Prop} (h : PMk X e tm) : PE X e (fun σ H Q => tm σ H fun cls d H1 => ∃ C, cls = .ref C ∧ ∀ a, H1 a = none → Q (.ref a) (upd H1 a (excV C d a))) := by
  refine ⟨fun pins s σ H Q I hh => ?_⟩
  refine wpAny_mono (h pins s σ H _ I hh) (fun u s1 hu => ?_) fun _ _ x => x
  obtain ⟨a, oe, vs, sI, H', cls, d, rfl, J, k, hne, ha, hz, hd, h1, na, os, ag, r, C, rfl, q⟩ := hu
  have J2 := J.laidN (t' := s1.toks) k hne na (excV_ok (d := d) ha hz hd)
  exact ⟨.ref a, upd H' a (excV C d a), ⟨J2.ok, os.trans J2.os, ag, J2.base, J2.loc, J2.cell, J2.free, J2.freeC, J2.pin, J2.hok, J2.len⟩, rfl, q a na⟩
end
/-! ### in computations -/
def cExS (c : Str) (ca : EC) : EC := fun r => ca r >>= fun t => match t with
  | .str m => .ret (.exc c [("%", .dic [(.non, .str m)])])
  | _ => .stuck
def cExD (c f : Str) (ca : EC) : EC := fun r => ca r >>= fun t => .ret (.exc c [(f, t)])
section
variable {X : Cx} {w : Wd} {E : XK} {fr : Bool} {k : Nat} {c f m : Str} {e : Expr} {ca : EC} {p p1 p2 pos : Pos} {j : Nat}
theorem ce_excS (T : ExcT0 X.K X.mg c) (he : CE X w E e ca) (hg : Gl X c := by rfl) (hs : starEach [e] X.env = (false, eval e X.env) :: starEach [] X.env := by rfl) (hdb : (c == ("__debug__" : Str)) = false := by decide) :
    CE X w E (.Call (.Name c p) [e] [] pos) (cExS c ca) := by
  obtain ⟨C, bmB, B0, newId, initId, hm, F, q, kC, h1, h2⟩ := T.ex
  refine ⟨peImp (pe_excS F q hm kC hg he.pe hs hdb) fun σ H Q h => ?_⟩
  obtain ⟨H0, Z0, r, Z, o, R, h⟩ := h
  refine evSeq (P := fun H Z => Post X.km w H Z Q) (PX := fun _ => True) R (fun g => Post.weak g) h fun x H1 Z1 t R1 g1 t1 h1 => ?_
  cases t1 with
  | str x =>
    refine ⟨x, rfl, fun a t0 ha ht hne => ?_⟩
    have g1 := Grow.laidF (o := excSV C t0 a) R1.good ha
    have ht' : upd H1 a (excSV C t0 a) t0 = none := by rw [upd_ne hne]; exact ht
    have g2 := Grow.laidF (o := .tup [.str x]) g1.good ht'
    refine h1 _ _ _ (g1.trans g2) (.excS hm ?_ upd_same)
    rw [upd_ne hne.symm, upd_same]
  | _ => exact h1.elim
theorem ce_excD (B : Bd X k E) (T : ExcT X.prog X.w X.K X.mg X.base c f) (he : CE X w E e ca) (hk : 2 ≤ k := by decide) (hg : Gl X c := by rfl)
    (hdb : (c == ("__debug__" : Str)) = false := by decide) (hs : starEach [e] X.env = (false, eval e X.env) :: starEach [] X.env := by rfl) (hpl : (backTo p2 (starEach [] X.env)).any (·.1) = false := by rfl) :
    CE X w E (.Call (.Name c p1) [e] [] p2) (cExD c f ca) := by
  obtain ⟨C, fI, fd, a, hm, T1, iC, tI, hb, F1⟩ := T.ex
  refine ⟨peImp (pe_ofMk (pmk_oex (k := 1) T1 iC tI F1 (B.hr.mono hk) hb .nil passes_false hg hm (pa_cons he.pe pa_nil hs) hdb hs hpl)) fun σ H Q h => ?_⟩
  obtain ⟨H0, Z0, r, Z, o, R, h⟩ := h
  refine evSeq (P := fun H Z => Post X.km w H Z Q) (PX := fun _ => True) R (fun g => Post.weak g) h fun x H1 Z1 t R1 g1 t1 h1 => ⟨by show 1 ≤ 1000; omega, fun q hq => ?_⟩
  refine ⟨q, x, rfl, upd_same, fun dx hdx ne => ?_⟩
  have hd1 : H1 dx = none := by rw [upd_ne ne] at hdx; exact hdx
  refine ⟨rfl, dx, [(f, x)], upd_same, ?_, hd1, ?_⟩
  · rw [upd_ne ne, upd_same]
  have eH : upd (L2.del (upd (upd (upd H1 q (exo q C none)) dx (exd dx [(f, x)])) q (exo q C (some dx))) q) dx (.xd [(f, x)]) = upd H1 dx (.xd [(f, x)]) := by
    funext b
    by_cases hb1 : b = dx
    · rw [hb1, upd_same, upd_same]
    · rw [upd_ne hb1, upd_ne hb1]
      by_cases hb2 : b = q
      · rw [hb2, del_same, hq]
      · rw [del_ne hb2, upd_ne hb2, upd_ne hb1, upd_ne hb2]
  rw [eH]
  refine ⟨C, rfl, fun a ha => ?_⟩
  have g2 := Grow.laidF (o := .xd [(f, x)]) R1.good hd1
  have g3 := Grow.laidF (o := excV C (some dx) a) g2.good ha
  have s2 := g2.zz
  have hne : dx ≠ a := fun z => by rw [← z, upd_same] at ha; cases ha
  refine h1 _ _ _ (g2.trans g3) (.excD hm upd_same ?_ (.cons ((t1.mono g2.zz).mono g3.zz) .nil))
  rw [upd_ne hne, upd_same]
end
/-! ### str(e) -/
/-- str of the exceptions of these classes is their text -/
inductive StXL (K : PySem.W.Frag) (mg : Str → Option Value) : List Str → Prop
  | nil : StXL K mg []
  | cons {d : Str} {D : Addr} {l : List Str} : mg d = some (.ref D) → PySem.W.findIn K (.ref D) "__str__" = some (some (.builtin "BaseException.__str__")) → PySem.W.subIn K (.ref D) (.type "BaseException") = some true → StXL K mg l → StXL K mg (d :: l)
theorem StXL.get {K : PySem.W.Frag} {mg : Str → Option Value} : ∀ {l : List Str}, StXL K mg l → ∀ d ∈ l, ∃ D, mg d = some (.ref D) ∧ PySem.W.findIn K (.ref D) "__str__" = some (some (.builtin "BaseException.__str__")) ∧ PySem.W.subIn K (.ref D) (.type "BaseException") = some true
  | _, .cons h1 h2 h3 r, d, hd => by
    rcases List.mem_cons.mp hd with rfl | hd
    · exact ⟨_, h1, h2, h3⟩
    · exact r.get d hd
def rStX (K : PySem.W.Frag) : List V → Hp → VK → Prop := fun xs H Q => ∃ (a C t0 : Addr) (m : Str), xs = [.ref a] ∧ H a = some (excSV C t0 a) ∧ H t0 = some (.tup [.str m]) ∧ PySem.W.findIn K (.ref C) "__str__" = some (some (.builtin "BaseException.__str__")) ∧ PySem.W.subIn K (.ref C) (.type "BaseException") = some true ∧ Q (.str m) H
def fStX (l : List Str) : List T → G T
  | [.exc c [(f, .dic [(.non, .str m)])]] => if l.contains c && decide (f = "%") then .ret (.str m) else .stuck
  | _ => .stuck
section
variable {X : Cx} {w : Wd} {E : XK} {k : Nat} {e : Expr} {l : List Str} {cs : List Sl → G (List T)} {p pos : Pos}
theorem call_stX (hr : Room k X.A) : CallR X (.type "str") (rStX X.K) := by
  intro pins s σ H xs us Q I r h
  obtain ⟨a, C, t0, m, rfl, ha, ht, hs, hB, q⟩ := h
  cases r with
  | cons r1 r2 =>
    cases r2
    obtain rfl := r1
    obtain ⟨⟨oe, vs, hoe, hz, hd, h0⟩, _⟩ := I.hok a _ ha
    obtain ⟨_, its, hv, ot, hot, hc, n, hdt⟩ := I.hok t0 _ ht
    cases hv with
    | cons v1 v2 =>
      cases v2
      obtain ⟨tk, rfl⟩ := v1
      refine PySem.P.str_of_C_one (K := X.K) (C := C) (by have := hr.un; omega) ⟨I.kIn, oe, vs, hoe, hz.1, hd, h0⟩ ⟨ot, n, hot, hc, hdt⟩ hs hB ?_
      exact ⟨.str m, H, I, ⟨tk, rfl⟩, q⟩
theorem tn_stX (S : StXL X.K X.mg l) : TN X.km w E (rStX X.K) (fStX l) := fun H0 Z0 r σ H Z o R ts vs Q tr hw => by
  unfold fStX at hw
  split at hw
  · rename_i c f m
    split at hw
    · rename_i hz
      rw [Bool.and_eq_true, decide_eq_true_eq] at hz
      obtain ⟨v, rfl, tv⟩ := trs1 tr
      obtain ⟨D, hm, h1, h2⟩ := S.get c (List.contains_iff_mem.mp hz.1)
      cases tv with
      | excS m0 e0 et =>
        have z := m0.symm.trans hm
        cases z
        exact ⟨_, D, _, m, rfl, R.good.zh _ _ e0, R.good.zh _ _ et, h1, h2, hw _ H Z (Grow.refl R.good) (.str _)⟩
      | excD m0 e0 ed tf =>
        cases tf with
        | cons a b =>
          cases a with
          | dic _ _ d => cases d with | cons ek _ _ => cases ek
    · exact False.elim hw
  · exact False.elim hw
theorem ce_stX {B0 : Nat} (B : Bd X B0 E) (S : StXL X.K X.mg l) (hg : Gl X "str") (hm : X.mg "str" = none) (ha : CA X w E [e] cs) (he : starEach [e] X.env = (false, eval e X.env) :: starEach [] X.env := by rfl) (hpl : (backTo pos (starEach [] X.env)).any (·.1) = false := by rfl) :
    CE X w E (.Call (.Name "str" p) [e] [] pos) (cCall (fStX l) cs) := ce_callTy (call_stX B.hr) (tn_stX S) hg hm PySem.Pv.boot_str ha (by decide) (by decide) he hpl
end
end TL
end s_TL172
section s_TL173
set_option Elab.async false
set_option linter.all false
set_option maxRecDepth 100000
set_option maxHeartbeats 4000000
/-! TL173: exceptions with an own __init__ made by a keyword, as values -/
namespace TL
open PySem PySem.Spec PyProof.Rows L2
open PySem.HandSPX Builtin Builtin.ObjectAttr
section
variable {M : Model} {A : Around} {E : Value → Shared → Prop} {h : Heap} {g : Array GenState} {d : Drawn} {t : Nat} {os : OsState}
variable {nm q : Str} {C N : Addr} {bs bm bmB : List Value} {hdct : Bool} {sn : List Str} {sub : List Value} {ab : Bool} {col : Option Bool} {dd : Option Addr} {k0 k1 k2 k3 k5 : Option Value} {B newId initId : String}
theorem kw_check_new (F : ExcBaseFacts B newId initId bmB) (hT : ∀ X : String, bm.contains (.type X) = bmB.contains (.type X)) {kw : List (Str × Value)} {Q : Unit → Shared → Prop}
    (hC : h.get? C = some (excClassObj nm q C N bs bm hdct sn sub ab col dd k0 k1 k2 k3 k5 newId)) (hq : Q () ⟨h, g, d, t, os⟩) : wpAny M A (checkBuiltinCall newId ⟨[.ref C], kw⟩) Q E ⟨h, g, d, t, os⟩ := by
  have hcont : (Value.ref C :: bm).contains (.type B) = true := by rw [List.contains_cons, hT, F.hasB, Bool.or_true]
  have hstar := F.noStar
  simp only [checkBuiltinCall, F.newKind, F.newSplit, F.newRow]
  repeat (first | refine wpAny_loadPart_at hC ?_ | (refine wpAny_isSubtype_exc hC ?_; rw [hcont]) | refine wpAny_staticBase_exc hC ?_ | refine wpAny_madeBy_exc hC ?_ | simp only [bne_self_eq_false, Bool.false_eq_true, if_false] | wp_step)
  exact hq
theorem kw_check_type {kw : List (Str × Value)} {Q : Unit → Shared → Prop} (hC : h.get? C = some (excClassObj nm q C N bs bm hdct sn sub ab col dd k0 k1 k2 k3 k5 newId))
    (hq : Q () ⟨h, g, d, t, os⟩) : wpAny M A (checkBuiltinCall "type.__call__" ⟨[.ref C], kw⟩) Q E ⟨h, g, d, t, os⟩ := by
  have f3 := tc_sub
  have hT : (⟨h, g, d, t, os⟩ : Shared).TypeIs (.ref C) "type" := ⟨_, hC, rfl⟩
  simp only [checkBuiltinCall, tc_kind, tc_split]
  repeat (any_goals (first | assumption | with_reducible refine wpAny_loadPart_at hC ?_ | with_reducible refine wpAny_onRaise ?_ | with_reducible refine wpAny_map ?_ | wp_step))
end
section
variable {prog : Program} {w : World} {A : Around} {E : Value → Shared → Prop} {R : Result → Shared → Prop} {h : Heap} {g : Array GenState} {d : Drawn} {t : Nat} {os : OsState}
variable {nm q : Str} {C N : Addr} {bs bm bmB : List Value} {hdct : Bool} {sn : List Str} {sub : List Value} {ab : Bool} {col : Option Bool} {dd : Option Addr} {k0 k1 k2 k3 k5 : Option Value} {B newId initId : String}
theorem kw_new (F : ExcBaseFacts B newId initId bmB) (hT : ∀ X : String, bm.contains (.type X) = bmB.contains (.type X)) {kw : List (Str × Value)}
    (hC : h.get? C = some (excClassObj nm q C N bs bm hdct sn sub ab col dd k0 k1 k2 k3 k5 newId))
    (hq : R (.ok (.ret (.ref (h.objs.size + 1)))) ⟨(h.push (W.kdv_tup [])).push (HandSPX.excO C h.objs.size), g, d, t, os⟩) :
    codeAny (model prog w) A (.builtin newId ⟨[.ref C], kw⟩) R ⟨h, g, d, t, os⟩ := by
  have hends := F.ends
  have hcB : (Value.ref C :: bm).contains (.type B) = true := by rw [List.contains_cons, hT, F.hasB, Bool.or_true]
  have hcA : (Value.ref C :: bm).contains (.type "AttributeError") = false := by rw [List.contains_cons, hT, F.noAttr]; rfl
  have hcN : (Value.ref C :: bm).contains (.type "NameError") = false := by rw [List.contains_cons, hT, F.noName]; rfl
  refine codeAny_builtinAt F.entry ?_
  unfold Builtin.«BaseException.__new__»
  refine PySem.wpAt_bind ?_
  show PySem.wpAt _ _ _ (stack >>= _) _ _ _
  refine PySem.wpAt_bind (PySem.wpAt_stack fun p below => PySem.wpAt_of_wpAny ?_)
  wp_walk
  refine PySem.wpAt_of_wpAny ?_
  rw [F.owner]
  repeat (first | with_reducible refine wpAny_madeHere_exc F.canon hC ?_ | with_reducible refine wpAny_loadPart_at hC ?_ | (with_reducible refine wpAny_isSubtype_exc hC ?_; first | rw [hcB] | rw [hcA] | rw [hcN]) | wp_step)
  show R _ _
  rw [Heap.size_push]
  exact hq
theorem kw_type_call (F : ExcBaseFacts B newId initId bmB) (hT : ∀ X : String, bm.contains (.type X) = bmB.contains (.type X)) {kw : List (Str × Value)} {fI : Addr} {Q : Fin → Shared → Prop}
    (hC : h.get? C = some (excClassObj nm q C N bs bm hdct sn sub ab col dd k0 k1 k2 k3 k5 newId))
    (hi : W.Looks (model prog w) h (typeLookup (.ref C) "__init__") (some (.ref fI))) (hb : ∀ self, W.Looks (model prog w) h (bindSpecial (.ref fI) self) (.ref fI, [self]))
    (hq : codeAny (model prog w) A (.call (.ref fI) ⟨[.ref (h.objs.size + 1)], kw⟩)
      (fun r s' => match r with | .ok (.ret v) => v = .none ∧ Q (.done (.ret (.ref (h.objs.size + 1)))) s' | .ok _ => False | .error e => E e s')
      ⟨(h.push (W.kdv_tup [])).push (HandSPX.excO C h.objs.size), g, d, t, os⟩) :
    wpAny (model prog w) A (Builtin.«type.__call__» ⟨[.ref C], kw⟩) Q E ⟨h, g, d, t, os⟩ := by
  repeat (first | with_reducible refine wpAny_loadPart_at hC ?_ | with_reducible refine wpAny_madeBy_exc hC ?_ | wp_step)
  refine codeAny_call_builtin_code (Code.quiet_builtin _ F.quiet) (kw_check_new F hT hC ?_)
  refine kw_new F hT hC ?_
  show wpAny _ _ _ _ _ _
  have k : ∀ b o, h.get? b = some o → ((h.push (W.kdv_tup [])).push (HandSPX.excO C h.objs.size)).get? b = some o := fun b o e => Heap.get?_push_of_some _ (Heap.get?_push_of_some _ e)
  have hC₁ := k _ _ hC
  have hget : ((h.push (W.kdv_tup [])).push (HandSPX.excO C h.objs.size)).get? (h.objs.size + 1) = some (HandSPX.excO C h.objs.size) := by heap_get
  have hcC : (Value.ref C :: bm).contains (.ref C) = true := by simp
  have i1 := hi.keeps k
  have b1 := (hb (.ref (h.objs.size + 1))).keeps k
  unfold isInstance
  repeat (first | with_reducible refine wpAny_loadPart_at hget ?_ | (with_reducible refine wpAny_isSubtype_exc hC₁ ?_; rw [hcC]) | wp_step)
  show wpAny _ _ (typeLookup (.ref C) _) _ _ _
  refine i1.at ?_
  refine wpAny_holding (wpAny_bind (b1.at ?_))
  refine wpAny_bind (wpAny_call (codeAny_mono hq fun r s' z => ?_))
  rcases r with e | (v | _ | _ | _) <;> first | exact z | exact z.elim | skip
  obtain ⟨rfl, z⟩ := z
  first
    | exact wpAny_pure (wpAny_pure z)
    | (wp_walk; exact z)
theorem kw_call_own (F : ExcBaseFacts B newId initId bmB) (hT : ∀ X : String, bm.contains (.type X) = bmB.contains (.type X)) {kw : List (Str × Value)} {fI : Addr}
    (hC : h.get? C = some (excClassObj nm q C N bs bm hdct sn sub ab col dd k0 k1 k2 k3 k5 newId))
    (hi : W.Looks (model prog w) h (typeLookup (.ref C) "__init__") (some (.ref fI))) (hb : ∀ self, W.Looks (model prog w) h (bindSpecial (.ref fI) self) (.ref fI, [self]))
    (hq : codeAny (model prog w) (A.under (.builtin "type.__call__" ⟨[.ref C], kw⟩)) (.call (.ref fI) ⟨[.ref (h.objs.size + 1)], kw⟩) (W.InitBack (h.objs.size + 1) R)
      ⟨(h.push (W.kdv_tup [])).push (HandSPX.excO C h.objs.size), g, d, t, os⟩) :
    codeAny (model prog w) A (.call (.ref C) ⟨[], kw⟩) R ⟨h, g, d, t, os⟩ := by
  have f1 := tc_lookup
  have f2 := tc_bind (.ref C)
  have hTy : (⟨h, g, d, t, os⟩ : Shared).TypeIs (.ref C) "type" := ⟨_, hC, rfl⟩
  refine codeAny_of_tree ?_
  show wpAny _ _ (callAny (.ref C) _) _ _ _
  repeat (any_goals (first | assumption | with_reducible refine wpAny_loadPart_at hC ?_ | wp_step))
  refine ⟨rfl, ?_⟩
  refine codeAny_call_builtin_at (Code.quiet_builtin _ (by decide +kernel)) entry_typeCall (kw_check_type hC (kw_type_call F hT hC hi hb ?_))
  refine codeAny_mono hq fun r s' z => ?_
  rcases r with e | (v | _ | _ | _) <;> exact z
end
/-- the class c has the __init__ that TL91 tells of, its field is f, its parameter p -/
structure ExcTK (P : Program) (wd : World) (K : PySem.W.Frag) (mg : Str → Option Value) (base : Heap) (c f a : Str) : Prop where
  ex : ∃ (C fI : Addr) (fd : FuncData), mg c = some (.ref C) ∧ OexC K C ∧ PySem.W.findIn K (.ref C) "__init__" = some (some (.ref fI)) ∧ PySem.W.typeIn K (.ref fI) = some (.type "function") ∧ Binds K fd ["self", a] [] ∧
    (∀ (s : Shared) (v u : Value), BindsTo s fd ⟨[v], [(a, u)]⟩ [("self", v), (a, u)]) ∧ FnOk P wd K mg base (L2.CX P wd) 1 fI fd ["self", a] (SpSup C f)
theorem ExcTK.t {P : Program} {wd : World} {K : PySem.W.Frag} {mg : Str → Option Value} {base : Heap} {c f a : Str} (T : ExcTK P wd K mg base c f a) : ExcT P wd K mg base c f := by
  obtain ⟨C, fI, fd, h1, h2, h3, h4, h5, h6, h7⟩ := T.ex
  exact ⟨C, fI, fd, a, h1, h2, h3, h4, h5, h7⟩
section
variable {X : Cx} {w : Wd} {E : XK} {k : Nat} {c f a : Str} {kws : List Keyword} {ck : List Sl → G (List T)} {p1 pos : Pos} {tk : TA}
theorem pmk_oexK {CX : CXT} {x : Str} {C fI : Addr} {k : Nat} {fd : FuncData} {sp : Sp} (T : OexC X.K C) (iC : PySem.W.findIn X.K (.ref C) "__init__" = some (some (.ref fI))) (tI : PySem.W.typeIn X.K (.ref fI) = some (.type "function"))
    (F1 : FnOk X.prog X.w X.K X.mg X.base CX k fI fd ["self", a] sp) (hr : Room (k + 1) X.A) (hb : ∀ (s : Shared) (v u : Value), BindsTo s fd ⟨[v], [(a, u)]⟩ [("self", v), (a, u)]) (hx : Passes CX X (fun _ _ _ => False)) (hg : Gl X x) (hm : X.mg x = some (.ref C)) (hkw : PK X kws tk)
    (hall : (backToKw pos (keywordEach kws X.env)).all (·.1.isSome) = true := by rfl) (hks : (backToKw pos (keywordEach kws X.env)).filterMap (·.1) = [a] := by rfl) (hdb : (x == ("__debug__" : Str)) = false := by decide)
    (hpl : ((backTo pos (starEach [] X.env)).any (·.1) || (backToKw pos (keywordEach kws X.env)).any (·.1.isNone)) = false := by rfl) :
    PMk X (.Call (.Name x p1) [] kws pos) (tMkO C sp [] tk) := by
  intro pins s σ H Q I h
  obtain ⟨nm, q, N, bs, bm, sn, sub, ab, col, dd, k0, k1, k2, k3, k5, hC, hbm⟩ := T.cls
  refine wpAny_Call_Name_kw (ld_glob I hg hm ?_ hdb)
  refine PySem.W.callWith_KW0 (h₀ := X.base) I.ok.mod.kin T.kC hall ?_ hpl
  refine thn (hkw.run pos pins s σ H _ I h) fun ws s1 ⟨zs, H1, I1, rz, hz, q1⟩ => ⟨I1.kIn, ?_⟩
  rw [hks]
  show wpAny _ _ (call (.ref C) [] ([a].zip ws)) _ _ _
  obtain ⟨hp, g, dr, tk, os⟩ := s1
  have hsz : hp.objs.size ≤ hp.objs.size + 1 := Nat.le_succ _
  have hn : H1 (hp.objs.size + 1) = none := I1.hok.fresh hsz
  have hq := q1 (hp.objs.size + 1) hn
  have hl := F1.len _ _ _ _ hq
  obtain ⟨z, rfl⟩ : ∃ z, zs = [z] := by
    match zs, hl with
    | [z], _ => exact ⟨z, rfl⟩
    | [], hl => simp at hl
    | _ :: _ :: _, hl => simp at hl
  cases rz with
  | @cons _ u _ _ rz1 rz2 =>
    cases rz2
    have kk : ∀ b o, hp.get? b = some o → ((hp.push (PySem.W.kdv_tup [])).push (HandSPX.excO C hp.objs.size)).get? b = some o := fun b o e => Heap.get?_push_of_some _ (Heap.get?_push_of_some _ e)
    have hget : ((hp.push (PySem.W.kdv_tup [])).push (HandSPX.excO C hp.objs.size)).get? (hp.objs.size + 1) = some (HandSPX.excO C hp.objs.size) := by heap_get
    have I2 : Inv X pins σ (upd H1 (hp.objs.size + 1) (exo (hp.objs.size + 1) C none)) ⟨(hp.push (PySem.W.kdv_tup [])).push (HandSPX.excO C hp.objs.size), g, dr, tk, os⟩ :=
      I1.laid (t' := tk) (a := hp.objs.size + 1) (o := exo (hp.objs.size + 1) C none) (h' := (hp.push (PySem.W.kdv_tup [])).push (HandSPX.excO C hp.objs.size)) kk hsz (exo_ok hget)
    have r2 : Vals (V.ref (hp.objs.size + 1) :: ([z] ++ [])) [Value.ref (hp.objs.size + 1), u] := .cons rfl (.cons rz1 .nil)
    refine wpAny_call (kw_call_own F.excBase_ValueError (fun Y => PySem.HandSPX.refsVE_contains Y bm hbm) (I1.kIn _ _ hC) (PySem.W.looks_findIn I1.kIn iC) (fun self => PySem.W.bind_fn I1.kIn self tI)
      (codeAny_mono (F1.run _ X.stack _ _ ⟨[Value.ref (hp.objs.size + 1)], [(a, u)]⟩ [Value.ref (hp.objs.size + 1), u] _ _ (fun _ _ _ => False) (hr.make C [] [(a, u)]) (I2.env0.make C [] [(a, u)]) (hb _ _ _) r2 hq) fun r s' hq' => ?_))
    cases r with
    | error er => exact hx pins σ _ _ er s' I2 hq'
    | ok fl =>
      cases fl with
      | ret u =>
        obtain ⟨v, H2, os2, bare2, un2, hok2, rv, ev, d, fs, ea, ed, hd1, q2⟩ := hq'
        subst ev
        obtain ⟨h2, g2, d2, t2, os'⟩ := s'
        exact ⟨rv, mk_end (raises_own T.exC T.tyC) I1 hsz kk un2 hok2 os2 bare2 ea ed hd1 q2⟩
      | next => exact False.elim hq'
      | brk => exact False.elim hq'
      | cont => exact False.elim hq'
/-- c(a = e) -/
theorem ce_excK {e : Expr} {ca : EC} {kpos : Pos} (B : Bd X k E) (T : ExcTK X.prog X.w X.K X.mg X.base c f a) (he : CE X w E e ca) (hk : 2 ≤ k := by decide) (hg : Gl X c := by rfl)
    (hall : (backToKw pos (keywordEach [⟨some a, e, kpos⟩] X.env)).all (·.1.isSome) = true := by rfl) (hks : (backToKw pos (keywordEach [⟨some a, e, kpos⟩] X.env)).filterMap (·.1) = [a] := by rfl) (hdb : (c == ("__debug__" : Str)) = false := by decide)
    (hpl : ((backTo pos (starEach [] X.env)).any (·.1) || (backToKw pos (keywordEach [⟨some a, e, kpos⟩] X.env)).any (·.1.isNone)) = false := by rfl) :
    CE X w E (.Call (.Name c p1) [] [⟨some a, e, kpos⟩] pos) (cExD c f ca) := by
  obtain ⟨C, fI, fd, hm, T1, iC, tI, _, hb, F1⟩ := T.ex
  refine ⟨peImp (pe_ofMk (pmk_oexK T1 iC tI F1 (B.hr.mono hk) hb passes_false hg hm (pk_cons he.pe pk_nil) hall hks hdb hpl)) fun σ H Q h => ?_⟩
  obtain ⟨H0, Z0, r, Z, o, R, h⟩ := h
  refine evSeq (P := fun H Z => Post X.km w H Z Q) (PX := fun _ => True) R (fun g => Post.weak g) h fun x H1 Z1 t R1 g1 t1 h1 => ⟨by show 1 ≤ 1000; omega, fun q hq => ?_⟩
  refine ⟨q, x, rfl, upd_same, fun dx hdx ne => ?_⟩
  have hd1 : H1 dx = none := by rw [upd_ne ne] at hdx; exact hdx
  refine ⟨rfl, dx, [(f, x)], upd_same, ?_, hd1, ?_⟩
  · rw [upd_ne ne, upd_same]
  have eH : upd (L2.del (upd (upd (upd H1 q (exo q C none)) dx (exd dx [(f, x)])) q (exo q C (some dx))) q) dx (.xd [(f, x)]) = upd H1 dx (.xd [(f, x)]) := by
    funext b
    by_cases hb1 : b = dx
    · rw [hb1, upd_same, upd_same]
    · rw [upd_ne hb1, upd_ne hb1]
      by_cases hb2 : b = q
      · rw [hb2, del_same, hq]
      · rw [del_ne hb2, upd_ne hb2, upd_ne hb1, upd_ne hb2]
  rw [eH]
  refine ⟨C, rfl, fun a ha => ?_⟩
  have g2 := Grow.laidF (o := .xd [(f, x)]) R1.good hd1
  have g3 := Grow.laidF (o := excV C (some dx) a) g2.good ha
  have hne : dx ≠ a := fun z => by rw [← z, upd_same] at ha; cases ha
  refine h1 _ _ _ (g2.trans g3) (.excD hm upd_same ?_ (.cons ((t1.mono g2.zz).mono g3.zz) .nil))
  rw [upd_ne hne, upd_same]
end
section
variable {K : PySem.W.Frag} {mg : Str → Option Value} {h : Heap} {c f x qual : Str} {C D fI cda cc : Addr} {st : Stmt} {ps : List Str}
theorem excTK_mk {P : Program} {wd : World} {base : Heap} {a file : Str} {nm q nm0 : Str} {N : Addr} {bs bm : List Value} {sn sub ab col dd k0 k1 k2 k3 k5 : _} {oc kV doc pm ct : Value} {od an : Option Addr} {osl : Array (Option Value)} {ccl : Value} {cdd : Option Addr} {vs : Array Value} {ccs : Array (Option Value)} {tf : Tok} {cl : Value} {cld : Option Addr} {csl : Array (Option Value)} {cdD : ClassData}
    (KX : K.In h) (G : h.Ns mainGlobals mg) (ac : PySem.W.nsIn K mainGlobals c = some (some (.ref C))) (lC : K.lookup C = some (excClassObj nm q C N bs bm true sn sub ab col dd k0 k1 k2 k3 k5 "ValueError.__new__")) (hbm : PySem.HandSPX.refsVE bm = true)
    (sa : PySem.W.findIn K (.ref C) "__setattr__" = some (some (.builtin "object.__setattr__"))) (exC : PySem.W.subIn K (.ref C) (.type "BaseException") = some true) (tyC : PySem.W.typeIn K (.ref C) = some (.type "type")) (kC : PySem.W.keepIn K (.ref C) = true)
    (iC : PySem.W.findIn K (.ref C) "__init__" = some (some (.ref fI))) (tI : PySem.W.typeIn K (.ref fI) = some (.type "function")) (l : K.lookup fI = some ⟨oc, od, .func (PySem.W.ksFn nm0 qual (defArgs st) (defBody st) (defScope st) .none kV doc pm an (.ref cda) ct cc), osl⟩)
    (hb : ∀ (kV doc pm : Value) (an : Option Addr) (ct : Value) (cda cc : Addr) (us : List Value), us.length = 2 → bindArgs (PySem.W.ksFn nm0 qual (defArgs st) (defBody st) (defScope st) .none kV doc pm an (.ref cda) ct cc) ⟨us, []⟩ = pure ([("self" : Str), a].zip us))
    (hkw : ∀ (kV doc pm : Value) (an : Option Addr) (ct : Value) (cda cc : Addr) (v u : Value), bindArgs (PySem.W.ksFn nm0 qual (defArgs st) (defBody st) (defScope st) .none kV doc pm an (.ref cda) ct cc) ⟨[v], [(a, u)]⟩ = pure [(("self" : Str), v), (a, u)])
    (cd : PySem.W.codeIn K (.ref cda) qual = true) (lc : K.lookup cda = some ⟨ccl, cdd, .fields vs, ccs⟩) (hv : vs[2]? = some (.str file tf)) (le : K.lookup cc = some ⟨cl, cld, .cell (some (.ref C)), csl⟩) (cC : PySem.W.clsIn K C = some cdD)
    (S1 : (defScope st).kind = .function) (S2 : (defScope st).isCoroutine = false) (S3 : (defScope st).isGenerator = false) (S4 : ((defScope st).names.all fun y => !decide (y.2 = .cell) && (!decide (y.2 = .free) || decide (y.1 = "__class__"))) = true) (S5 : (defScope st).names.lookup ("__class__" : Str) = some .free) (S6 : (defScope st).names.lookup ("super" : Str) = some .globalImplicit)
    (S7 : (defScope st).names.lookup ("self" : Str) = some .local) (S8 : (defScope st).names.lookup a = some .local) (S9 : a ≠ ("self" : Str))
    (ei : PySem.W.excInitIn K C [.type "ValueError", .type "Exception", .type "BaseException", .type "object"] "ValueError.__new__" = true) (mr : PySem.W.mroIn K C (.ref C) = some true) (su : PySem.W.ks_superIn K C C "__init__" = some (some (.builtin "ValueError.__init__"))) (ve : PySem.W.subIn K (.ref C) (.type "ValueError") = some true) (no : PySem.W.findIn K (.ref C) f = some none) (ta : PySem.W.nsIn K cStatics "thirdparty.any" = some none)
    (B : SupB P (defArgs st) (defScope st) a f file (defBody st) qual) (hms : mg "super" = none) : ExcTK P wd K mg base c f a := by
  have OX : OexC K C := ⟨⟨nm, q, N, bs, bm, sn, sub, ab, col, dd, k0, k1, k2, k3, k5, lC, hbm⟩, sa, exC, tyC, kC⟩
  have SF : SupF K file fI C cc qual (defArgs st) (defBody st) (defScope st) (PySem.W.ksFn nm0 qual (defArgs st) (defBody st) (defScope st) .none kV doc pm an (.ref cda) ct cc) cda := ⟨⟨nm0, oc, od, osl, .none, kV, doc, pm, an, ct, rfl, l⟩, cd, ⟨ccl, cdd, vs, ccs, tf, lc, hv⟩, ⟨cl, cld, csl, le⟩, ⟨cdD, cC⟩⟩
  have nm1 : ∀ y ∈ (defScope st).names, y.2 ≠ .cell ∧ (y.2 = .free → y.1 = "__class__") := fun y hy => by
    have z := List.all_eq_true.mp S4 y hy
    simp only [Bool.and_eq_true, Bool.or_eq_true, Bool.not_eq_true', decide_eq_true_eq, decide_eq_false_iff_not] at z
    exact ⟨z.1, fun e => z.2.elim (fun n => absurd e n) id⟩
  have SN : SupS (defScope st) a := ⟨S1, S2, S3, fun y hy => (nm1 y hy).1, fun y e => (nm1 _ (PySem.mem_of_lookup e)).2 rfl, S5, S6, S7, S8, S9⟩
  have SK : SupK K C C f := ⟨OX, ⟨_, ei, F.excBase_ValueError⟩, mr, su, ve, no, ta⟩
  exact ⟨C, fI, _, PySem.W.mg_of KX G ac, OX, iC, tI, .all fun us hl => hb kV doc pm an ct cda cc us hl, fun s v u => .of_eq (hkw kV doc pm an ct cda cc v u), sup_ok (k := 0) SF SN SK B hms⟩
end
end TL
end s_TL173
section s_G01
set_option Elab.async false
set_option linter.all false
set_option maxRecDepth 100000
set_option maxHeartbeats 4000000
namespace LW
open PySem PySem.Spec PyProof.Rows L2 TL
def topS (i : Nat) : Stmt := PySem.Challenge.pw_saidagain_k01_errors_by_hand.main.body.getD i (.Pass ⟨0, 0, 0, 0⟩)
abbrev s_BadRule___init__ : Stmt := inBody (clsBody (topS 2)) 0
abbrev s_BadCourse___init__ : Stmt := inBody (clsBody (topS 5)) 0
abbrev s_BadNumber___init__ : Stmt := inBody (clsBody (topS 9)) 0
abbrev s_BadLog___init__ : Stmt := inBody (clsBody (topS 10)) 0
abbrev s_BadJournal___init__ : Stmt := inBody (clsBody (topS 13)) 0
abbrev s_BadText___init__ : Stmt := inBody (clsBody (topS 14)) 0
abbrev s__law_begin : Stmt := topS 16
theorem sc__law_begin : FnScope ["_law_script", "_law_great", "_law_cell"] ["_law_script"] (defScope s__law_begin) := ⟨rfl, rfl, rfl, by decide +kernel, rfl, by decide +kernel, by decide +kernel⟩
abbrev s__law_blend : Stmt := topS 17
theorem sc__law_blend : FnScope ["_law_draw", "_law_turn", "_law_found", "_law_prime", "_law_blend_here", "_law_cell"] ["_law_draw"] (defScope s__law_blend) := ⟨rfl, rfl, rfl, by decide +kernel, rfl, by decide +kernel, by decide +kernel⟩
abbrev s__law_take : Stmt := topS 19
theorem sc__law_take : FnScope ["_law_draw", "_law_size", "_law_found"] ["_law_draw", "_law_size"] (defScope s__law_take) := ⟨rfl, rfl, rfl, by decide +kernel, rfl, by decide +kernel, by decide +kernel⟩
abbrev s__law_pick : Stmt := topS 18
theorem sc__law_pick : FnScope ["_law_draw", "_law_some"] ["_law_draw", "_law_some"] (defScope s__law_pick) := ⟨rfl, rfl, rfl, by decide +kernel, rfl, by decide +kernel, by decide +kernel⟩
section
variable {P : Program} {wd : World} {K : PySem.W.Frag} {mg : Str → Option Value} {base : Heap}
theorem ok_law_blend (A : FunAt K mg "_law_blend" "_law_blend" s__law_blend ["_law_draw"]) (m_int : mg "int" = none) : CallT P wd K mg base 1 "_law_blend" 1 fBlend := by
  refine CallG.imp (fn_at (k := 0) (c := c_law_blend) A sc__law_blend fun f cdv A outer s H w E B => ?_) (SpT.le blend_le)
  unfold c_law_blend
  exact css_cons (cs_set 1 sc__law_blend.nd (ce_op o_add t2_add (ce_dr 0 (.inr rfl) B.hr) ce_int))
    (css_cons (cs_drPut 0 (.inr rfl) (hu_of B.hr) (ce_var 1))
    (css_cons (cs_set 2 sc__law_blend.nd ce_int)
    (css_cons (cs_for B.po (ci_any (cf_lst (ca_cons ce_int (ca_cons ce_int (ca_cons ce_int (ca_cons ce_int ca_nil)))) (len_cons (len_cons (len_cons (len_cons len_nil))))).ce) (cg_name 3 sc__law_blend.nd)
      (css_cons (cs_set 4 sc__law_blend.nd (ce_op op_mod t2_mod (ce_callTy call_int1 tn_int (by rfl) m_int (by rfl) (ca_cons (ce_op o_add t2_add (ce_op op_mul t2_mul (ce_var 1) ce_int) (ce_op op_fdiv t2_div (ce_var 3) ce_int)) ca_nil)) (ce_var 3)))
      (css_cons (cs_for B.po (ci_drCells 0 B.hr) (cg_name 5 sc__law_blend.nd) (css_one (cs_set 4 sc__law_blend.nd (ce_op op_mod t2_mod (ce_callTy call_int1 tn_int (by rfl) m_int (by rfl) (ca_cons (ce_op o_add t2_add (ce_op op_mul t2_mul (ce_var 4) ce_int) (ce_var 5)) ca_nil)) (ce_var 3)))))
      (css_one (cs_set 2 sc__law_blend.nd (ce_op o_add t2_add (ce_op op_mul t2_mul (ce_var 2) ce_int) (ce_op op_mod t2_mod (ce_callTy call_int1 tn_int (by rfl) m_int (by rfl) (ca_cons (ce_op op_pow t2_pow (ce_var 4) ce_int) ca_nil)) (ce_var 3))))))))
    (css_one (cs_ret (ce_var 2))))))
theorem ok_law_take (A : FunAt K mg "_law_take" "_law_take" s__law_take ["_law_draw", "_law_size"]) (m_int : mg "int" = none) (C : CallT P wd K mg base 1 "_law_blend" 1 fBlend) : CallT P wd K mg base 2 "_law_take" 2 fTake := by
  refine CallG.imp (fn_at (k := 1) (c := c_law_take) A sc__law_take fun f cdv A outer s H w E B => ?_) (SpT.le take_le)
  unfold c_law_take
  exact css_cons (cs_drIf 0 B.hr)
    (css_cons (cs_if (ct_cmp (o_eq B.hr) t2_eq (ce_dr 0 (.inl rfl) B.hr) ce_int) (css_one (cs_drPut 0 (.inl rfl) (hu_of B.hr) (ce_fn B C (ca_cons (ce_var 0) ca_nil) (len_cons len_nil)))) css_nil)
    (css_cons (cs_set 2 sc__law_take.nd (ce_op op_mod t2_mod (ce_callTy call_int1 tn_int (by rfl) m_int (by rfl) (ca_cons (ce_dr 0 (.inl rfl) B.hr) ca_nil)) (ce_var 1)))
    (css_cons (cs_drPut 0 (.inl rfl) (hu_of B.hr) (ce_op op_fdiv t2_div (ce_dr 0 (.inl rfl) B.hr) (ce_var 1)))
    (css_one (cs_ret (ce_var 2))))))
theorem ok_law_pick (A : FunAt K mg "_law_pick" "_law_pick" s__law_pick ["_law_draw", "_law_some"]) (m_len : mg "len" = none) (C : CallT P wd K mg base 2 "_law_take" 2 fTake) : CallT P wd K mg base 3 "_law_pick" 2 (runB c_law_pick 2) := by
  refine fn_at (k := 2) (c := c_law_pick) A sc__law_pick fun f cdv A outer s H w E B => ?_
  unfold c_law_pick
  exact css_one (cs_ret (ce_ix (o_ixB B.hr) t2_ix (ce_var 1) (ce_fn B C (ca_cons (ce_var 0) (ca_cons (ce_callB o_lenB tn_len (by rfl) m_len (by rfl) (ca_cons (ce_var 1) ca_nil)) ca_nil)) (len_cons (len_cons len_nil)))))
theorem ok_law_begin (A : FunAt K mg "_law_begin" "_law_begin" s__law_begin ["_law_script"]) (m_abs : mg "abs" = none) : CallG P wd K mg base 1 "_law_begin" (SpBegin K) := by
  obtain ⟨f, fd, hm, hk, F, hb⟩ := A.ex
  refine ⟨f, fd, ["_law_script"], hm, hk, hb, fn_begin (k := 0) (c1 := c_begin1) (cc := c_begin2) F sc__law_begin rfl rfl (fun w cdv A outer s H E gd hr => ⟨?_, ?_⟩) fun ns hl => begin_wp ns hl⟩
  · unfold c_begin1
    exact cs_setComp (own := [("_law_cell", 2)]) sc__law_begin.nd (by rfl) (ci_any (ce_var 0)) (blkOk_by (by rfl)) (fun s H C cl fp => cg_name 2 sc__law_begin.nd)
      (fun s H C cl fp => cts_one (ct_cmp op_ge (t2_int fun _ _ _ => .bl _) (ce_callB call_abs tn_abs (by rfl) m_abs (by rfl) (ca_cons (ce_var 2) ca_nil)) (ce_op op_pow t2_pow ce_int ce_int)))
      (fun s H C cl fp => ce_op op_sub (t2_int fun _ _ _ => .int _) (ce_callB call_abs tn_abs (by rfl) m_abs (by rfl) (ca_cons (ce_var 2) ca_nil)) (ce_op op_pow t2_pow ce_int ce_int))
  · unfold c_begin2
    exact ps_beg 1 (cf_comp (own := [("_law_cell", 2)]) sc__law_begin.nd (ci_any (ce_var 0)) (blkOk_by (by rfl)) (fun s H C cl fp => cg_name 2 sc__law_begin.nd)
      (fun s H C cl fp => cts_nil) (fun s H C cl fp => ce_callB call_abs tn_abs (by rfl) m_abs (by rfl) (ca_cons (ce_var 2) ca_nil)))
end

abbrev s__law_plain : Stmt := topS 22
theorem sc__law_plain : FnScope ["_law_page", "_law_some"] ["_law_page"] (defScope s__law_plain) := ⟨rfl, rfl, rfl, by decide +kernel, rfl, by decide +kernel, by decide +kernel⟩
@[irreducible] def c__law_plain : SC := (cSeq (cSet 1 (cLst (caCons (cTup (caCons (cC (.int 1)) (caCons (cExS "BadKey" (cVar 0)) caNil))) (caCons (cTup (caCons (cC (.int 2)) (caCons (cExS "BadMemory" (cVar 0)) caNil))) (caCons (cTup (caCons (cC (.int 4)) (caCons (cExS "BadShape" (cVar 0)) caNil))) (caCons (cTup (caCons (cC (.int 5)) (caCons (cExS "BadWish" (cVar 0)) caNil))) (caCons (cTup (caCons (cC (.int 6)) (caCons (cExS "BadWishes" (cVar 0)) caNil))) caNil)))))))
  (cRet (cOp2 fAdd (cVar 1) (cLst (caCons (cTup (caCons (cC (.int 9)) (caCons (cExS "BadRules" (cVar 0)) caNil))) (caCons (cTup (caCons (cC (.int 10)) (caCons (cExS "NothingDone" (cVar 0)) caNil))) (caCons (cTup (caCons (cC (.int 99)) (caCons (cExS "LogError" (cVar 0)) caNil))) caNil)))))))
theorem bd__law_plain {P : Program} {wd : World} {K : PySem.W.Frag} {mg : Str → Option Value} {base : Heap} (ex_BadWishes : ExcT0 K mg "BadWishes") (ex_BadWish : ExcT0 K mg "BadWish") (ex_BadShape : ExcT0 K mg "BadShape") (ex_BadMemory : ExcT0 K mg "BadMemory") (ex_BadKey : ExcT0 K mg "BadKey") (ex_LogError : ExcT0 K mg "LogError") (ex_NothingDone : ExcT0 K mg "NothingDone") (ex_BadRules : ExcT0 K mg "BadRules") : ∀ (f : Addr) (cdv : Value) (A : Around) (outer : List Env) (s : Shared) (H : Hp) (w : Wd) (E : XK), Bd (bx P wd K mg base ["_law_page", "_law_some"] "_law_plain" s__law_plain f cdv A outer s H E) 0 E → CSs (bx P wd K mg base ["_law_page", "_law_some"] "_law_plain" s__law_plain f cdv A outer s H E) w E false (defBody s__law_plain) c__law_plain := by
  intro f cdv A outer s H w E B
  unfold c__law_plain
  exact (css_cons (cs_set 1 sc__law_plain.nd (CF.ce (cf_lst (ca_cons (ce_tup (ca_cons ce_int (ca_cons (ce_excS ex_BadKey (ce_var 0)) ca_nil)) (len_cons (len_cons len_nil))) (ca_cons (ce_tup (ca_cons ce_int (ca_cons (ce_excS ex_BadMemory (ce_var 0)) ca_nil)) (len_cons (len_cons len_nil))) (ca_cons (ce_tup (ca_cons ce_int (ca_cons (ce_excS ex_BadShape (ce_var 0)) ca_nil)) (len_cons (len_cons len_nil))) (ca_cons (ce_tup (ca_cons ce_int (ca_cons (ce_excS ex_BadWish (ce_var 0)) ca_nil)) (len_cons (len_cons len_nil))) (ca_cons (ce_tup (ca_cons ce_int (ca_cons (ce_excS ex_BadWishes (ce_var 0)) ca_nil)) (len_cons (len_cons len_nil))) ca_nil))))) (len_cons (len_cons (len_cons (len_cons (len_cons len_nil))))))))
  (css_one (cs_ret (ce_op o_add t2_add (ce_var 1) (CF.ce (cf_lst (ca_cons (ce_tup (ca_cons ce_int (ca_cons (ce_excS ex_BadRules (ce_var 0)) ca_nil)) (len_cons (len_cons len_nil))) (ca_cons (ce_tup (ca_cons ce_int (ca_cons (ce_excS ex_NothingDone (ce_var 0)) ca_nil)) (len_cons (len_cons len_nil))) (ca_cons (ce_tup (ca_cons ce_int (ca_cons (ce_excS ex_LogError (ce_var 0)) ca_nil)) (len_cons (len_cons len_nil))) ca_nil))) (len_cons (len_cons (len_cons len_nil)))))))))
theorem ok__law_plain {P : Program} {wd : World} {K : PySem.W.Frag} {mg : Str → Option Value} {base : Heap} (A : FunAt K mg "_law_plain" "_law_plain" s__law_plain ["_law_page"]) (ex_BadWishes : ExcT0 K mg "BadWishes") (ex_BadWish : ExcT0 K mg "BadWish") (ex_BadShape : ExcT0 K mg "BadShape") (ex_BadMemory : ExcT0 K mg "BadMemory") (ex_BadKey : ExcT0 K mg "BadKey") (ex_LogError : ExcT0 K mg "LogError") (ex_NothingDone : ExcT0 K mg "NothingDone") (ex_BadRules : ExcT0 K mg "BadRules") : CallT P wd K mg base 1 "_law_plain" 1 (runB c__law_plain 2) :=
  fn_at (k := 0) (c := c__law_plain) A sc__law_plain (bd__law_plain ex_BadWishes ex_BadWish ex_BadShape ex_BadMemory ex_BadKey ex_LogError ex_NothingDone ex_BadRules)
abbrev s__law_with_fields : Stmt := topS 23
theorem sc__law_with_fields : FnScope ["_law_item", "_law_done", "_law_some", "_law_error", "_law_k"] ["_law_item"] (defScope s__law_with_fields) := ⟨rfl, rfl, rfl, by decide +kernel, rfl, by decide +kernel, by decide +kernel⟩
@[irreducible] def c__law_with_fields : SC := (cSeq (cSeqFrz 1 (cSetO 1 (cComp (fun r => (cLst (caCons (cExD "BadRule" "part" (cVar 0)) (caCons (cExD "BadRule" "part" (cVar 0)) caNil))) r >>= anyOf) (gcName 3) (fun _ => .ret true) (cTup (caCons (cC (.int 0)) (caCons (cVar 3) (caCons (cOp1 (fXf ["BadRule"] "part") (cVar 3)) caNil)))) [3])))
  (cSeq (cSet 2 (cLst (caCons (cExD "BadCourse" "at" (cVar 0)) (caCons (cExD "BadCourse" "at" (cVar 0)) (caCons (cExD "BadLog" "at" (cVar 0)) (caCons (cExD "BadLog" "at" (cVar 0)) (caCons (cExD "BadJournal" "at" (cVar 0)) (caCons (cExD "BadJournal" "at" (cVar 0)) caNil))))))))
  (cSeq (cSet 1 (cOp2 fAdd (cVar 1) (cComp (fun r => (caCons (cVar 2) caNil) r >>= enumOf) (gcTup 2 (gcsCons (gcName 4) (gcsCons (gcName 3) gcsNil))) (fun _ => .ret true) (cTup (caCons (cOp2 fIx (cLst (caCons (cC (.int 3)) (caCons (cC (.int 8)) (caCons (cC (.int 11)) caNil)))) (cOp2 fDivI (cVar 4) (cC (.int 2)))) (caCons (cVar 3) (caCons (cOp1 (fXf ["BadCourse", "BadLog", "BadJournal"] "at") (cVar 3)) caNil)))) [4, 3])))
  (cSeq (cSet 1 (cOp2 fAdd (cVar 1) (cComp (fun r => (cLst (caCons (cExD "BadNumber" "number" (cVar 0)) (caCons (cExD "BadNumber" "number" (cVar 0)) caNil))) r >>= anyOf) (gcName 3) (fun _ => .ret true) (cTup (caCons (cC (.int 7)) (caCons (cVar 3) (caCons (cOp1 (fXf ["BadNumber"] "number") (cVar 3)) caNil)))) [3])))
  (cRet (cOp2 fAdd (cVar 1) (cComp (fun r => (cLst (caCons (cExD "BadText" "line" (cVar 0)) (caCons (cExD "BadText" "line" (cVar 0)) caNil))) r >>= anyOf) (gcName 3) (fun _ => .ret true) (cTup (caCons (cC (.int 12)) (caCons (cVar 3) (caCons (cOp1 (fXf ["BadText"] "line") (cVar 3)) caNil)))) [3])))))))
theorem bd__law_with_fields {P : Program} {wd : World} {K : PySem.W.Frag} {mg : Str → Option Value} {base : Heap} (ex_BadRule : ExcTK P wd K mg base "BadRule" "part" "part") (xf_part : ExF K mg "part" ["BadRule"]) (ex_BadJournal : ExcTK P wd K mg base "BadJournal" "at" "at") (ex_BadLog : ExcTK P wd K mg base "BadLog" "at" "at") (ex_BadCourse : ExcTK P wd K mg base "BadCourse" "at" "at") (m_enumerate : mg "enumerate" = none) (xf_at : ExF K mg "at" ["BadCourse", "BadLog", "BadJournal"]) (ex_BadNumber : ExcTK P wd K mg base "BadNumber" "number" "number") (xf_number : ExF K mg "number" ["BadNumber"]) (ex_BadText : ExcTK P wd K mg base "BadText" "line" "line") (xf_line : ExF K mg "line" ["BadText"]) : ∀ (f : Addr) (cdv : Value) (A : Around) (outer : List Env) (s : Shared) (H : Hp) (w : Wd) (E : XK), Bd (bx P wd K mg base ["_law_item", "_law_done", "_law_some", "_law_error", "_law_k"] "_law_with_fields" s__law_with_fields f cdv A outer s H E) 2 E → CSs (bx P wd K mg base ["_law_item", "_law_done", "_law_some", "_law_error", "_law_k"] "_law_with_fields" s__law_with_fields f cdv A outer s H E) w E false (defBody s__law_with_fields) c__law_with_fields := by
  intro f cdv A outer s H w E B
  unfold c__law_with_fields
  exact (css_cons (cs_thenFrz 1 (cs_setComp (own := [("_law_error", 3)]) sc__law_with_fields.nd (by rfl) (ci_any (CF.ce (cf_lst (ca_cons (ce_excD B ex_BadRule.t (ce_var 0)) (ca_cons (ce_excK B ex_BadRule (ce_var 0)) ca_nil)) (len_cons (len_cons len_nil))))) (blkOk_by (by rfl)) (fun s H C cl fp => (cg_name 3 sc__law_with_fields.nd)) (fun s H C cl fp => cts_nil) (fun s H C cl fp => (ce_tup (ca_cons ce_int (ca_cons (ce_var 3) (ca_cons (ce_xf xf_part (ce_var 3)) ca_nil))) (len_cons (len_cons (len_cons len_nil)))))))
  (css_cons (cs_set 2 sc__law_with_fields.nd (CF.ce (cf_lst (ca_cons (ce_excD B ex_BadCourse.t (ce_var 0)) (ca_cons (ce_excK B ex_BadCourse (ce_var 0)) (ca_cons (ce_excD B ex_BadLog.t (ce_var 0)) (ca_cons (ce_excK B ex_BadLog (ce_var 0)) (ca_cons (ce_excD B ex_BadJournal.t (ce_var 0)) (ca_cons (ce_excK B ex_BadJournal (ce_var 0)) ca_nil)))))) (len_cons (len_cons (len_cons (len_cons (len_cons (len_cons len_nil)))))))))
  (css_cons (cs_set 1 sc__law_with_fields.nd (ce_op o_add t2_add (ce_var 1) (CF.ce (cf_comp (own := [("_law_k", 4), ("_law_error", 3)]) sc__law_with_fields.nd (ci_enum (by rfl) m_enumerate (ca_cons (ce_var 2) ca_nil)) (blkOk_by (by rfl)) (fun s H C cl fp => (cg_tup (cgs_cons (cg_name 4 sc__law_with_fields.nd) (cgs_cons (cg_name 3 sc__law_with_fields.nd) cgs_nil)))) (fun s H C cl fp => cts_nil) (fun s H C cl fp => (ce_tup (ca_cons (ce_ix (o_ixB (B.blk s H _ _ fp).hr) t2_ix (CF.ce (cf_lst (ca_cons ce_int (ca_cons ce_int (ca_cons ce_int ca_nil))) (len_cons (len_cons (len_cons len_nil))))) (ce_op op_fdiv t2_div (ce_var 4) ce_int)) (ca_cons (ce_var 3) (ca_cons (ce_xf xf_at (ce_var 3)) ca_nil))) (len_cons (len_cons (len_cons len_nil)))))))))
  (css_cons (cs_set 1 sc__law_with_fields.nd (ce_op o_add t2_add (ce_var 1) (CF.ce (cf_comp (own := [("_law_error", 3)]) sc__law_with_fields.nd (ci_any (CF.ce (cf_lst (ca_cons (ce_excD B ex_BadNumber.t (ce_var 0)) (ca_cons (ce_excK B ex_BadNumber (ce_var 0)) ca_nil)) (len_cons (len_cons len_nil))))) (blkOk_by (by rfl)) (fun s H C cl fp => (cg_name 3 sc__law_with_fields.nd)) (fun s H C cl fp => cts_nil) (fun s H C cl fp => (ce_tup (ca_cons ce_int (ca_cons (ce_var 3) (ca_cons (ce_xf xf_number (ce_var 3)) ca_nil))) (len_cons (len_cons (len_cons len_nil)))))))))
  (css_one (cs_ret (ce_op o_add t2_add (ce_var 1) (CF.ce (cf_comp (own := [("_law_error", 3)]) sc__law_with_fields.nd (ci_any (CF.ce (cf_lst (ca_cons (ce_excD B ex_BadText.t (ce_var 0)) (ca_cons (ce_excK B ex_BadText (ce_var 0)) ca_nil)) (len_cons (len_cons len_nil))))) (blkOk_by (by rfl)) (fun s H C cl fp => (cg_name 3 sc__law_with_fields.nd)) (fun s H C cl fp => cts_nil) (fun s H C cl fp => (ce_tup (ca_cons ce_int (ca_cons (ce_var 3) (ca_cons (ce_xf xf_line (ce_var 3)) ca_nil))) (len_cons (len_cons (len_cons len_nil))))))))))))))
theorem ok__law_with_fields {P : Program} {wd : World} {K : PySem.W.Frag} {mg : Str → Option Value} {base : Heap} (A : FunAt K mg "_law_with_fields" "_law_with_fields" s__law_with_fields ["_law_item"]) (ex_BadRule : ExcTK P wd K mg base "BadRule" "part" "part") (xf_part : ExF K mg "part" ["BadRule"]) (ex_BadJournal : ExcTK P wd K mg base "BadJournal" "at" "at") (ex_BadLog : ExcTK P wd K mg base "BadLog" "at" "at") (ex_BadCourse : ExcTK P wd K mg base "BadCourse" "at" "at") (m_enumerate : mg "enumerate" = none) (xf_at : ExF K mg "at" ["BadCourse", "BadLog", "BadJournal"]) (ex_BadNumber : ExcTK P wd K mg base "BadNumber" "number" "number") (xf_number : ExF K mg "number" ["BadNumber"]) (ex_BadText : ExcTK P wd K mg base "BadText" "line" "line") (xf_line : ExF K mg "line" ["BadText"]) : CallT P wd K mg base 3 "_law_with_fields" 1 (runB c__law_with_fields 5) :=
  fn_at (k := 2) (c := c__law_with_fields) A sc__law_with_fields (bd__law_with_fields ex_BadRule xf_part ex_BadJournal ex_BadLog ex_BadCourse m_enumerate xf_at ex_BadNumber xf_number ex_BadText xf_line)
abbrev s__law_marks : Stmt := topS 20
theorem sc__law_marks : FnScope ["_law_error", "_law_some"] ["_law_error"] (defScope s__law_marks) := ⟨rfl, rfl, rfl, by decide +kernel, rfl, by decide +kernel, by decide +kernel⟩
@[irreducible] def c__law_marks : SC := (cSeq (cSet 1 (cLst (caCons (cOp1 (fIsX [("LogError", false), ("BadRule", true), ("BadKey", false), ("BadMemory", false), ("BadCourse", false), ("BadShape", false), ("BadWish", false), ("BadWishes", false), ("BadNumber", false), ("BadLog", false), ("BadRules", false), ("NothingDone", false), ("BadJournal", false), ("BadText", false)]) (cVar 0)) (caCons (cOp1 (fIsX [("LogError", false), ("BadRule", false), ("BadKey", true), ("BadMemory", false), ("BadCourse", false), ("BadShape", false), ("BadWish", false), ("BadWishes", false), ("BadNumber", false), ("BadLog", false), ("BadRules", false), ("NothingDone", false), ("BadJournal", false), ("BadText", false)]) (cVar 0)) (caCons (cOp1 (fIsX [("LogError", false), ("BadRule", false), ("BadKey", false), ("BadMemory", true), ("BadCourse", false), ("BadShape", false), ("BadWish", false), ("BadWishes", false), ("BadNumber", false), ("BadLog", false), ("BadRules", false), ("NothingDone", false), ("BadJournal", false), ("BadText", false)]) (cVar 0)) caNil)))))
  (cSeq (cSet 1 (cOp2 fAdd (cVar 1) (cLst (caCons (cOp1 (fIsX [("LogError", false), ("BadRule", false), ("BadKey", false), ("BadMemory", false), ("BadCourse", true), ("BadShape", false), ("BadWish", false), ("BadWishes", false), ("BadNumber", false), ("BadLog", false), ("BadRules", false), ("NothingDone", false), ("BadJournal", false), ("BadText", false)]) (cVar 0)) (caCons (cOp1 (fIsX [("LogError", false), ("BadRule", false), ("BadKey", false), ("BadMemory", false), ("BadCourse", false), ("BadShape", true), ("BadWish", false), ("BadWishes", false), ("BadNumber", false), ("BadLog", false), ("BadRules", false), ("NothingDone", false), ("BadJournal", false), ("BadText", false)]) (cVar 0)) (caCons (cOp1 (fIsX [("LogError", false), ("BadRule", false), ("BadKey", false), ("BadMemory", false), ("BadCourse", false), ("BadShape", false), ("BadWish", true), ("BadWishes", false), ("BadNumber", false), ("BadLog", false), ("BadRules", false), ("NothingDone", false), ("BadJournal", false), ("BadText", false)]) (cVar 0)) caNil))))))
  (cSeq (cSet 1 (cOp2 fAdd (cVar 1) (cLst (caCons (cOp1 (fIsX [("LogError", false), ("BadRule", false), ("BadKey", false), ("BadMemory", false), ("BadCourse", false), ("BadShape", false), ("BadWish", false), ("BadWishes", true), ("BadNumber", false), ("BadLog", false), ("BadRules", false), ("NothingDone", false), ("BadJournal", false), ("BadText", false)]) (cVar 0)) (caCons (cOp1 (fIsX [("LogError", false), ("BadRule", false), ("BadKey", false), ("BadMemory", false), ("BadCourse", false), ("BadShape", false), ("BadWish", false), ("BadWishes", false), ("BadNumber", true), ("BadLog", false), ("BadRules", false), ("NothingDone", false), ("BadJournal", false), ("BadText", false)]) (cVar 0)) (caCons (cOp1 (fIsX [("LogError", false), ("BadRule", false), ("BadKey", false), ("BadMemory", false), ("BadCourse", false), ("BadShape", false), ("BadWish", false), ("BadWishes", false), ("BadNumber", false), ("BadLog", true), ("BadRules", false), ("NothingDone", false), ("BadJournal", false), ("BadText", false)]) (cVar 0)) caNil))))))
  (cSeq (cSet 1 (cOp2 fAdd (cVar 1) (cLst (caCons (cOp1 (fIsX [("LogError", false), ("BadRule", false), ("BadKey", false), ("BadMemory", false), ("BadCourse", false), ("BadShape", false), ("BadWish", false), ("BadWishes", false), ("BadNumber", false), ("BadLog", false), ("BadRules", true), ("NothingDone", false), ("BadJournal", false), ("BadText", false)]) (cVar 0)) (caCons (cOp1 (fIsX [("LogError", false), ("BadRule", false), ("BadKey", false), ("BadMemory", false), ("BadCourse", false), ("BadShape", false), ("BadWish", false), ("BadWishes", false), ("BadNumber", false), ("BadLog", false), ("BadRules", false), ("NothingDone", true), ("BadJournal", false), ("BadText", false)]) (cVar 0)) (caCons (cOp1 (fIsX [("LogError", false), ("BadRule", false), ("BadKey", false), ("BadMemory", false), ("BadCourse", false), ("BadShape", false), ("BadWish", false), ("BadWishes", false), ("BadNumber", false), ("BadLog", false), ("BadRules", false), ("NothingDone", false), ("BadJournal", true), ("BadText", false)]) (cVar 0)) caNil))))))
  (cRet (cOp2 fAdd (cVar 1) (cLst (caCons (cOp1 (fIsX [("LogError", false), ("BadRule", false), ("BadKey", false), ("BadMemory", false), ("BadCourse", false), ("BadShape", false), ("BadWish", false), ("BadWishes", false), ("BadNumber", false), ("BadLog", false), ("BadRules", false), ("NothingDone", false), ("BadJournal", false), ("BadText", true)]) (cVar 0)) caNil))))))))
theorem bd__law_marks {P : Program} {wd : World} {K : PySem.W.Frag} {mg : Str → Option Value} {base : Heap} (m_isinstance : mg "isinstance" = none) (x_BadMemory : IsX K mg "BadMemory" [("LogError", false), ("BadRule", false), ("BadKey", false), ("BadMemory", true), ("BadCourse", false), ("BadShape", false), ("BadWish", false), ("BadWishes", false), ("BadNumber", false), ("BadLog", false), ("BadRules", false), ("NothingDone", false), ("BadJournal", false), ("BadText", false)]) (x_BadKey : IsX K mg "BadKey" [("LogError", false), ("BadRule", false), ("BadKey", true), ("BadMemory", false), ("BadCourse", false), ("BadShape", false), ("BadWish", false), ("BadWishes", false), ("BadNumber", false), ("BadLog", false), ("BadRules", false), ("NothingDone", false), ("BadJournal", false), ("BadText", false)]) (x_BadRule : IsX K mg "BadRule" [("LogError", false), ("BadRule", true), ("BadKey", false), ("BadMemory", false), ("BadCourse", false), ("BadShape", false), ("BadWish", false), ("BadWishes", false), ("BadNumber", false), ("BadLog", false), ("BadRules", false), ("NothingDone", false), ("BadJournal", false), ("BadText", false)]) (x_BadWish : IsX K mg "BadWish" [("LogError", false), ("BadRule", false), ("BadKey", false), ("BadMemory", false), ("BadCourse", false), ("BadShape", false), ("BadWish", true), ("BadWishes", false), ("BadNumber", false), ("BadLog", false), ("BadRules", false), ("NothingDone", false), ("BadJournal", false), ("BadText", false)]) (x_BadShape : IsX K mg "BadShape" [("LogError", false), ("BadRule", false), ("BadKey", false), ("BadMemory", false), ("BadCourse", false), ("BadShape", true), ("BadWish", false), ("BadWishes", false), ("BadNumber", false), ("BadLog", false), ("BadRules", false), ("NothingDone", false), ("BadJournal", false), ("BadText", false)]) (x_BadCourse : IsX K mg "BadCourse" [("LogError", false), ("BadRule", false), ("BadKey", false), ("BadMemory", false), ("BadCourse", true), ("BadShape", false), ("BadWish", false), ("BadWishes", false), ("BadNumber", false), ("BadLog", false), ("BadRules", false), ("NothingDone", false), ("BadJournal", false), ("BadText", false)]) (x_BadLog : IsX K mg "BadLog" [("LogError", false), ("BadRule", false), ("BadKey", false), ("BadMemory", false), ("BadCourse", false), ("BadShape", false), ("BadWish", false), ("BadWishes", false), ("BadNumber", false), ("BadLog", true), ("BadRules", false), ("NothingDone", false), ("BadJournal", false), ("BadText", false)]) (x_BadNumber : IsX K mg "BadNumber" [("LogError", false), ("BadRule", false), ("BadKey", false), ("BadMemory", false), ("BadCourse", false), ("BadShape", false), ("BadWish", false), ("BadWishes", false), ("BadNumber", true), ("BadLog", false), ("BadRules", false), ("NothingDone", false), ("BadJournal", false), ("BadText", false)]) (x_BadWishes : IsX K mg "BadWishes" [("LogError", false), ("BadRule", false), ("BadKey", false), ("BadMemory", false), ("BadCourse", false), ("BadShape", false), ("BadWish", false), ("BadWishes", true), ("BadNumber", false), ("BadLog", false), ("BadRules", false), ("NothingDone", false), ("BadJournal", false), ("BadText", false)]) (x_BadJournal : IsX K mg "BadJournal" [("LogError", false), ("BadRule", false), ("BadKey", false), ("BadMemory", false), ("BadCourse", false), ("BadShape", false), ("BadWish", false), ("BadWishes", false), ("BadNumber", false), ("BadLog", false), ("BadRules", false), ("NothingDone", false), ("BadJournal", true), ("BadText", false)]) (x_NothingDone : IsX K mg "NothingDone" [("LogError", false), ("BadRule", false), ("BadKey", false), ("BadMemory", false), ("BadCourse", false), ("BadShape", false), ("BadWish", false), ("BadWishes", false), ("BadNumber", false), ("BadLog", false), ("BadRules", false), ("NothingDone", true), ("BadJournal", false), ("BadText", false)]) (x_BadRules : IsX K mg "BadRules" [("LogError", false), ("BadRule", false), ("BadKey", false), ("BadMemory", false), ("BadCourse", false), ("BadShape", false), ("BadWish", false), ("BadWishes", false), ("BadNumber", false), ("BadLog", false), ("BadRules", true), ("NothingDone", false), ("BadJournal", false), ("BadText", false)]) (x_BadText : IsX K mg "BadText" [("LogError", false), ("BadRule", false), ("BadKey", false), ("BadMemory", false), ("BadCourse", false), ("BadShape", false), ("BadWish", false), ("BadWishes", false), ("BadNumber", false), ("BadLog", false), ("BadRules", false), ("NothingDone", false), ("BadJournal", false), ("BadText", true)]) : ∀ (f : Addr) (cdv : Value) (A : Around) (outer : List Env) (s : Shared) (H : Hp) (w : Wd) (E : XK), Bd (bx P wd K mg base ["_law_error", "_law_some"] "_law_marks" s__law_marks f cdv A outer s H E) 0 E → CSs (bx P wd K mg base ["_law_error", "_law_some"] "_law_marks" s__law_marks f cdv A outer s H E) w E false (defBody s__law_marks) c__law_marks := by
  intro f cdv A outer s H w E B
  unfold c__law_marks
  exact (css_cons (cs_set 1 sc__law_marks.nd (CF.ce (cf_lst (ca_cons (ce_isX x_BadRule m_isinstance (ce_var 0)) (ca_cons (ce_isX x_BadKey m_isinstance (ce_var 0)) (ca_cons (ce_isX x_BadMemory m_isinstance (ce_var 0)) ca_nil))) (len_cons (len_cons (len_cons len_nil))))))
  (css_cons (cs_set 1 sc__law_marks.nd (ce_op o_add t2_add (ce_var 1) (CF.ce (cf_lst (ca_cons (ce_isX x_BadCourse m_isinstance (ce_var 0)) (ca_cons (ce_isX x_BadShape m_isinstance (ce_var 0)) (ca_cons (ce_isX x_BadWish m_isinstance (ce_var 0)) ca_nil))) (len_cons (len_cons (len_cons len_nil)))))))
  (css_cons (cs_set 1 sc__law_marks.nd (ce_op o_add t2_add (ce_var 1) (CF.ce (cf_lst (ca_cons (ce_isX x_BadWishes m_isinstance (ce_var 0)) (ca_cons (ce_isX x_BadNumber m_isinstance (ce_var 0)) (ca_cons (ce_isX x_BadLog m_isinstance (ce_var 0)) ca_nil))) (len_cons (len_cons (len_cons len_nil)))))))
  (css_cons (cs_set 1 sc__law_marks.nd (ce_op o_add t2_add (ce_var 1) (CF.ce (cf_lst (ca_cons (ce_isX x_BadRules m_isinstance (ce_var 0)) (ca_cons (ce_isX x_NothingDone m_isinstance (ce_var 0)) (ca_cons (ce_isX x_BadJournal m_isinstance (ce_var 0)) ca_nil))) (len_cons (len_cons (len_cons len_nil)))))))
  (css_one (cs_ret (ce_op o_add t2_add (ce_var 1) (CF.ce (cf_lst (ca_cons (ce_isX x_BadText m_isinstance (ce_var 0)) ca_nil) (len_cons len_nil))))))))))
theorem ok__law_marks {P : Program} {wd : World} {K : PySem.W.Frag} {mg : Str → Option Value} {base : Heap} (A : FunAt K mg "_law_marks" "_law_marks" s__law_marks ["_law_error"]) (m_isinstance : mg "isinstance" = none) (x_BadMemory : IsX K mg "BadMemory" [("LogError", false), ("BadRule", false), ("BadKey", false), ("BadMemory", true), ("BadCourse", false), ("BadShape", false), ("BadWish", false), ("BadWishes", false), ("BadNumber", false), ("BadLog", false), ("BadRules", false), ("NothingDone", false), ("BadJournal", false), ("BadText", false)]) (x_BadKey : IsX K mg "BadKey" [("LogError", false), ("BadRule", false), ("BadKey", true), ("BadMemory", false), ("BadCourse", false), ("BadShape", false), ("BadWish", false), ("BadWishes", false), ("BadNumber", false), ("BadLog", false), ("BadRules", false), ("NothingDone", false), ("BadJournal", false), ("BadText", false)]) (x_BadRule : IsX K mg "BadRule" [("LogError", false), ("BadRule", true), ("BadKey", false), ("BadMemory", false), ("BadCourse", false), ("BadShape", false), ("BadWish", false), ("BadWishes", false), ("BadNumber", false), ("BadLog", false), ("BadRules", false), ("NothingDone", false), ("BadJournal", false), ("BadText", false)]) (x_BadWish : IsX K mg "BadWish" [("LogError", false), ("BadRule", false), ("BadKey", false), ("BadMemory", false), ("BadCourse", false), ("BadShape", false), ("BadWish", true), ("BadWishes", false), ("BadNumber", false), ("BadLog", false), ("BadRules", false), ("NothingDone", false), ("BadJournal", false), ("BadText", false)]) (x_BadShape : IsX K mg "BadShape" [("LogError", false), ("BadRule", false), ("BadKey", false), ("BadMemory", false), ("BadCourse", false), ("BadShape", true), ("BadWish", false), ("BadWishes", false), ("BadNumber", false), ("BadLog", false), ("BadRules", false), ("NothingDone", false), ("BadJournal", false), ("BadText", false)]) (x_BadCourse : IsX K mg "BadCourse" [("LogError", false), ("BadRule", false), ("BadKey", false), ("BadMemory", false), ("BadCourse", true), ("BadShape", false), ("BadWish", false), ("BadWishes", false), ("BadNumber", false), ("BadLog", false), ("BadRules", false), ("NothingDone", false), ("BadJournal", false), ("BadText", false)]) (x_BadLog : IsX K mg "BadLog" [("LogError", false), ("BadRule", false), ("BadKey", false), ("BadMemory", false), ("BadCourse", false), ("BadShape", false), ("BadWish", false), ("BadWishes", false), ("BadNumber", false), ("BadLog", true), ("BadRules", false), ("NothingDone", false), ("BadJournal", false), ("BadText", false)]) (x_BadNumber : IsX K mg "BadNumber" [("LogError", false), ("BadRule", false), ("BadKey", false), ("BadMemory", false), ("BadCourse", false), ("BadShape", false), ("BadWish", false), ("BadWishes", false), ("BadNumber", true), ("BadLog", false), ("BadRules", false), ("NothingDone", false), ("BadJournal", false), ("BadText", false)]) (x_BadWishes : IsX K mg "BadWishes" [("LogError", false), ("BadRule", false), ("BadKey", false), ("BadMemory", false), ("BadCourse", false), ("BadShape", false), ("BadWish", false), ("BadWishes", true), ("BadNumber", false), ("BadLog", false), ("BadRules", false), ("NothingDone", false), ("BadJournal", false), ("BadText", false)]) (x_BadJournal : IsX K mg "BadJournal" [("LogError", false), ("BadRule", false), ("BadKey", false), ("BadMemory", false), ("BadCourse", false), ("BadShape", false), ("BadWish", false), ("BadWishes", false), ("BadNumber", false), ("BadLog", false), ("BadRules", false), ("NothingDone", false), ("BadJournal", true), ("BadText", false)]) (x_NothingDone : IsX K mg "NothingDone" [("LogError", false), ("BadRule", false), ("BadKey", false), ("BadMemory", false), ("BadCourse", false), ("BadShape", false), ("BadWish", false), ("BadWishes", false), ("BadNumber", false), ("BadLog", false), ("BadRules", false), ("NothingDone", true), ("BadJournal", false), ("BadText", false)]) (x_BadRules : IsX K mg "BadRules" [("LogError", false), ("BadRule", false), ("BadKey", false), ("BadMemory", false), ("BadCourse", false), ("BadShape", false), ("BadWish", false), ("BadWishes", false), ("BadNumber", false), ("BadLog", false), ("BadRules", true), ("NothingDone", false), ("BadJournal", false), ("BadText", false)]) (x_BadText : IsX K mg "BadText" [("LogError", false), ("BadRule", false), ("BadKey", false), ("BadMemory", false), ("BadCourse", false), ("BadShape", false), ("BadWish", false), ("BadWishes", false), ("BadNumber", false), ("BadLog", false), ("BadRules", false), ("NothingDone", false), ("BadJournal", false), ("BadText", true)]) : CallT P wd K mg base 1 "_law_marks" 1 (runB c__law_marks 2) :=
  fn_at (k := 0) (c := c__law_marks) A sc__law_marks (bd__law_marks m_isinstance x_BadMemory x_BadKey x_BadRule x_BadWish x_BadShape x_BadCourse x_BadLog x_BadNumber x_BadWishes x_BadJournal x_NothingDone x_BadRules x_BadText)
abbrev s__law_alone : Stmt := topS 21
theorem sc__law_alone : FnScope ["_law_error", "_law_place", "_law_due", "_law_k"] ["_law_error", "_law_place"] (defScope s__law_alone) := ⟨rfl, rfl, rfl, by decide +kernel, rfl, by decide +kernel, by decide +kernel⟩
@[irreducible] def c__law_alone : SC := (cSeq (cSeqFrz 2 (cSetO 2 (cComp (fun r => (caCons (cC (.int 13)) caNil) r >>= rgOf) (gcName 3) (fun _ => .ret true) (cOp2 fEq (cVar 3) (cVar 1)) [3])))
  (cRet (cAndV (cOp2 fEq (cCall (runB c__law_marks 2) (caCons (cVar 0) caNil)) (cVar 2)) (cAndV (cOp1 (fIsX [("LogError", true), ("BadRule", true), ("BadKey", true), ("BadMemory", true), ("BadCourse", true), ("BadShape", true), ("BadWish", true), ("BadWishes", true), ("BadNumber", true), ("BadLog", true), ("BadRules", true), ("NothingDone", true), ("BadJournal", true), ("BadText", true)]) (cVar 0)) (cOp1 (fIsX [("LogError", true), ("BadRule", true), ("BadKey", true), ("BadMemory", true), ("BadCourse", true), ("BadShape", true), ("BadWish", true), ("BadWishes", true), ("BadNumber", true), ("BadLog", true), ("BadRules", true), ("NothingDone", true), ("BadJournal", true), ("BadText", true)]) (cVar 0))))))
theorem bd__law_alone {P : Program} {wd : World} {K : PySem.W.Frag} {mg : Str → Option Value} {base : Heap} (m_range : mg "range" = none) (C__law_marks : CallT P wd K mg base 1 "_law_marks" 1 (runB c__law_marks 2)) (m_isinstance : mg "isinstance" = none) (x_LogError : IsX K mg "LogError" [("LogError", true), ("BadRule", true), ("BadKey", true), ("BadMemory", true), ("BadCourse", true), ("BadShape", true), ("BadWish", true), ("BadWishes", true), ("BadNumber", true), ("BadLog", true), ("BadRules", true), ("NothingDone", true), ("BadJournal", true), ("BadText", true)]) (x_ValueError : IsV K mg "ValueError" [("LogError", true), ("BadRule", true), ("BadKey", true), ("BadMemory", true), ("BadCourse", true), ("BadShape", true), ("BadWish", true), ("BadWishes", true), ("BadNumber", true), ("BadLog", true), ("BadRules", true), ("NothingDone", true), ("BadJournal", true), ("BadText", true)]) : ∀ (f : Addr) (cdv : Value) (A : Around) (outer : List Env) (s : Shared) (H : Hp) (w : Wd) (E : XK), Bd (bx P wd K mg base ["_law_error", "_law_place", "_law_due", "_law_k"] "_law_alone" s__law_alone f cdv A outer s H E) 1 E → CSs (bx P wd K mg base ["_law_error", "_law_place", "_law_due", "_law_k"] "_law_alone" s__law_alone f cdv A outer s H E) w E false (defBody s__law_alone) c__law_alone := by
  intro f cdv A outer s H w E B
  unfold c__law_alone
  exact (css_cons (cs_thenFrz 2 (cs_setComp (own := [("_law_k", 3)]) sc__law_alone.nd (by rfl) (ci_range1 (by rfl) m_range (ca_cons ce_int ca_nil)) (blkOk_by (by rfl)) (fun s H C cl fp => (cg_name 3 sc__law_alone.nd)) (fun s H C cl fp => cts_nil) (fun s H C cl fp => (ce_cmp (o_eq (B.blk s H _ _ fp).hr) t2_eq (ce_var 3) (ce_var 1)))))
  (css_one (cs_ret (ce_and (ce_cmp (o_eq B.hr) t2_eq (ce_fn B C__law_marks (ca_cons (ce_var 0) ca_nil) (len_cons len_nil)) (ce_var 2)) (ce_and (ce_isX x_LogError m_isinstance (ce_var 0)) (ce_one (ce_isV x_ValueError m_isinstance (ce_var 0))))))))
theorem ok__law_alone {P : Program} {wd : World} {K : PySem.W.Frag} {mg : Str → Option Value} {base : Heap} (A : FunAt K mg "_law_alone" "_law_alone" s__law_alone ["_law_error", "_law_place"]) (m_range : mg "range" = none) (C__law_marks : CallT P wd K mg base 1 "_law_marks" 1 (runB c__law_marks 2)) (m_isinstance : mg "isinstance" = none) (x_LogError : IsX K mg "LogError" [("LogError", true), ("BadRule", true), ("BadKey", true), ("BadMemory", true), ("BadCourse", true), ("BadShape", true), ("BadWish", true), ("BadWishes", true), ("BadNumber", true), ("BadLog", true), ("BadRules", true), ("NothingDone", true), ("BadJournal", true), ("BadText", true)]) (x_ValueError : IsV K mg "ValueError" [("LogError", true), ("BadRule", true), ("BadKey", true), ("BadMemory", true), ("BadCourse", true), ("BadShape", true), ("BadWish", true), ("BadWishes", true), ("BadNumber", true), ("BadLog", true), ("BadRules", true), ("NothingDone", true), ("BadJournal", true), ("BadText", true)]) : CallT P wd K mg base 2 "_law_alone" 2 (runB c__law_alone 4) :=
  fn_at (k := 1) (c := c__law_alone) A sc__law_alone (bd__law_alone m_range C__law_marks m_isinstance x_LogError x_ValueError)
abbrev s_law : Stmt := topS 24
theorem sc_law : FnScope ["_law_script", "_law_draw", "_law_turn", "_law_page", "_law_item", "_law_place", "_law_error", "_law_field", "_law_ground"] ["_law_script"] (defScope s_law) := ⟨rfl, rfl, rfl, by decide +kernel, rfl, by decide +kernel, by decide +kernel⟩
@[irreducible] def c_law_b1 : SC := (cIfS (cOrT (cB (cOp2 fNe (cCall (fStX ["LogError", "BadKey", "BadMemory", "BadShape", "BadWish", "BadWishes", "BadRules", "NothingDone"]) (caCons (cVar 6) caNil)) (cVar 3))) (cAndT (cB (cOp2 (fII fun i j => .bl (decide (i < j))) (cVar 5) (cC (.int 13)))) (cNotT (cB (cCall (runB c__law_alone 4) (caCons (cVar 6) (caCons (cVar 5) caNil))))))) (cRet (cC (.bl false)))
  (fun r => .ret (.nx r)))
@[irreducible] def c_law_b2 : SC := (cIfS (cOrT (cNotT (cB (cCall (runB c__law_alone 4) (caCons (cVar 6) (caCons (cVar 5) caNil))))) (cB (cOp2 fNe (cCall fRepr (caCons (cVar 7) caNil)) (cCall fRepr (caCons (cVar 4) caNil))))) (cRet (cC (.bl false)))
  (fun r => .ret (.nx r)))
@[irreducible] def c_law_b3 : SC := (cSeq (cSet 3 (cCall (runB c_law_pick 2) (caCons (cVar 1) (caCons (cLst (caCons (cC (.str "")) (caCons (cC (.str "a")) (caCons (cC (.str "no key")) (caCons (cC (.str "window")) caNil))))) caNil))))
  (cSeq (cSet 4 (cCall (runB c_law_pick 2) (caCons (cVar 1) (caCons (cLst (caCons (cC (.int 0)) (caCons (cC (.int 1)) (caCons (cC .non) (caCons (cC (.str "window")) (caCons (cC (.str "a")) (caCons (cTup (caCons (cC (.int 1)) (caCons (cC .non) caNil))) (caCons (cTup (caCons (cTup (caCons (cC (.int 0)) (caCons (cC (.bl true)) caNil))) caNil)) (caCons (cLst (caCons (cC (.int 3)) caNil)) (caCons (cOp2 fPowI (cC (.int 10)) (cC (.int 12))) caNil)))))))))) caNil))))
  (cSeq (cFor (fun r => (cCall (runB c__law_plain 2) (caCons (cVar 3) caNil)) r >>= anyOf) (gcTup 2 (gcsCons (gcName 5) (gcsCons (gcName 6) gcsNil)))
  c_law_b1)
  (cSeq (cFor (fun r => (cCall (runB c__law_with_fields 5) (caCons (cVar 4) caNil)) r >>= anyOf) (gcTup 3 (gcsCons (gcName 5) (gcsCons (gcName 6) (gcsCons (gcName 7) gcsNil))))
  c_law_b2)
  (cSeq (cSet 8 (cExS "LogError" (cVar 3)))
  (cIfS (cOrT (cB (cOp2 fNe (cCall (runB c__law_marks 2) (caCons (cVar 8) caNil)) (cOp2 fRep (cLst (caCons (cC (.bl false)) caNil)) (cC (.int 13))))) (cNotT (cB (cOp1 (fIsX [("LogError", true), ("BadRule", true), ("BadKey", true), ("BadMemory", true), ("BadCourse", true), ("BadShape", true), ("BadWish", true), ("BadWishes", true), ("BadNumber", true), ("BadLog", true), ("BadRules", true), ("NothingDone", true), ("BadJournal", true), ("BadText", true)]) (cVar 8))))) (cRet (cC (.bl false)))
  (fun r => .ret (.nx r))))))))
@[irreducible] def c_law : SC := (cBegin 1 0 (cSeq (cFor (fun r => (caCons (cOp2 fAdd (cC (.int 1)) (cCall fMin2 (caCons (cCall fLen (caCons (cVar 0) caNil)) (caCons (cC (.int 1)) caNil)))) caNil) r >>= rgOf) (gcName 2)
  c_law_b3)
  (cRet (cC (.bl true)))))
theorem ok_law {P : Program} {wd : World} {K : PySem.W.Frag} {mg : Str → Option Value} {base : Heap} (A : FunAt K mg "law" "law" s_law ["_law_script"]) (C__law_begin : CallG P wd K mg base 1 "_law_begin" (SpBegin K)) (m_len : mg "len" = none) (m_min : mg "min" = none) (m_range : mg "range" = none) (C__law_pick : CallT P wd K mg base 3 "_law_pick" 2 (runB c_law_pick 2)) (C__law_plain : CallT P wd K mg base 1 "_law_plain" 1 (runB c__law_plain 2)) (stx : StXL K mg ["LogError", "BadKey", "BadMemory", "BadShape", "BadWish", "BadWishes", "BadRules", "NothingDone"]) (m_str : mg "str" = none) (C__law_alone : CallT P wd K mg base 2 "_law_alone" 2 (runB c__law_alone 4)) (C__law_with_fields : CallT P wd K mg base 3 "_law_with_fields" 1 (runB c__law_with_fields 5)) (m_repr : mg "repr" = none) (ex_LogError : ExcT0 K mg "LogError") (C__law_marks : CallT P wd K mg base 1 "_law_marks" 1 (runB c__law_marks 2)) (m_isinstance : mg "isinstance" = none) (x_ValueError : IsV K mg "ValueError" [("LogError", true), ("BadRule", true), ("BadKey", true), ("BadMemory", true), ("BadCourse", true), ("BadShape", true), ("BadWish", true), ("BadWishes", true), ("BadNumber", true), ("BadLog", true), ("BadRules", true), ("NothingDone", true), ("BadJournal", true), ("BadText", true)]) : CallL P wd K mg base 4 "law" (runB c_law 9) := by
  refine law_at (k := 3) (c := c_law) A sc_law fun f cdv A outer s H w E w0 B => ?_
  unfold c_law
  unfold c_law_b3
  unfold c_law_b2
  unfold c_law_b1
  exact (css_begin0 w0 B C__law_begin sc_law.nd (fun w _ _ =>
  (css_cons (cs_for B.po (ci_range1 (by rfl) m_range (ca_cons (ce_op o_add t2_add ce_int (ce_callB (call_min2 rfl) tn_min2 (by rfl) m_min (by rfl) (ca_cons (ce_callB o_lenB tn_len (by rfl) m_len (by rfl) (ca_cons (ce_var 0) ca_nil)) (ca_cons ce_int ca_nil)))) ca_nil)) (cg_name 2 sc_law.nd)
  (css_cons (cs_set 3 sc_law.nd (ce_fn B C__law_pick (ca_cons (ce_var 1) (ca_cons (CF.ce (cf_lst (ca_cons ce_str (ca_cons ce_str (ca_cons ce_str (ca_cons ce_str ca_nil)))) (len_cons (len_cons (len_cons (len_cons len_nil)))))) ca_nil)) (len_cons (len_cons len_nil))))
  (css_cons (cs_set 4 sc_law.nd (ce_fn B C__law_pick (ca_cons (ce_var 1) (ca_cons (CF.ce (cf_lst (ca_cons ce_int (ca_cons ce_int (ca_cons ce_non (ca_cons ce_str (ca_cons ce_str (ca_cons (ce_tup (ca_cons ce_int (ca_cons ce_non ca_nil)) (len_cons (len_cons len_nil))) (ca_cons (ce_tup (ca_cons (ce_tup (ca_cons ce_int (ca_cons ce_bl ca_nil)) (len_cons (len_cons len_nil))) ca_nil) (len_cons len_nil)) (ca_cons (CF.ce (cf_lst (ca_cons ce_int ca_nil) (len_cons len_nil))) (ca_cons (ce_op op_pow t2_pow ce_int ce_int) ca_nil))))))))) (len_cons (len_cons (len_cons (len_cons (len_cons (len_cons (len_cons (len_cons (len_cons len_nil))))))))))) ca_nil)) (len_cons (len_cons len_nil))))
  (css_cons (cs_for B.po (ci_any (ce_fn B C__law_plain (ca_cons (ce_var 3) ca_nil) (len_cons len_nil))) (cg_tup (cgs_cons (cg_name 5 sc_law.nd) (cgs_cons (cg_name 6 sc_law.nd) cgs_nil)))
  (css_one (cs_if (CW.ct (cw_or (ct_cmp (o_ne B.hr) t2_ne (ce_stX B stx (by rfl) m_str (ca_cons (ce_var 6) ca_nil)) (ce_var 3)) (cw_or1 (CW.ct (cw_and (ct_cmp op_lt (t2_int fun _ _ _ => .bl _) (ce_var 5) ce_int) (cw_and1 (ct_not (ct_val (ce_fn B C__law_alone (ca_cons (ce_var 6) (ca_cons (ce_var 5) ca_nil)) (len_cons (len_cons len_nil))))))))))) (css_one (cs_ret ce_bl))
  css_nil)))
  (css_cons (cs_for B.po (ci_any (ce_fn B C__law_with_fields (ca_cons (ce_var 4) ca_nil) (len_cons len_nil))) (cg_tup (cgs_cons (cg_name 5 sc_law.nd) (cgs_cons (cg_name 6 sc_law.nd) (cgs_cons (cg_name 7 sc_law.nd) cgs_nil))))
  (css_one (cs_if (CW.ct (cw_or (ct_not (ct_val (ce_fn B C__law_alone (ca_cons (ce_var 6) (ca_cons (ce_var 5) ca_nil)) (len_cons (len_cons len_nil))))) (cw_or1 (ct_cmp (o_ne B.hr) t2_ne (ce_callB (o_repr B.gd B.hr) tn_repr (by rfl) m_repr (by rfl) (ca_cons (ce_var 7) ca_nil)) (ce_callB (o_repr B.gd B.hr) tn_repr (by rfl) m_repr (by rfl) (ca_cons (ce_var 4) ca_nil)))))) (css_one (cs_ret ce_bl))
  css_nil)))
  (css_cons (cs_set 8 sc_law.nd (ce_excS ex_LogError (ce_var 3)))
  (css_one (cs_if (CW.ct (cw_or (ct_cmp (o_ne B.hr) t2_ne (ce_fn B C__law_marks (ca_cons (ce_var 8) ca_nil) (len_cons len_nil)) (CF.ce (cf_op op_rep t2_rep (CF.ce (cf_lst (ca_cons ce_bl ca_nil) (len_cons len_nil))) ce_int))) (cw_or1 (ct_not (ct_val (ce_isV x_ValueError m_isinstance (ce_var 8))))))) (css_one (cs_ret ce_bl))
  css_nil))))))))
  (css_one (cs_ret ce_bl)))))
theorem ok_all {P : Program} {wd : World} {K : PySem.W.Frag} {mg : Str → Option Value} {base : Heap} (A__law_blend : FunAt K mg "_law_blend" "_law_blend" s__law_blend ["_law_draw"])
  (m_int : mg "int" = none)
  (A__law_take : FunAt K mg "_law_take" "_law_take" s__law_take ["_law_draw", "_law_size"])
  (A__law_pick : FunAt K mg "_law_pick" "_law_pick" s__law_pick ["_law_draw", "_law_some"])
  (m_len : mg "len" = none)
  (A__law_begin : FunAt K mg "_law_begin" "_law_begin" s__law_begin ["_law_script"])
  (m_abs : mg "abs" = none)
  (A__law_plain : FunAt K mg "_law_plain" "_law_plain" s__law_plain ["_law_page"])
  (ex_BadWishes : ExcT0 K mg "BadWishes")
  (ex_BadWish : ExcT0 K mg "BadWish")
  (ex_BadShape : ExcT0 K mg "BadShape")
  (ex_BadMemory : ExcT0 K mg "BadMemory")
  (ex_BadKey : ExcT0 K mg "BadKey")
  (ex_LogError : ExcT0 K mg "LogError")
  (ex_NothingDone : ExcT0 K mg "NothingDone")
  (ex_BadRules : ExcT0 K mg "BadRules")
  (A__law_with_fields : FunAt K mg "_law_with_fields" "_law_with_fields" s__law_with_fields ["_law_item"])
  (ex_BadRule : ExcTK P wd K mg base "BadRule" "part" "part")
  (xf_part : ExF K mg "part" ["BadRule"])
  (ex_BadJournal : ExcTK P wd K mg base "BadJournal" "at" "at")
  (ex_BadLog : ExcTK P wd K mg base "BadLog" "at" "at")
  (ex_BadCourse : ExcTK P wd K mg base "BadCourse" "at" "at")
  (m_enumerate : mg "enumerate" = none)
  (xf_at : ExF K mg "at" ["BadCourse", "BadLog", "BadJournal"])
  (ex_BadNumber : ExcTK P wd K mg base "BadNumber" "number" "number")
  (xf_number : ExF K mg "number" ["BadNumber"])
  (ex_BadText : ExcTK P wd K mg base "BadText" "line" "line")
  (xf_line : ExF K mg "line" ["BadText"])
  (A__law_marks : FunAt K mg "_law_marks" "_law_marks" s__law_marks ["_law_error"])
  (m_isinstance : mg "isinstance" = none)
  (x_BadMemory : IsX K mg "BadMemory" [("LogError", false), ("BadRule", false), ("BadKey", false), ("BadMemory", true), ("BadCourse", false), ("BadShape", false), ("BadWish", false), ("BadWishes", false), ("BadNumber", false), ("BadLog", false), ("BadRules", false), ("NothingDone", false), ("BadJournal", false), ("BadText", false)])
  (x_BadKey : IsX K mg "BadKey" [("LogError", false), ("BadRule", false), ("BadKey", true), ("BadMemory", false), ("BadCourse", false), ("BadShape", false), ("BadWish", false), ("BadWishes", false), ("BadNumber", false), ("BadLog", false), ("BadRules", false), ("NothingDone", false), ("BadJournal", false), ("BadText", false)])
  (x_BadRule : IsX K mg "BadRule" [("LogError", false), ("BadRule", true), ("BadKey", false), ("BadMemory", false), ("BadCourse", false), ("BadShape", false), ("BadWish", false), ("BadWishes", false), ("BadNumber", false), ("BadLog", false), ("BadRules", false), ("NothingDone", false), ("BadJournal", false), ("BadText", false)])
  (x_BadWish : IsX K mg "BadWish" [("LogError", false), ("BadRule", false), ("BadKey", false), ("BadMemory", false), ("BadCourse", false), ("BadShape", false), ("BadWish", true), ("BadWishes", false), ("BadNumber", false), ("BadLog", false), ("BadRules", false), ("NothingDone", false), ("BadJournal", false), ("BadText", false)])
  (x_BadShape : IsX K mg "BadShape" [("LogError", false), ("BadRule", false), ("BadKey", false), ("BadMemory", false), ("BadCourse", false), ("BadShape", true), ("BadWish", false), ("BadWishes", false), ("BadNumber", false), ("BadLog", false), ("BadRules", false), ("NothingDone", false), ("BadJournal", false), ("BadText", false)])
  (x_BadCourse : IsX K mg "BadCourse" [("LogError", false), ("BadRule", false), ("BadKey", false), ("BadMemory", false), ("BadCourse", true), ("BadShape", false), ("BadWish", false), ("BadWishes", false), ("BadNumber", false), ("BadLog", false), ("BadRules", false), ("NothingDone", false), ("BadJournal", false), ("BadText", false)])
  (x_BadLog : IsX K mg "BadLog" [("LogError", false), ("BadRule", false), ("BadKey", false), ("BadMemory", false), ("BadCourse", false), ("BadShape", false), ("BadWish", false), ("BadWishes", false), ("BadNumber", false), ("BadLog", true), ("BadRules", false), ("NothingDone", false), ("BadJournal", false), ("BadText", false)])
  (x_BadNumber : IsX K mg "BadNumber" [("LogError", false), ("BadRule", false), ("BadKey", false), ("BadMemory", false), ("BadCourse", false), ("BadShape", false), ("BadWish", false), ("BadWishes", false), ("BadNumber", true), ("BadLog", false), ("BadRules", false), ("NothingDone", false), ("BadJournal", false), ("BadText", false)])
  (x_BadWishes : IsX K mg "BadWishes" [("LogError", false), ("BadRule", false), ("BadKey", false), ("BadMemory", false), ("BadCourse", false), ("BadShape", false), ("BadWish", false), ("BadWishes", true), ("BadNumber", false), ("BadLog", false), ("BadRules", false), ("NothingDone", false), ("BadJournal", false), ("BadText", false)])
  (x_BadJournal : IsX K mg "BadJournal" [("LogError", false), ("BadRule", false), ("BadKey", false), ("BadMemory", false), ("BadCourse", false), ("BadShape", false), ("BadWish", false), ("BadWishes", false), ("BadNumber", false), ("BadLog", false), ("BadRules", false), ("NothingDone", false), ("BadJournal", true), ("BadText", false)])
  (x_NothingDone : IsX K mg "NothingDone" [("LogError", false), ("BadRule", false), ("BadKey", false), ("BadMemory", false), ("BadCourse", false), ("BadShape", false), ("BadWish", false), ("BadWishes", false), ("BadNumber", false), ("BadLog", false), ("BadRules", false), ("NothingDone", true), ("BadJournal", false), ("BadText", false)])
  (x_BadRules : IsX K mg "BadRules" [("LogError", false), ("BadRule", false), ("BadKey", false), ("BadMemory", false), ("BadCourse", false), ("BadShape", false), ("BadWish", false), ("BadWishes", false), ("BadNumber", false), ("BadLog", false), ("BadRules", true), ("NothingDone", false), ("BadJournal", false), ("BadText", false)])
  (x_BadText : IsX K mg "BadText" [("LogError", false), ("BadRule", false), ("BadKey", false), ("BadMemory", false), ("BadCourse", false), ("BadShape", false), ("BadWish", false), ("BadWishes", false), ("BadNumber", false), ("BadLog", false), ("BadRules", false), ("NothingDone", false), ("BadJournal", false), ("BadText", true)])
  (A__law_alone : FunAt K mg "_law_alone" "_law_alone" s__law_alone ["_law_error", "_law_place"])
  (m_range : mg "range" = none)
  (x_LogError : IsX K mg "LogError" [("LogError", true), ("BadRule", true), ("BadKey", true), ("BadMemory", true), ("BadCourse", true), ("BadShape", true), ("BadWish", true), ("BadWishes", true), ("BadNumber", true), ("BadLog", true), ("BadRules", true), ("NothingDone", true), ("BadJournal", true), ("BadText", true)])
  (x_ValueError : IsV K mg "ValueError" [("LogError", true), ("BadRule", true), ("BadKey", true), ("BadMemory", true), ("BadCourse", true), ("BadShape", true), ("BadWish", true), ("BadWishes", true), ("BadNumber", true), ("BadLog", true), ("BadRules", true), ("NothingDone", true), ("BadJournal", true), ("BadText", true)])
  (A_law : FunAt K mg "law" "law" s_law ["_law_script"])
  (m_min : mg "min" = none)
  (stx : StXL K mg ["LogError", "BadKey", "BadMemory", "BadShape", "BadWish", "BadWishes", "BadRules", "NothingDone"])
  (m_str : mg "str" = none)
  (m_repr : mg "repr" = none) : CallL P wd K mg base 4 "law" (runB c_law 9) := by
  have C__law_blend := ok_law_blend (P := P) (wd := wd) (base := base) A__law_blend m_int
  have C__law_take := ok_law_take (P := P) (wd := wd) (base := base) A__law_take m_int C__law_blend
  have C__law_pick := ok_law_pick (P := P) (wd := wd) (base := base) A__law_pick m_len C__law_take
  have C__law_begin := ok_law_begin (P := P) (wd := wd) (base := base) A__law_begin m_abs
  have C__law_plain := ok__law_plain (P := P) (wd := wd) (base := base) A__law_plain ex_BadWishes ex_BadWish ex_BadShape ex_BadMemory ex_BadKey ex_LogError ex_NothingDone ex_BadRules
  have C__law_with_fields := ok__law_with_fields (P := P) (wd := wd) (base := base) A__law_with_fields ex_BadRule xf_part ex_BadJournal ex_BadLog ex_BadCourse m_enumerate xf_at ex_BadNumber xf_number ex_BadText xf_line
  have C__law_marks := ok__law_marks (P := P) (wd := wd) (base := base) A__law_marks m_isinstance x_BadMemory x_BadKey x_BadRule x_BadWish x_BadShape x_BadCourse x_BadLog x_BadNumber x_BadWishes x_BadJournal x_NothingDone x_BadRules x_BadText
  have C__law_alone := ok__law_alone (P := P) (wd := wd) (base := base) A__law_alone m_range C__law_marks m_isinstance x_LogError x_ValueError
  exact ok_law A_law C__law_begin m_len m_min m_range C__law_pick C__law_plain stx m_str C__law_alone C__law_with_fields m_repr ex_LogError C__law_marks m_isinstance x_ValueError
end LW
end s_G01
section s_HD01
set_option Elab.async false
set_option linter.all false
set_option maxRecDepth 100000
set_option maxHeartbeats 0
open PySem PySem.W PyProof.Rows
open_top hd01 for PySem.Challenge.rw_saidagain_k01_errors_by_hand
end s_HD01
section s_HW01
set_option Elab.async false
set_option linter.all false
set_option maxRecDepth 100000
open PySem PySem.W PyProof.Rows
set_option maxHeartbeats 0 in
theorem LW.holds_of (sem : ∀ (ns : List Int), (TL.runB LW.c_law 9 [TL.T.scr ns]).wp (fun t => t = TL.T.bl true) fun _ => False) : PySem.Challenge.rw_saidagain_k01_errors_by_hand.Holds := by
  refine hd01 ?_
  k_fill
  refine TL.walk_ofM (l := PySem.Challenge.rw_saidagain_k01_errors_by_hand) (n := 63) (k := 4) (F := TL.runB LW.c_law 9) rfl (by decide) rfl ⟨rfl, by decide, by decide⟩ (fun w h Y => PySem.W.kIn_of Y) ?F ?S
  case F =>
    intro w mg fa h KX G hmg base _ _
    clear hmg
    refine' LW.ok_all ?A__law_blend ?m_int ?A__law_take ?A__law_pick ?m_len ?A__law_begin ?m_abs ?A__law_plain ?ex_BadWishes ?ex_BadWish ?ex_BadShape ?ex_BadMemory ?ex_BadKey ?ex_LogError ?ex_NothingDone ?ex_BadRules ?A__law_with_fields ?ex_BadRule ?xf_part ?ex_BadJournal ?ex_BadLog ?ex_BadCourse ?m_enumerate ?xf_at ?ex_BadNumber ?xf_number ?ex_BadText ?xf_line ?A__law_marks ?m_isinstance ?x_BadMemory ?x_BadKey ?x_BadRule ?x_BadWish ?x_BadShape ?x_BadCourse ?x_BadLog ?x_BadNumber ?x_BadWishes ?x_BadJournal ?x_NothingDone ?x_BadRules ?x_BadText ?A__law_alone ?m_range ?x_LogError ?x_ValueError ?A_law ?m_min ?stx ?m_str ?m_repr
    case A__law_blend =>
      refine' TL.funAt_mk KX G ?hb ?a ?l ?c ?k
      (case a => k_is)
      (case l => k_is)
      (case c => k_is)
      (case k => k_is)
      (case hb => (intro _ _ _ _ _ _ us hl; match us, hl with | [_], _ => rfl))
    case m_int =>
      refine' PySem.W.mg_none_of KX G ?z
      (case z => k_is)
    case A__law_take =>
      refine' TL.funAt_mk KX G ?hb ?a ?l ?c ?k
      (case a => k_is)
      (case l => k_is)
      (case c => k_is)
      (case k => k_is)
      (case hb => (intro _ _ _ _ _ _ us hl; match us, hl with | [_, _], _ => rfl))
    case A__law_pick =>
      refine' TL.funAt_mk KX G ?hb ?a ?l ?c ?k
      (case a => k_is)
      (case l => k_is)
      (case c => k_is)
      (case k => k_is)
      (case hb => (intro _ _ _ _ _ _ us hl; match us, hl with | [_, _], _ => rfl))
    case m_len =>
      refine' PySem.W.mg_none_of KX G ?z
      (case z => k_is)
    case A__law_begin =>
      refine' TL.funAt_mk KX G ?hb ?a ?l ?c ?k
      (case a => k_is)
      (case l => k_is)
      (case c => k_is)
      (case k => k_is)
      (case hb => (intro _ _ _ _ _ _ us hl; match us, hl with | [_], _ => rfl))
    case m_abs =>
      refine' PySem.W.mg_none_of KX G ?z
      (case z => k_is)
    case A__law_plain =>
      refine' TL.funAt_mk KX G ?hb ?a ?l ?c ?k
      (case a => k_is)
      (case l => k_is)
      (case c => k_is)
      (case k => k_is)
      (case hb => (intro _ _ _ _ _ _ us hl; match us, hl with | [_], _ => rfl))
    case ex_BadWishes =>
      refine' TL.excT0_mk KX G ?ac ?ei ?kC ?exC ?tyC
      (case ac => k_is)
      (case ei => kernel_rfl)
      (case kC => k_is)
      (case exC => k_is)
      (case tyC => k_is)
    case ex_BadWish =>
      refine' TL.excT0_mk KX G ?ac ?ei ?kC ?exC ?tyC
      (case ac => k_is)
      (case ei => kernel_rfl)
      (case kC => k_is)
      (case exC => k_is)
      (case tyC => k_is)
    case ex_BadShape =>
      refine' TL.excT0_mk KX G ?ac ?ei ?kC ?exC ?tyC
      (case ac => k_is)
      (case ei => kernel_rfl)
      (case kC => k_is)
      (case exC => k_is)
      (case tyC => k_is)
    case ex_BadMemory =>
      refine' TL.excT0_mk KX G ?ac ?ei ?kC ?exC ?tyC
      (case ac => k_is)
      (case ei => kernel_rfl)
      (case kC => k_is)
      (case exC => k_is)
      (case tyC => k_is)
    case ex_BadKey =>
      refine' TL.excT0_mk KX G ?ac ?ei ?kC ?exC ?tyC
      (case ac => k_is)
      (case ei => kernel_rfl)
      (case kC => k_is)
      (case exC => k_is)
      (case tyC => k_is)
    case ex_LogError =>
      refine' TL.excT0_mk KX G ?ac ?ei ?kC ?exC ?tyC
      (case ac => k_is)
      (case ei => kernel_rfl)
      (case kC => k_is)
      (case exC => k_is)
      (case tyC => k_is)
    case ex_NothingDone =>
      refine' TL.excT0_mk KX G ?ac ?ei ?kC ?exC ?tyC
      (case ac => k_is)
      (case ei => kernel_rfl)
      (case kC => k_is)
      (case exC => k_is)
      (case tyC => k_is)
    case ex_BadRules =>
      refine' TL.excT0_mk KX G ?ac ?ei ?kC ?exC ?tyC
      (case ac => k_is)
      (case ei => kernel_rfl)
      (case kC => k_is)
      (case exC => k_is)
      (case tyC => k_is)
    case A__law_with_fields =>
      refine' TL.funAt_mk KX G ?hb ?a ?l ?c ?k
      (case a => k_is)
      (case l => k_is)
      (case c => k_is)
      (case k => k_is)
      (case hb => (intro _ _ _ _ _ _ us hl; match us, hl with | [_], _ => rfl))
    case ex_BadRule =>
      refine' TL.excTK_mk (st := LW.s_BadRule___init__) (a := "part") KX G ?ac ?lC ?hbm ?sa ?exC ?tyC ?kC ?iC ?tI ?l ?hb ?hkw ?cd ?lc ?hv ?le ?cC rfl rfl rfl (by decide +kernel) rfl rfl rfl rfl (by decide) ?ei ?mr ?su ?ve ?no ?ta ?B (PySem.W.mg_none_of KX G ?ms)
      (case ac => k_is)
      (case lC => k_is)
      (case hbm => rfl)
      (case sa => k_is)
      (case exC => k_is)
      (case tyC => k_is)
      (case kC => k_is)
      (case iC => k_is)
      (case tI => k_is)
      (case l => k_is)
      (case cd => k_is)
      (case lc => k_is)
      (case hv => rfl)
      (case le => k_is)
      (case cC => k_is)
      (case mr => k_is)
      (case ve => k_is)
      (case no => k_is)
      (case ta => k_is)
      (case ms => k_is)
      (case hkw => (intro _ _ _ _ _ _ _ _ _; rfl))
      (case hb => (intro _ _ _ _ _ _ _ us hl; match us, hl with | [_, _], _ => rfl))
      (case ei => kernel_rfl)
      (case su => kernel_rfl)
      (case B => exact ⟨⟨_, _, _, _, _, _, _, _, _, _, rfl, fun L fI cda cc => ⟨⟨_, rfl⟩, rfl, rfl, rfl⟩⟩, ⟨_, rfl, rfl⟩, rfl, rfl, by decide, by decide⟩)
    case xf_part =>
      refine' TL.exF_mk (TL.ExFL.cons (PySem.W.mg_of KX G ?e0) (TL.exv_mk ?v0_0 ?v0_1 ?v0_2 ?v0_3 ?v0_4 ?v0_5 ?v0_6 ?v0_7 ?v0_8) ?n0 TL.ExFL.nil)
      (case e0 => k_is)
      (case v0_0 => k_is)
      (case v0_1 => k_is)
      (case v0_2 => k_is)
      (case v0_3 => k_is)
      (case v0_4 => k_is)
      (case v0_5 => k_is)
      (case v0_6 => k_is)
      (case v0_7 => k_is)
      (case v0_8 => k_is)
      (case n0 => k_is)
    case ex_BadJournal =>
      refine' TL.excTK_mk (st := LW.s_BadJournal___init__) (a := "at") KX G ?ac ?lC ?hbm ?sa ?exC ?tyC ?kC ?iC ?tI ?l ?hb ?hkw ?cd ?lc ?hv ?le ?cC rfl rfl rfl (by decide +kernel) rfl rfl rfl rfl (by decide) ?ei ?mr ?su ?ve ?no ?ta ?B (PySem.W.mg_none_of KX G ?ms)
      (case ac => k_is)
      (case lC => k_is)
      (case hbm => rfl)
      (case sa => k_is)
      (case exC => k_is)
      (case tyC => k_is)
      (case kC => k_is)
      (case iC => k_is)
      (case tI => k_is)
      (case l => k_is)
      (case cd => k_is)
      (case lc => k_is)
      (case hv => rfl)
      (case le => k_is)
      (case cC => k_is)
      (case mr => k_is)
      (case ve => k_is)
      (case no => k_is)
      (case ta => k_is)
      (case ms => k_is)
      (case hkw => (intro _ _ _ _ _ _ _ _ _; rfl))
      (case hb => (intro _ _ _ _ _ _ _ us hl; match us, hl with | [_, _], _ => rfl))
      (case ei => kernel_rfl)
      (case su => kernel_rfl)
      (case B => exact ⟨⟨_, _, _, _, _, _, _, _, _, _, rfl, fun L fI cda cc => ⟨⟨_, rfl⟩, rfl, rfl, rfl⟩⟩, ⟨_, rfl, rfl⟩, rfl, rfl, by decide, by decide⟩)
    case ex_BadLog =>
      refine' TL.excTK_mk (st := LW.s_BadLog___init__) (a := "at") KX G ?ac ?lC ?hbm ?sa ?exC ?tyC ?kC ?iC ?tI ?l ?hb ?hkw ?cd ?lc ?hv ?le ?cC rfl rfl rfl (by decide +kernel) rfl rfl rfl rfl (by decide) ?ei ?mr ?su ?ve ?no ?ta ?B (PySem.W.mg_none_of KX G ?ms)
      (case ac => k_is)
      (case lC => k_is)
      (case hbm => rfl)
      (case sa => k_is)
      (case exC => k_is)
      (case tyC => k_is)
      (case kC => k_is)
      (case iC => k_is)
      (case tI => k_is)
      (case l => k_is)
      (case cd => k_is)
      (case lc => k_is)
      (case hv => rfl)
      (case le => k_is)
      (case cC => k_is)
      (case mr => k_is)
      (case ve => k_is)
      (case no => k_is)
      (case ta => k_is)
      (case ms => k_is)
      (case hkw => (intro _ _ _ _ _ _ _ _ _; rfl))
      (case hb => (intro _ _ _ _ _ _ _ us hl; match us, hl with | [_, _], _ => rfl))
      (case ei => kernel_rfl)
      (case su => kernel_rfl)
      (case B => exact ⟨⟨_, _, _, _, _, _, _, _, _, _, rfl, fun L fI cda cc => ⟨⟨_, rfl⟩, rfl, rfl, rfl⟩⟩, ⟨_, rfl, rfl⟩, rfl, rfl, by decide, by decide⟩)
    case ex_BadCourse =>
      refine' TL.excTK_mk (st := LW.s_BadCourse___init__) (a := "at") KX G ?ac ?lC ?hbm ?sa ?exC ?tyC ?kC ?iC ?tI ?l ?hb ?hkw ?cd ?lc ?hv ?le ?cC rfl rfl rfl (by decide +kernel) rfl rfl rfl rfl (by decide) ?ei ?mr ?su ?ve ?no ?ta ?B (PySem.W.mg_none_of KX G ?ms)
      (case ac => k_is)
      (case lC => k_is)
      (case hbm => rfl)
      (case sa => k_is)
      (case exC => k_is)
      (case tyC => k_is)
      (case kC => k_is)
      (case iC => k_is)
      (case tI => k_is)
      (case l => k_is)
      (case cd => k_is)
      (case lc => k_is)
      (case hv => rfl)
      (case le => k_is)
      (case cC => k_is)
      (case mr => k_is)
      (case ve => k_is)
      (case no => k_is)
      (case ta => k_is)
      (case ms => k_is)
      (case hkw => (intro _ _ _ _ _ _ _ _ _; rfl))
      (case hb => (intro _ _ _ _ _ _ _ us hl; match us, hl with | [_, _], _ => rfl))
      (case ei => kernel_rfl)
      (case su => kernel_rfl)
      (case B => exact ⟨⟨_, _, _, _, _, _, _, _, _, _, rfl, fun L fI cda cc => ⟨⟨_, rfl⟩, rfl, rfl, rfl⟩⟩, ⟨_, rfl, rfl⟩, rfl, rfl, by decide, by decide⟩)
    case m_enumerate =>
      refine' PySem.W.mg_none_of KX G ?z
      (case z => k_is)
    case xf_at =>
      refine' TL.exF_mk (TL.ExFL.cons (PySem.W.mg_of KX G ?e0) (TL.exv_mk ?v0_0 ?v0_1 ?v0_2 ?v0_3 ?v0_4 ?v0_5 ?v0_6 ?v0_7 ?v0_8) ?n0 (TL.ExFL.cons (PySem.W.mg_of KX G ?e1) (TL.exv_mk ?v1_0 ?v1_1 ?v1_2 ?v1_3 ?v1_4 ?v1_5 ?v1_6 ?v1_7 ?v1_8) ?n1 (TL.ExFL.cons (PySem.W.mg_of KX G ?e2) (TL.exv_mk ?v2_0 ?v2_1 ?v2_2 ?v2_3 ?v2_4 ?v2_5 ?v2_6 ?v2_7 ?v2_8) ?n2 TL.ExFL.nil)))
      (case e0 => k_is)
      (case v0_0 => k_is)
      (case v0_1 => k_is)
      (case v0_2 => k_is)
      (case v0_3 => k_is)
      (case v0_4 => k_is)
      (case v0_5 => k_is)
      (case v0_6 => k_is)
      (case v0_7 => k_is)
      (case v0_8 => k_is)
      (case n0 => k_is)
      (case e1 => k_is)
      (case v1_0 => k_is)
      (case v1_1 => k_is)
      (case v1_2 => k_is)
      (case v1_3 => k_is)
      (case v1_4 => k_is)
      (case v1_5 => k_is)
      (case v1_6 => k_is)
      (case v1_7 => k_is)
      (case v1_8 => k_is)
      (case n1 => k_is)
      (case e2 => k_is)
      (case v2_0 => k_is)
      (case v2_1 => k_is)
      (case v2_2 => k_is)
      (case v2_3 => k_is)
      (case v2_4 => k_is)
      (case v2_5 => k_is)
      (case v2_6 => k_is)
      (case v2_7 => k_is)
      (case v2_8 => k_is)
      (case n2 => k_is)
    case ex_BadNumber =>
      refine' TL.excTK_mk (st := LW.s_BadNumber___init__) (a := "number") KX G ?ac ?lC ?hbm ?sa ?exC ?tyC ?kC ?iC ?tI ?l ?hb ?hkw ?cd ?lc ?hv ?le ?cC rfl rfl rfl (by decide +kernel) rfl rfl rfl rfl (by decide) ?ei ?mr ?su ?ve ?no ?ta ?B (PySem.W.mg_none_of KX G ?ms)
      (case ac => k_is)
      (case lC => k_is)
      (case hbm => rfl)
      (case sa => k_is)
      (case exC => k_is)
      (case tyC => k_is)
      (case kC => k_is)
      (case iC => k_is)
      (case tI => k_is)
      (case l => k_is)
      (case cd => k_is)
      (case lc => k_is)
      (case hv => rfl)
      (case le => k_is)
      (case cC => k_is)
      (case mr => k_is)
      (case ve => k_is)
      (case no => k_is)
      (case ta => k_is)
      (case ms => k_is)
      (case hkw => (intro _ _ _ _ _ _ _ _ _; rfl))
      (case hb => (intro _ _ _ _ _ _ _ us hl; match us, hl with | [_, _], _ => rfl))
      (case ei => kernel_rfl)
      (case su => kernel_rfl)
      (case B => exact ⟨⟨_, _, _, _, _, _, _, _, _, _, rfl, fun L fI cda cc => ⟨⟨_, rfl⟩, rfl, rfl, rfl⟩⟩, ⟨_, rfl, rfl⟩, rfl, rfl, by decide, by decide⟩)
    case xf_number =>
      refine' TL.exF_mk (TL.ExFL.cons (PySem.W.mg_of KX G ?e0) (TL.exv_mk ?v0_0 ?v0_1 ?v0_2 ?v0_3 ?v0_4 ?v0_5 ?v0_6 ?v0_7 ?v0_8) ?n0 TL.ExFL.nil)
      (case e0 => k_is)
      (case v0_0 => k_is)
      (case v0_1 => k_is)
      (case v0_2 => k_is)
      (case v0_3 => k_is)
      (case v0_4 => k_is)
      (case v0_5 => k_is)
      (case v0_6 => k_is)
      (case v0_7 => k_is)
      (case v0_8 => k_is)
      (case n0 => k_is)
    case ex_BadText =>
      refine' TL.excTK_mk (st := LW.s_BadText___init__) (a := "line") KX G ?ac ?lC ?hbm ?sa ?exC ?tyC ?kC ?iC ?tI ?l ?hb ?hkw ?cd ?lc ?hv ?le ?cC rfl rfl rfl (by decide +kernel) rfl rfl rfl rfl (by decide) ?ei ?mr ?su ?ve ?no ?ta ?B (PySem.W.mg_none_of KX G ?ms)
      (case ac => k_is)
      (case lC => k_is)
      (case hbm => rfl)
      (case sa => k_is)
      (case exC => k_is)
      (case tyC => k_is)
      (case kC => k_is)
      (case iC => k_is)
      (case tI => k_is)
      (case l => k_is)
      (case cd => k_is)
      (case lc => k_is)
      (case hv => rfl)
      (case le => k_is)
      (case cC => k_is)
      (case mr => k_is)
      (case ve => k_is)
      (case no => k_is)
      (case ta => k_is)
      (case ms => k_is)
      (case hkw => (intro _ _ _ _ _ _ _ _ _; rfl))
      (case hb => (intro _ _ _ _ _ _ _ us hl; match us, hl with | [_, _], _ => rfl))
      (case ei => kernel_rfl)
      (case su => kernel_rfl)
      (case B => exact ⟨⟨_, _, _, _, _, _, _, _, _, _, rfl, fun L fI cda cc => ⟨⟨_, rfl⟩, rfl, rfl, rfl⟩⟩, ⟨_, rfl, rfl⟩, rfl, rfl, by decide, by decide⟩)
    case xf_line =>
      refine' TL.exF_mk (TL.ExFL.cons (PySem.W.mg_of KX G ?e0) (TL.exv_mk ?v0_0 ?v0_1 ?v0_2 ?v0_3 ?v0_4 ?v0_5 ?v0_6 ?v0_7 ?v0_8) ?n0 TL.ExFL.nil)
      (case e0 => k_is)
      (case v0_0 => k_is)
      (case v0_1 => k_is)
      (case v0_2 => k_is)
      (case v0_3 => k_is)
      (case v0_4 => k_is)
      (case v0_5 => k_is)
      (case v0_6 => k_is)
      (case v0_7 => k_is)
      (case v0_8 => k_is)
      (case n0 => k_is)
    case A__law_marks =>
      refine' TL.funAt_mk KX G ?hb ?a ?l ?c ?k
      (case a => k_is)
      (case l => k_is)
      (case c => k_is)
      (case k => k_is)
      (case hb => (intro _ _ _ _ _ _ us hl; match us, hl with | [_], _ => rfl))
    case m_isinstance =>
      refine' PySem.W.mg_none_of KX G ?z
      (case z => k_is)
    case x_BadMemory =>
      refine' TL.isX_mk KX G ?ac ?tk (TL.IsXL.cons (PySem.W.mg_of KX G ?e0) (TL.exv_mk ?v0_0 ?v0_1 ?v0_2 ?v0_3 ?v0_4 ?v0_5 ?v0_6 ?v0_7 ?v0_8) ?k0 (TL.IsXL.cons (PySem.W.mg_of KX G ?e1) (TL.exv_mk ?v1_0 ?v1_1 ?v1_2 ?v1_3 ?v1_4 ?v1_5 ?v1_6 ?v1_7 ?v1_8) ?k1 (TL.IsXL.cons (PySem.W.mg_of KX G ?e2) (TL.exv_mk ?v2_0 ?v2_1 ?v2_2 ?v2_3 ?v2_4 ?v2_5 ?v2_6 ?v2_7 ?v2_8) ?k2 (TL.IsXL.cons (PySem.W.mg_of KX G ?e3) (TL.exv_mk ?v3_0 ?v3_1 ?v3_2 ?v3_3 ?v3_4 ?v3_5 ?v3_6 ?v3_7 ?v3_8) ?k3 (TL.IsXL.cons (PySem.W.mg_of KX G ?e4) (TL.exv_mk ?v4_0 ?v4_1 ?v4_2 ?v4_3 ?v4_4 ?v4_5 ?v4_6 ?v4_7 ?v4_8) ?k4 (TL.IsXL.cons (PySem.W.mg_of KX G ?e5) (TL.exv_mk ?v5_0 ?v5_1 ?v5_2 ?v5_3 ?v5_4 ?v5_5 ?v5_6 ?v5_7 ?v5_8) ?k5 (TL.IsXL.cons (PySem.W.mg_of KX G ?e6) (TL.exv_mk ?v6_0 ?v6_1 ?v6_2 ?v6_3 ?v6_4 ?v6_5 ?v6_6 ?v6_7 ?v6_8) ?k6 (TL.IsXL.cons (PySem.W.mg_of KX G ?e7) (TL.exv_mk ?v7_0 ?v7_1 ?v7_2 ?v7_3 ?v7_4 ?v7_5 ?v7_6 ?v7_7 ?v7_8) ?k7 (TL.IsXL.cons (PySem.W.mg_of KX G ?e8) (TL.exv_mk ?v8_0 ?v8_1 ?v8_2 ?v8_3 ?v8_4 ?v8_5 ?v8_6 ?v8_7 ?v8_8) ?k8 (TL.IsXL.cons (PySem.W.mg_of KX G ?e9) (TL.exv_mk ?v9_0 ?v9_1 ?v9_2 ?v9_3 ?v9_4 ?v9_5 ?v9_6 ?v9_7 ?v9_8) ?k9 (TL.IsXL.cons (PySem.W.mg_of KX G ?e10) (TL.exv_mk ?v10_0 ?v10_1 ?v10_2 ?v10_3 ?v10_4 ?v10_5 ?v10_6 ?v10_7 ?v10_8) ?k10 (TL.IsXL.cons (PySem.W.mg_of KX G ?e11) (TL.exv_mk ?v11_0 ?v11_1 ?v11_2 ?v11_3 ?v11_4 ?v11_5 ?v11_6 ?v11_7 ?v11_8) ?k11 (TL.IsXL.cons (PySem.W.mg_of KX G ?e12) (TL.exv_mk ?v12_0 ?v12_1 ?v12_2 ?v12_3 ?v12_4 ?v12_5 ?v12_6 ?v12_7 ?v12_8) ?k12 (TL.IsXL.cons (PySem.W.mg_of KX G ?e13) (TL.exv_mk ?v13_0 ?v13_1 ?v13_2 ?v13_3 ?v13_4 ?v13_5 ?v13_6 ?v13_7 ?v13_8) ?k13 TL.IsXL.nil))))))))))))))
      (case ac => k_is)
      (case e0 => k_is)
      (case v0_0 => k_is)
      (case v0_1 => k_is)
      (case v0_2 => k_is)
      (case v0_3 => k_is)
      (case v0_4 => k_is)
      (case v0_5 => k_is)
      (case v0_6 => k_is)
      (case v0_7 => k_is)
      (case v0_8 => k_is)
      (case k0 => kit_is)
      (case e1 => k_is)
      (case v1_0 => k_is)
      (case v1_1 => k_is)
      (case v1_2 => k_is)
      (case v1_3 => k_is)
      (case v1_4 => k_is)
      (case v1_5 => k_is)
      (case v1_6 => k_is)
      (case v1_7 => k_is)
      (case v1_8 => k_is)
      (case k1 => kit_is)
      (case e2 => k_is)
      (case v2_0 => k_is)
      (case v2_1 => k_is)
      (case v2_2 => k_is)
      (case v2_3 => k_is)
      (case v2_4 => k_is)
      (case v2_5 => k_is)
      (case v2_6 => k_is)
      (case v2_7 => k_is)
      (case v2_8 => k_is)
      (case k2 => kit_is)
      (case e3 => k_is)
      (case v3_0 => k_is)
      (case v3_1 => k_is)
      (case v3_2 => k_is)
      (case v3_3 => k_is)
      (case v3_4 => k_is)
      (case v3_5 => k_is)
      (case v3_6 => k_is)
      (case v3_7 => k_is)
      (case v3_8 => k_is)
      (case k3 => kit_is)
      (case e4 => k_is)
      (case v4_0 => k_is)
      (case v4_1 => k_is)
      (case v4_2 => k_is)
      (case v4_3 => k_is)
      (case v4_4 => k_is)
      (case v4_5 => k_is)
      (case v4_6 => k_is)
      (case v4_7 => k_is)
      (case v4_8 => k_is)
      (case k4 => kit_is)
      (case e5 => k_is)
      (case v5_0 => k_is)
      (case v5_1 => k_is)
      (case v5_2 => k_is)
      (case v5_3 => k_is)
      (case v5_4 => k_is)
      (case v5_5 => k_is)
      (case v5_6 => k_is)
      (case v5_7 => k_is)
      (case v5_8 => k_is)
      (case k5 => kit_is)
      (case e6 => k_is)
      (case v6_0 => k_is)
      (case v6_1 => k_is)
      (case v6_2 => k_is)
      (case v6_3 => k_is)
      (case v6_4 => k_is)
      (case v6_5 => k_is)
      (case v6_6 => k_is)
      (case v6_7 => k_is)
      (case v6_8 => k_is)
      (case k6 => kit_is)
      (case e7 => k_is)
      (case v7_0 => k_is)
      (case v7_1 => k_is)
      (case v7_2 => k_is)
      (case v7_3 => k_is)
      (case v7_4 => k_is)
      (case v7_5 => k_is)
      (case v7_6 => k_is)
      (case v7_7 => k_is)
      (case v7_8 => k_is)
      (case k7 => kit_is)
      (case e8 => k_is)
      (case v8_0 => k_is)
      (case v8_1 => k_is)
      (case v8_2 => k_is)
      (case v8_3 => k_is)
      (case v8_4 => k_is)
      (case v8_5 => k_is)
      (case v8_6 => k_is)
      (case v8_7 => k_is)
      (case v8_8 => k_is)
      (case k8 => kit_is)
      (case e9 => k_is)
      (case v9_0 => k_is)
      (case v9_1 => k_is)
      (case v9_2 => k_is)
      (case v9_3 => k_is)
      (case v9_4 => k_is)
      (case v9_5 => k_is)
      (case v9_6 => k_is)
      (case v9_7 => k_is)
      (case v9_8 => k_is)
      (case k9 => kit_is)
      (case e10 => k_is)
      (case v10_0 => k_is)
      (case v10_1 => k_is)
      (case v10_2 => k_is)
      (case v10_3 => k_is)
      (case v10_4 => k_is)
      (case v10_5 => k_is)
      (case v10_6 => k_is)
      (case v10_7 => k_is)
      (case v10_8 => k_is)
      (case k10 => kit_is)
      (case e11 => k_is)
      (case v11_0 => k_is)
      (case v11_1 => k_is)
      (case v11_2 => k_is)
      (case v11_3 => k_is)
      (case v11_4 => k_is)
      (case v11_5 => k_is)
      (case v11_6 => k_is)
      (case v11_7 => k_is)
      (case v11_8 => k_is)
      (case k11 => kit_is)
      (case e12 => k_is)
      (case v12_0 => k_is)
      (case v12_1 => k_is)
      (case v12_2 => k_is)
      (case v12_3 => k_is)
      (case v12_4 => k_is)
      (case v12_5 => k_is)
      (case v12_6 => k_is)
      (case v12_7 => k_is)
      (case v12_8 => k_is)
      (case k12 => kit_is)
      (case e13 => k_is)
      (case v13_0 => k_is)
      (case v13_1 => k_is)
      (case v13_2 => k_is)
      (case v13_3 => k_is)
      (case v13_4 => k_is)
      (case v13_5 => k_is)
      (case v13_6 => k_is)
      (case v13_7 => k_is)
      (case v13_8 => k_is)
      (case k13 => kit_is)
      (case tk => (intro b hb; simp only [TL.aTys, List.mem_cons, List.not_mem_nil, or_false] at hb; rcases hb with rfl | rfl | rfl | rfl | rfl | rfl | rfl <;> kit_is))
    case x_BadKey =>
      refine' TL.isX_mk KX G ?ac ?tk (TL.IsXL.cons (PySem.W.mg_of KX G ?e0) (TL.exv_mk ?v0_0 ?v0_1 ?v0_2 ?v0_3 ?v0_4 ?v0_5 ?v0_6 ?v0_7 ?v0_8) ?k0 (TL.IsXL.cons (PySem.W.mg_of KX G ?e1) (TL.exv_mk ?v1_0 ?v1_1 ?v1_2 ?v1_3 ?v1_4 ?v1_5 ?v1_6 ?v1_7 ?v1_8) ?k1 (TL.IsXL.cons (PySem.W.mg_of KX G ?e2) (TL.exv_mk ?v2_0 ?v2_1 ?v2_2 ?v2_3 ?v2_4 ?v2_5 ?v2_6 ?v2_7 ?v2_8) ?k2 (TL.IsXL.cons (PySem.W.mg_of KX G ?e3) (TL.exv_mk ?v3_0 ?v3_1 ?v3_2 ?v3_3 ?v3_4 ?v3_5 ?v3_6 ?v3_7 ?v3_8) ?k3 (TL.IsXL.cons (PySem.W.mg_of KX G ?e4) (TL.exv_mk ?v4_0 ?v4_1 ?v4_2 ?v4_3 ?v4_4 ?v4_5 ?v4_6 ?v4_7 ?v4_8) ?k4 (TL.IsXL.cons (PySem.W.mg_of KX G ?e5) (TL.exv_mk ?v5_0 ?v5_1 ?v5_2 ?v5_3 ?v5_4 ?v5_5 ?v5_6 ?v5_7 ?v5_8) ?k5 (TL.IsXL.cons (PySem.W.mg_of KX G ?e6) (TL.exv_mk ?v6_0 ?v6_1 ?v6_2 ?v6_3 ?v6_4 ?v6_5 ?v6_6 ?v6_7 ?v6_8) ?k6 (TL.IsXL.cons (PySem.W.mg_of KX G ?e7) (TL.exv_mk ?v7_0 ?v7_1 ?v7_2 ?v7_3 ?v7_4 ?v7_5 ?v7_6 ?v7_7 ?v7_8) ?k7 (TL.IsXL.cons (PySem.W.mg_of KX G ?e8) (TL.exv_mk ?v8_0 ?v8_1 ?v8_2 ?v8_3 ?v8_4 ?v8_5 ?v8_6 ?v8_7 ?v8_8) ?k8 (TL.IsXL.cons (PySem.W.mg_of KX G ?e9) (TL.exv_mk ?v9_0 ?v9_1 ?v9_2 ?v9_3 ?v9_4 ?v9_5 ?v9_6 ?v9_7 ?v9_8) ?k9 (TL.IsXL.cons (PySem.W.mg_of KX G ?e10) (TL.exv_mk ?v10_0 ?v10_1 ?v10_2 ?v10_3 ?v10_4 ?v10_5 ?v10_6 ?v10_7 ?v10_8) ?k10 (TL.IsXL.cons (PySem.W.mg_of KX G ?e11) (TL.exv_mk ?v11_0 ?v11_1 ?v11_2 ?v11_3 ?v11_4 ?v11_5 ?v11_6 ?v11_7 ?v11_8) ?k11 (TL.IsXL.cons (PySem.W.mg_of KX G ?e12) (TL.exv_mk ?v12_0 ?v12_1 ?v12_2 ?v12_3 ?v12_4 ?v12_5 ?v12_6 ?v12_7 ?v12_8) ?k12 (TL.IsXL.cons (PySem.W.mg_of KX G ?e13) (TL.exv_mk ?v13_0 ?v13_1 ?v13_2 ?v13_3 ?v13_4 ?v13_5 ?v13_6 ?v13_7 ?v13_8) ?k13 TL.IsXL.nil))))))))))))))
      (case ac => k_is)
      (case e0 => k_is)
      (case v0_0 => k_is)
      (case v0_1 => k_is)
      (case v0_2 => k_is)
      (case v0_3 => k_is)
      (case v0_4 => k_is)
      (case v0_5 => k_is)
      (case v0_6 => k_is)
      (case v0_7 => k_is)
      (case v0_8 => k_is)
      (case k0 => kit_is)
      (case e1 => k_is)
      (case v1_0 => k_is)
      (case v1_1 => k_is)
      (case v1_2 => k_is)
      (case v1_3 => k_is)
      (case v1_4 => k_is)
      (case v1_5 => k_is)
      (case v1_6 => k_is)
      (case v1_7 => k_is)
      (case v1_8 => k_is)
      (case k1 => kit_is)
      (case e2 => k_is)
      (case v2_0 => k_is)
      (case v2_1 => k_is)
      (case v2_2 => k_is)
      (case v2_3 => k_is)
      (case v2_4 => k_is)
      (case v2_5 => k_is)
      (case v2_6 => k_is)
      (case v2_7 => k_is)
      (case v2_8 => k_is)
      (case k2 => kit_is)
      (case e3 => k_is)
      (case v3_0 => k_is)
      (case v3_1 => k_is)
      (case v3_2 => k_is)
      (case v3_3 => k_is)
      (case v3_4 => k_is)
      (case v3_5 => k_is)
      (case v3_6 => k_is)
      (case v3_7 => k_is)
      (case v3_8 => k_is)
      (case k3 => kit_is)
      (case e4 => k_is)
      (case v4_0 => k_is)
      (case v4_1 => k_is)
      (case v4_2 => k_is)
      (case v4_3 => k_is)
      (case v4_4 => k_is)
      (case v4_5 => k_is)
      (case v4_6 => k_is)
      (case v4_7 => k_is)
      (case v4_8 => k_is)
      (case k4 => kit_is)
      (case e5 => k_is)
      (case v5_0 => k_is)
      (case v5_1 => k_is)
      (case v5_2 => k_is)
      (case v5_3 => k_is)
      (case v5_4 => k_is)
      (case v5_5 => k_is)
      (case v5_6 => k_is)
      (case v5_7 => k_is)
      (case v5_8 => k_is)
      (case k5 => kit_is)
      (case e6 => k_is)
      (case v6_0 => k_is)
      (case v6_1 => k_is)
      (case v6_2 => k_is)
      (case v6_3 => k_is)
      (case v6_4 => k_is)
      (case v6_5 => k_is)
      (case v6_6 => k_is)
      (case v6_7 => k_is)
      (case v6_8 => k_is)
      (case k6 => kit_is)
      (case e7 => k_is)
      (case v7_0 => k_is)
      (case v7_1 => k_is)
      (case v7_2 => k_is)
      (case v7_3 => k_is)
      (case v7_4 => k_is)
      (case v7_5 => k_is)
      (case v7_6 => k_is)
      (case v7_7 => k_is)
      (case v7_8 => k_is)
      (case k7 => kit_is)
      (case e8 => k_is)
      (case v8_0 => k_is)
      (case v8_1 => k_is)
      (case v8_2 => k_is)
      (case v8_3 => k_is)
      (case v8_4 => k_is)
      (case v8_5 => k_is)
      (case v8_6 => k_is)
      (case v8_7 => k_is)
      (case v8_8 => k_is)
      (case k8 => kit_is)
      (case e9 => k_is)
      (case v9_0 => k_is)
      (case v9_1 => k_is)
      (case v9_2 => k_is)
      (case v9_3 => k_is)
      (case v9_4 => k_is)
      (case v9_5 => k_is)
      (case v9_6 => k_is)
      (case v9_7 => k_is)
      (case v9_8 => k_is)
      (case k9 => kit_is)
      (case e10 => k_is)
      (case v10_0 => k_is)
      (case v10_1 => k_is)
      (case v10_2 => k_is)
      (case v10_3 => k_is)
      (case v10_4 => k_is)
      (case v10_5 => k_is)
      (case v10_6 => k_is)
      (case v10_7 => k_is)
      (case v10_8 => k_is)
      (case k10 => kit_is)
      (case e11 => k_is)
      (case v11_0 => k_is)
      (case v11_1 => k_is)
      (case v11_2 => k_is)
      (case v11_3 => k_is)
      (case v11_4 => k_is)
      (case v11_5 => k_is)
      (case v11_6 => k_is)
      (case v11_7 => k_is)
      (case v11_8 => k_is)
      (case k11 => kit_is)
      (case e12 => k_is)
      (case v12_0 => k_is)
      (case v12_1 => k_is)
      (case v12_2 => k_is)
      (case v12_3 => k_is)
      (case v12_4 => k_is)
      (case v12_5 => k_is)
      (case v12_6 => k_is)
      (case v12_7 => k_is)
      (case v12_8 => k_is)
      (case k12 => kit_is)
      (case e13 => k_is)
      (case v13_0 => k_is)
      (case v13_1 => k_is)
      (case v13_2 => k_is)
      (case v13_3 => k_is)
      (case v13_4 => k_is)
      (case v13_5 => k_is)
      (case v13_6 => k_is)
      (case v13_7 => k_is)
      (case v13_8 => k_is)
      (case k13 => kit_is)
      (case tk => (intro b hb; simp only [TL.aTys, List.mem_cons, List.not_mem_nil, or_false] at hb; rcases hb with rfl | rfl | rfl | rfl | rfl | rfl | rfl <;> kit_is))
    case x_BadRule =>
      refine' TL.isX_mk KX G ?ac ?tk (TL.IsXL.cons (PySem.W.mg_of KX G ?e0) (TL.exv_mk ?v0_0 ?v0_1 ?v0_2 ?v0_3 ?v0_4 ?v0_5 ?v0_6 ?v0_7 ?v0_8) ?k0 (TL.IsXL.cons (PySem.W.mg_of KX G ?e1) (TL.exv_mk ?v1_0 ?v1_1 ?v1_2 ?v1_3 ?v1_4 ?v1_5 ?v1_6 ?v1_7 ?v1_8) ?k1 (TL.IsXL.cons (PySem.W.mg_of KX G ?e2) (TL.exv_mk ?v2_0 ?v2_1 ?v2_2 ?v2_3 ?v2_4 ?v2_5 ?v2_6 ?v2_7 ?v2_8) ?k2 (TL.IsXL.cons (PySem.W.mg_of KX G ?e3) (TL.exv_mk ?v3_0 ?v3_1 ?v3_2 ?v3_3 ?v3_4 ?v3_5 ?v3_6 ?v3_7 ?v3_8) ?k3 (TL.IsXL.cons (PySem.W.mg_of KX G ?e4) (TL.exv_mk ?v4_0 ?v4_1 ?v4_2 ?v4_3 ?v4_4 ?v4_5 ?v4_6 ?v4_7 ?v4_8) ?k4 (TL.IsXL.cons (PySem.W.mg_of KX G ?e5) (TL.exv_mk ?v5_0 ?v5_1 ?v5_2 ?v5_3 ?v5_4 ?v5_5 ?v5_6 ?v5_7 ?v5_8) ?k5 (TL.IsXL.cons (PySem.W.mg_of KX G ?e6) (TL.exv_mk ?v6_0 ?v6_1 ?v6_2 ?v6_3 ?v6_4 ?v6_5 ?v6_6 ?v6_7 ?v6_8) ?k6 (TL.IsXL.cons (PySem.W.mg_of KX G ?e7) (TL.exv_mk ?v7_0 ?v7_1 ?v7_2 ?v7_3 ?v7_4 ?v7_5 ?v7_6 ?v7_7 ?v7_8) ?k7 (TL.IsXL.cons (PySem.W.mg_of KX G ?e8) (TL.exv_mk ?v8_0 ?v8_1 ?v8_2 ?v8_3 ?v8_4 ?v8_5 ?v8_6 ?v8_7 ?v8_8) ?k8 (TL.IsXL.cons (PySem.W.mg_of KX G ?e9) (TL.exv_mk ?v9_0 ?v9_1 ?v9_2 ?v9_3 ?v9_4 ?v9_5 ?v9_6 ?v9_7 ?v9_8) ?k9 (TL.IsXL.cons (PySem.W.mg_of KX G ?e10) (TL.exv_mk ?v10_0 ?v10_1 ?v10_2 ?v10_3 ?v10_4 ?v10_5 ?v10_6 ?v10_7 ?v10_8) ?k10 (TL.IsXL.cons (PySem.W.mg_of KX G ?e11) (TL.exv_mk ?v11_0 ?v11_1 ?v11_2 ?v11_3 ?v11_4 ?v11_5 ?v11_6 ?v11_7 ?v11_8) ?k11 (TL.IsXL.cons (PySem.W.mg_of KX G ?e12) (TL.exv_mk ?v12_0 ?v12_1 ?v12_2 ?v12_3 ?v12_4 ?v12_5 ?v12_6 ?v12_7 ?v12_8) ?k12 (TL.IsXL.cons (PySem.W.mg_of KX G ?e13) (TL.exv_mk ?v13_0 ?v13_1 ?v13_2 ?v13_3 ?v13_4 ?v13_5 ?v13_6 ?v13_7 ?v13_8) ?k13 TL.IsXL.nil))))))))))))))
      (case ac => k_is)
      (case e0 => k_is)
      (case v0_0 => k_is)
      (case v0_1 => k_is)
      (case v0_2 => k_is)
      (case v0_3 => k_is)
      (case v0_4 => k_is)
      (case v0_5 => k_is)
      (case v0_6 => k_is)
      (case v0_7 => k_is)
      (case v0_8 => k_is)
      (case k0 => kit_is)
      (case e1 => k_is)
      (case v1_0 => k_is)
      (case v1_1 => k_is)
      (case v1_2 => k_is)
      (case v1_3 => k_is)
      (case v1_4 => k_is)
      (case v1_5 => k_is)
      (case v1_6 => k_is)
      (case v1_7 => k_is)
      (case v1_8 => k_is)
      (case k1 => kit_is)
      (case e2 => k_is)
      (case v2_0 => k_is)
      (case v2_1 => k_is)
      (case v2_2 => k_is)
      (case v2_3 => k_is)
      (case v2_4 => k_is)
      (case v2_5 => k_is)
      (case v2_6 => k_is)
      (case v2_7 => k_is)
      (case v2_8 => k_is)
      (case k2 => kit_is)
      (case e3 => k_is)
      (case v3_0 => k_is)
      (case v3_1 => k_is)
      (case v3_2 => k_is)
      (case v3_3 => k_is)
      (case v3_4 => k_is)
      (case v3_5 => k_is)
      (case v3_6 => k_is)
      (case v3_7 => k_is)
      (case v3_8 => k_is)
      (case k3 => kit_is)
      (case e4 => k_is)
      (case v4_0 => k_is)
      (case v4_1 => k_is)
      (case v4_2 => k_is)
      (case v4_3 => k_is)
      (case v4_4 => k_is)
      (case v4_5 => k_is)
      (case v4_6 => k_is)
      (case v4_7 => k_is)
      (case v4_8 => k_is)
      (case k4 => kit_is)
      (case e5 => k_is)
      (case v5_0 => k_is)
      (case v5_1 => k_is)
      (case v5_2 => k_is)
      (case v5_3 => k_is)
      (case v5_4 => k_is)
      (case v5_5 => k_is)
      (case v5_6 => k_is)
      (case v5_7 => k_is)
      (case v5_8 => k_is)
      (case k5 => kit_is)
      (case e6 => k_is)
      (case v6_0 => k_is)
      (case v6_1 => k_is)
      (case v6_2 => k_is)
      (case v6_3 => k_is)
      (case v6_4 => k_is)
      (case v6_5 => k_is)
      (case v6_6 => k_is)
      (case v6_7 => k_is)
      (case v6_8 => k_is)
      (case k6 => kit_is)
      (case e7 => k_is)
      (case v7_0 => k_is)
      (case v7_1 => k_is)
      (case v7_2 => k_is)
      (case v7_3 => k_is)
      (case v7_4 => k_is)
      (case v7_5 => k_is)
      (case v7_6 => k_is)
      (case v7_7 => k_is)
      (case v7_8 => k_is)
      (case k7 => kit_is)
      (case e8 => k_is)
      (case v8_0 => k_is)
      (case v8_1 => k_is)
      (case v8_2 => k_is)
      (case v8_3 => k_is)
      (case v8_4 => k_is)
      (case v8_5 => k_is)
      (case v8_6 => k_is)
      (case v8_7 => k_is)
      (case v8_8 => k_is)
      (case k8 => kit_is)
      (case e9 => k_is)
      (case v9_0 => k_is)
      (case v9_1 => k_is)
      (case v9_2 => k_is)
      (case v9_3 => k_is)
      (case v9_4 => k_is)
      (case v9_5 => k_is)
      (case v9_6 => k_is)
      (case v9_7 => k_is)
      (case v9_8 => k_is)
      (case k9 => kit_is)
      (case e10 => k_is)
      (case v10_0 => k_is)
      (case v10_1 => k_is)
      (case v10_2 => k_is)
      (case v10_3 => k_is)
      (case v10_4 => k_is)
      (case v10_5 => k_is)
      (case v10_6 => k_is)
      (case v10_7 => k_is)
      (case v10_8 => k_is)
      (case k10 => kit_is)
      (case e11 => k_is)
      (case v11_0 => k_is)
      (case v11_1 => k_is)
      (case v11_2 => k_is)
      (case v11_3 => k_is)
      (case v11_4 => k_is)
      (case v11_5 => k_is)
      (case v11_6 => k_is)
      (case v11_7 => k_is)
      (case v11_8 => k_is)
      (case k11 => kit_is)
      (case e12 => k_is)
      (case v12_0 => k_is)
      (case v12_1 => k_is)
      (case v12_2 => k_is)
      (case v12_3 => k_is)
      (case v12_4 => k_is)
      (case v12_5 => k_is)
      (case v12_6 => k_is)
      (case v12_7 => k_is)
      (case v12_8 => k_is)
      (case k12 => kit_is)
      (case e13 => k_is)
      (case v13_0 => k_is)
      (case v13_1 => k_is)
      (case v13_2 => k_is)
      (case v13_3 => k_is)
      (case v13_4 => k_is)
      (case v13_5 => k_is)
      (case v13_6 => k_is)
      (case v13_7 => k_is)
      (case v13_8 => k_is)
      (case k13 => kit_is)
      (case tk => (intro b hb; simp only [TL.aTys, List.mem_cons, List.not_mem_nil, or_false] at hb; rcases hb with rfl | rfl | rfl | rfl | rfl | rfl | rfl <;> kit_is))
    case x_BadWish =>
      refine' TL.isX_mk KX G ?ac ?tk (TL.IsXL.cons (PySem.W.mg_of KX G ?e0) (TL.exv_mk ?v0_0 ?v0_1 ?v0_2 ?v0_3 ?v0_4 ?v0_5 ?v0_6 ?v0_7 ?v0_8) ?k0 (TL.IsXL.cons (PySem.W.mg_of KX G ?e1) (TL.exv_mk ?v1_0 ?v1_1 ?v1_2 ?v1_3 ?v1_4 ?v1_5 ?v1_6 ?v1_7 ?v1_8) ?k1 (TL.IsXL.cons (PySem.W.mg_of KX G ?e2) (TL.exv_mk ?v2_0 ?v2_1 ?v2_2 ?v2_3 ?v2_4 ?v2_5 ?v2_6 ?v2_7 ?v2_8) ?k2 (TL.IsXL.cons (PySem.W.mg_of KX G ?e3) (TL.exv_mk ?v3_0 ?v3_1 ?v3_2 ?v3_3 ?v3_4 ?v3_5 ?v3_6 ?v3_7 ?v3_8) ?k3 (TL.IsXL.cons (PySem.W.mg_of KX G ?e4) (TL.exv_mk ?v4_0 ?v4_1 ?v4_2 ?v4_3 ?v4_4 ?v4_5 ?v4_6 ?v4_7 ?v4_8) ?k4 (TL.IsXL.cons (PySem.W.mg_of KX G ?e5) (TL.exv_mk ?v5_0 ?v5_1 ?v5_2 ?v5_3 ?v5_4 ?v5_5 ?v5_6 ?v5_7 ?v5_8) ?k5 (TL.IsXL.cons (PySem.W.mg_of KX G ?e6) (TL.exv_mk ?v6_0 ?v6_1 ?v6_2 ?v6_3 ?v6_4 ?v6_5 ?v6_6 ?v6_7 ?v6_8) ?k6 (TL.IsXL.cons (PySem.W.mg_of KX G ?e7) (TL.exv_mk ?v7_0 ?v7_1 ?v7_2 ?v7_3 ?v7_4 ?v7_5 ?v7_6 ?v7_7 ?v7_8) ?k7 (TL.IsXL.cons (PySem.W.mg_of KX G ?e8) (TL.exv_mk ?v8_0 ?v8_1 ?v8_2 ?v8_3 ?v8_4 ?v8_5 ?v8_6 ?v8_7 ?v8_8) ?k8 (TL.IsXL.cons (PySem.W.mg_of KX G ?e9) (TL.exv_mk ?v9_0 ?v9_1 ?v9_2 ?v9_3 ?v9_4 ?v9_5 ?v9_6 ?v9_7 ?v9_8) ?k9 (TL.IsXL.cons (PySem.W.mg_of KX G ?e10) (TL.exv_mk ?v10_0 ?v10_1 ?v10_2 ?v10_3 ?v10_4 ?v10_5 ?v10_6 ?v10_7 ?v10_8) ?k10 (TL.IsXL.cons (PySem.W.mg_of KX G ?e11) (TL.exv_mk ?v11_0 ?v11_1 ?v11_2 ?v11_3 ?v11_4 ?v11_5 ?v11_6 ?v11_7 ?v11_8) ?k11 (TL.IsXL.cons (PySem.W.mg_of KX G ?e12) (TL.exv_mk ?v12_0 ?v12_1 ?v12_2 ?v12_3 ?v12_4 ?v12_5 ?v12_6 ?v12_7 ?v12_8) ?k12 (TL.IsXL.cons (PySem.W.mg_of KX G ?e13) (TL.exv_mk ?v13_0 ?v13_1 ?v13_2 ?v13_3 ?v13_4 ?v13_5 ?v13_6 ?v13_7 ?v13_8) ?k13 TL.IsXL.nil))))))))))))))
      (case ac => k_is)
      (case e0 => k_is)
      (case v0_0 => k_is)
      (case v0_1 => k_is)
      (case v0_2 => k_is)
      (case v0_3 => k_is)
      (case v0_4 => k_is)
      (case v0_5 => k_is)
      (case v0_6 => k_is)
      (case v0_7 => k_is)
      (case v0_8 => k_is)
      (case k0 => kit_is)
      (case e1 => k_is)
      (case v1_0 => k_is)
      (case v1_1 => k_is)
      (case v1_2 => k_is)
      (case v1_3 => k_is)
      (case v1_4 => k_is)
      (case v1_5 => k_is)
      (case v1_6 => k_is)
      (case v1_7 => k_is)
      (case v1_8 => k_is)
      (case k1 => kit_is)
      (case e2 => k_is)
      (case v2_0 => k_is)
      (case v2_1 => k_is)
      (case v2_2 => k_is)
      (case v2_3 => k_is)
      (case v2_4 => k_is)
      (case v2_5 => k_is)
      (case v2_6 => k_is)
      (case v2_7 => k_is)
      (case v2_8 => k_is)
      (case k2 => kit_is)
      (case e3 => k_is)
      (case v3_0 => k_is)
      (case v3_1 => k_is)
      (case v3_2 => k_is)
      (case v3_3 => k_is)
      (case v3_4 => k_is)
      (case v3_5 => k_is)
      (case v3_6 => k_is)
      (case v3_7 => k_is)
      (case v3_8 => k_is)
      (case k3 => kit_is)
      (case e4 => k_is)
      (case v4_0 => k_is)
      (case v4_1 => k_is)
      (case v4_2 => k_is)
      (case v4_3 => k_is)
      (case v4_4 => k_is)
      (case v4_5 => k_is)
      (case v4_6 => k_is)
      (case v4_7 => k_is)
      (case v4_8 => k_is)
      (case k4 => kit_is)
      (case e5 => k_is)
      (case v5_0 => k_is)
      (case v5_1 => k_is)
      (case v5_2 => k_is)
      (case v5_3 => k_is)
      (case v5_4 => k_is)
      (case v5_5 => k_is)
      (case v5_6 => k_is)
      (case v5_7 => k_is)
      (case v5_8 => k_is)
      (case k5 => kit_is)
      (case e6 => k_is)
      (case v6_0 => k_is)
      (case v6_1 => k_is)
      (case v6_2 => k_is)
      (case v6_3 => k_is)
      (case v6_4 => k_is)
      (case v6_5 => k_is)
      (case v6_6 => k_is)
      (case v6_7 => k_is)
      (case v6_8 => k_is)
      (case k6 => kit_is)
      (case e7 => k_is)
      (case v7_0 => k_is)
      (case v7_1 => k_is)
      (case v7_2 => k_is)
      (case v7_3 => k_is)
      (case v7_4 => k_is)
      (case v7_5 => k_is)
      (case v7_6 => k_is)
      (case v7_7 => k_is)
      (case v7_8 => k_is)
      (case k7 => kit_is)
      (case e8 => k_is)
      (case v8_0 => k_is)
      (case v8_1 => k_is)
      (case v8_2 => k_is)
      (case v8_3 => k_is)
      (case v8_4 => k_is)
      (case v8_5 => k_is)
      (case v8_6 => k_is)
      (case v8_7 => k_is)
      (case v8_8 => k_is)
      (case k8 => kit_is)
      (case e9 => k_is)
      (case v9_0 => k_is)
      (case v9_1 => k_is)
      (case v9_2 => k_is)
      (case v9_3 => k_is)
      (case v9_4 => k_is)
      (case v9_5 => k_is)
      (case v9_6 => k_is)
      (case v9_7 => k_is)
      (case v9_8 => k_is)
      (case k9 => kit_is)
      (case e10 => k_is)
      (case v10_0 => k_is)
      (case v10_1 => k_is)
      (case v10_2 => k_is)
      (case v10_3 => k_is)
      (case v10_4 => k_is)
      (case v10_5 => k_is)
      (case v10_6 => k_is)
      (case v10_7 => k_is)
      (case v10_8 => k_is)
      (case k10 => kit_is)
      (case e11 => k_is)
      (case v11_0 => k_is)
      (case v11_1 => k_is)
      (case v11_2 => k_is)
      (case v11_3 => k_is)
      (case v11_4 => k_is)
      (case v11_5 => k_is)
      (case v11_6 => k_is)
      (case v11_7 => k_is)
      (case v11_8 => k_is)
      (case k11 => kit_is)
      (case e12 => k_is)
      (case v12_0 => k_is)
      (case v12_1 => k_is)
      (case v12_2 => k_is)
      (case v12_3 => k_is)
      (case v12_4 => k_is)
      (case v12_5 => k_is)
      (case v12_6 => k_is)
      (case v12_7 => k_is)
      (case v12_8 => k_is)
      (case k12 => kit_is)
      (case e13 => k_is)
      (case v13_0 => k_is)
      (case v13_1 => k_is)
      (case v13_2 => k_is)
      (case v13_3 => k_is)
      (case v13_4 => k_is)
      (case v13_5 => k_is)
      (case v13_6 => k_is)
      (case v13_7 => k_is)
      (case v13_8 => k_is)
      (case k13 => kit_is)
      (case tk => (intro b hb; simp only [TL.aTys, List.mem_cons, List.not_mem_nil, or_false] at hb; rcases hb with rfl | rfl | rfl | rfl | rfl | rfl | rfl <;> kit_is))
    case x_BadShape =>
      refine' TL.isX_mk KX G ?ac ?tk (TL.IsXL.cons (PySem.W.mg_of KX G ?e0) (TL.exv_mk ?v0_0 ?v0_1 ?v0_2 ?v0_3 ?v0_4 ?v0_5 ?v0_6 ?v0_7 ?v0_8) ?k0 (TL.IsXL.cons (PySem.W.mg_of KX G ?e1) (TL.exv_mk ?v1_0 ?v1_1 ?v1_2 ?v1_3 ?v1_4 ?v1_5 ?v1_6 ?v1_7 ?v1_8) ?k1 (TL.IsXL.cons (PySem.W.mg_of KX G ?e2) (TL.exv_mk ?v2_0 ?v2_1 ?v2_2 ?v2_3 ?v2_4 ?v2_5 ?v2_6 ?v2_7 ?v2_8) ?k2 (TL.IsXL.cons (PySem.W.mg_of KX G ?e3) (TL.exv_mk ?v3_0 ?v3_1 ?v3_2 ?v3_3 ?v3_4 ?v3_5 ?v3_6 ?v3_7 ?v3_8) ?k3 (TL.IsXL.cons (PySem.W.mg_of KX G ?e4) (TL.exv_mk ?v4_0 ?v4_1 ?v4_2 ?v4_3 ?v4_4 ?v4_5 ?v4_6 ?v4_7 ?v4_8) ?k4 (TL.IsXL.cons (PySem.W.mg_of KX G ?e5) (TL.exv_mk ?v5_0 ?v5_1 ?v5_2 ?v5_3 ?v5_4 ?v5_5 ?v5_6 ?v5_7 ?v5_8) ?k5 (TL.IsXL.cons (PySem.W.mg_of KX G ?e6) (TL.exv_mk ?v6_0 ?v6_1 ?v6_2 ?v6_3 ?v6_4 ?v6_5 ?v6_6 ?v6_7 ?v6_8) ?k6 (TL.IsXL.cons (PySem.W.mg_of KX G ?e7) (TL.exv_mk ?v7_0 ?v7_1 ?v7_2 ?v7_3 ?v7_4 ?v7_5 ?v7_6 ?v7_7 ?v7_8) ?k7 (TL.IsXL.cons (PySem.W.mg_of KX G ?e8) (TL.exv_mk ?v8_0 ?v8_1 ?v8_2 ?v8_3 ?v8_4 ?v8_5 ?v8_6 ?v8_7 ?v8_8) ?k8 (TL.IsXL.cons (PySem.W.mg_of KX G ?e9) (TL.exv_mk ?v9_0 ?v9_1 ?v9_2 ?v9_3 ?v9_4 ?v9_5 ?v9_6 ?v9_7 ?v9_8) ?k9 (TL.IsXL.cons (PySem.W.mg_of KX G ?e10) (TL.exv_mk ?v10_0 ?v10_1 ?v10_2 ?v10_3 ?v10_4 ?v10_5 ?v10_6 ?v10_7 ?v10_8) ?k10 (TL.IsXL.cons (PySem.W.mg_of KX G ?e11) (TL.exv_mk ?v11_0 ?v11_1 ?v11_2 ?v11_3 ?v11_4 ?v11_5 ?v11_6 ?v11_7 ?v11_8) ?k11 (TL.IsXL.cons (PySem.W.mg_of KX G ?e12) (TL.exv_mk ?v12_0 ?v12_1 ?v12_2 ?v12_3 ?v12_4 ?v12_5 ?v12_6 ?v12_7 ?v12_8) ?k12 (TL.IsXL.cons (PySem.W.mg_of KX G ?e13) (TL.exv_mk ?v13_0 ?v13_1 ?v13_2 ?v13_3 ?v13_4 ?v13_5 ?v13_6 ?v13_7 ?v13_8) ?k13 TL.IsXL.nil))))))))))))))
      (case ac => k_is)
      (case e0 => k_is)
      (case v0_0 => k_is)
      (case v0_1 => k_is)
      (case v0_2 => k_is)
      (case v0_3 => k_is)
      (case v0_4 => k_is)
      (case v0_5 => k_is)
      (case v0_6 => k_is)
      (case v0_7 => k_is)
      (case v0_8 => k_is)
      (case k0 => kit_is)
      (case e1 => k_is)
      (case v1_0 => k_is)
      (case v1_1 => k_is)
      (case v1_2 => k_is)
      (case v1_3 => k_is)
      (case v1_4 => k_is)
      (case v1_5 => k_is)
      (case v1_6 => k_is)
      (case v1_7 => k_is)
      (case v1_8 => k_is)
      (case k1 => kit_is)
      (case e2 => k_is)
      (case v2_0 => k_is)
      (case v2_1 => k_is)
      (case v2_2 => k_is)
      (case v2_3 => k_is)
      (case v2_4 => k_is)
      (case v2_5 => k_is)
      (case v2_6 => k_is)
      (case v2_7 => k_is)
      (case v2_8 => k_is)
      (case k2 => kit_is)
      (case e3 => k_is)
      (case v3_0 => k_is)
      (case v3_1 => k_is)
      (case v3_2 => k_is)
      (case v3_3 => k_is)
      (case v3_4 => k_is)
      (case v3_5 => k_is)
      (case v3_6 => k_is)
      (case v3_7 => k_is)
      (case v3_8 => k_is)
      (case k3 => kit_is)
      (case e4 => k_is)
      (case v4_0 => k_is)
      (case v4_1 => k_is)
      (case v4_2 => k_is)
      (case v4_3 => k_is)
      (case v4_4 => k_is)
      (case v4_5 => k_is)
      (case v4_6 => k_is)
      (case v4_7 => k_is)
      (case v4_8 => k_is)
      (case k4 => kit_is)
      (case e5 => k_is)
      (case v5_0 => k_is)
      (case v5_1 => k_is)
      (case v5_2 => k_is)
      (case v5_3 => k_is)
      (case v5_4 => k_is)
      (case v5_5 => k_is)
      (case v5_6 => k_is)
      (case v5_7 => k_is)
      (case v5_8 => k_is)
      (case k5 => kit_is)
      (case e6 => k_is)
      (case v6_0 => k_is)
      (case v6_1 => k_is)
      (case v6_2 => k_is)
      (case v6_3 => k_is)
      (case v6_4 => k_is)
      (case v6_5 => k_is)
      (case v6_6 => k_is)
      (case v6_7 => k_is)
      (case v6_8 => k_is)
      (case k6 => kit_is)
      (case e7 => k_is)
      (case v7_0 => k_is)
      (case v7_1 => k_is)
      (case v7_2 => k_is)
      (case v7_3 => k_is)
      (case v7_4 => k_is)
      (case v7_5 => k_is)
      (case v7_6 => k_is)
      (case v7_7 => k_is)
      (case v7_8 => k_is)
      (case k7 => kit_is)
      (case e8 => k_is)
      (case v8_0 => k_is)
      (case v8_1 => k_is)
      (case v8_2 => k_is)
      (case v8_3 => k_is)
      (case v8_4 => k_is)
      (case v8_5 => k_is)
      (case v8_6 => k_is)
      (case v8_7 => k_is)
      (case v8_8 => k_is)
      (case k8 => kit_is)
      (case e9 => k_is)
      (case v9_0 => k_is)
      (case v9_1 => k_is)
      (case v9_2 => k_is)
      (case v9_3 => k_is)
      (case v9_4 => k_is)
      (case v9_5 => k_is)
      (case v9_6 => k_is)
      (case v9_7 => k_is)
      (case v9_8 => k_is)
      (case k9 => kit_is)
      (case e10 => k_is)
      (case v10_0 => k_is)
      (case v10_1 => k_is)
      (case v10_2 => k_is)
      (case v10_3 => k_is)
      (case v10_4 => k_is)
      (case v10_5 => k_is)
      (case v10_6 => k_is)
      (case v10_7 => k_is)
      (case v10_8 => k_is)
      (case k10 => kit_is)
      (case e11 => k_is)
      (case v11_0 => k_is)
      (case v11_1 => k_is)
      (case v11_2 => k_is)
      (case v11_3 => k_is)
      (case v11_4 => k_is)
      (case v11_5 => k_is)
      (case v11_6 => k_is)
      (case v11_7 => k_is)
      (case v11_8 => k_is)
      (case k11 => kit_is)
      (case e12 => k_is)
      (case v12_0 => k_is)
      (case v12_1 => k_is)
      (case v12_2 => k_is)
      (case v12_3 => k_is)
      (case v12_4 => k_is)
      (case v12_5 => k_is)
      (case v12_6 => k_is)
      (case v12_7 => k_is)
      (case v12_8 => k_is)
      (case k12 => kit_is)
      (case e13 => k_is)
      (case v13_0 => k_is)
      (case v13_1 => k_is)
      (case v13_2 => k_is)
      (case v13_3 => k_is)
      (case v13_4 => k_is)
      (case v13_5 => k_is)
      (case v13_6 => k_is)
      (case v13_7 => k_is)
      (case v13_8 => k_is)
      (case k13 => kit_is)
      (case tk => (intro b hb; simp only [TL.aTys, List.mem_cons, List.not_mem_nil, or_false] at hb; rcases hb with rfl | rfl | rfl | rfl | rfl | rfl | rfl <;> kit_is))
    case x_BadCourse =>
      refine' TL.isX_mk KX G ?ac ?tk (TL.IsXL.cons (PySem.W.mg_of KX G ?e0) (TL.exv_mk ?v0_0 ?v0_1 ?v0_2 ?v0_3 ?v0_4 ?v0_5 ?v0_6 ?v0_7 ?v0_8) ?k0 (TL.IsXL.cons (PySem.W.mg_of KX G ?e1) (TL.exv_mk ?v1_0 ?v1_1 ?v1_2 ?v1_3 ?v1_4 ?v1_5 ?v1_6 ?v1_7 ?v1_8) ?k1 (TL.IsXL.cons (PySem.W.mg_of KX G ?e2) (TL.exv_mk ?v2_0 ?v2_1 ?v2_2 ?v2_3 ?v2_4 ?v2_5 ?v2_6 ?v2_7 ?v2_8) ?k2 (TL.IsXL.cons (PySem.W.mg_of KX G ?e3) (TL.exv_mk ?v3_0 ?v3_1 ?v3_2 ?v3_3 ?v3_4 ?v3_5 ?v3_6 ?v3_7 ?v3_8) ?k3 (TL.IsXL.cons (PySem.W.mg_of KX G ?e4) (TL.exv_mk ?v4_0 ?v4_1 ?v4_2 ?v4_3 ?v4_4 ?v4_5 ?v4_6 ?v4_7 ?v4_8) ?k4 (TL.IsXL.cons (PySem.W.mg_of KX G ?e5) (TL.exv_mk ?v5_0 ?v5_1 ?v5_2 ?v5_3 ?v5_4 ?v5_5 ?v5_6 ?v5_7 ?v5_8) ?k5 (TL.IsXL.cons (PySem.W.mg_of KX G ?e6) (TL.exv_mk ?v6_0 ?v6_1 ?v6_2 ?v6_3 ?v6_4 ?v6_5 ?v6_6 ?v6_7 ?v6_8) ?k6 (TL.IsXL.cons (PySem.W.mg_of KX G ?e7) (TL.exv_mk ?v7_0 ?v7_1 ?v7_2 ?v7_3 ?v7_4 ?v7_5 ?v7_6 ?v7_7 ?v7_8) ?k7 (TL.IsXL.cons (PySem.W.mg_of KX G ?e8) (TL.exv_mk ?v8_0 ?v8_1 ?v8_2 ?v8_3 ?v8_4 ?v8_5 ?v8_6 ?v8_7 ?v8_8) ?k8 (TL.IsXL.cons (PySem.W.mg_of KX G ?e9) (TL.exv_mk ?v9_0 ?v9_1 ?v9_2 ?v9_3 ?v9_4 ?v9_5 ?v9_6 ?v9_7 ?v9_8) ?k9 (TL.IsXL.cons (PySem.W.mg_of KX G ?e10) (TL.exv_mk ?v10_0 ?v10_1 ?v10_2 ?v10_3 ?v10_4 ?v10_5 ?v10_6 ?v10_7 ?v10_8) ?k10 (TL.IsXL.cons (PySem.W.mg_of KX G ?e11) (TL.exv_mk ?v11_0 ?v11_1 ?v11_2 ?v11_3 ?v11_4 ?v11_5 ?v11_6 ?v11_7 ?v11_8) ?k11 (TL.IsXL.cons (PySem.W.mg_of KX G ?e12) (TL.exv_mk ?v12_0 ?v12_1 ?v12_2 ?v12_3 ?v12_4 ?v12_5 ?v12_6 ?v12_7 ?v12_8) ?k12 (TL.IsXL.cons (PySem.W.mg_of KX G ?e13) (TL.exv_mk ?v13_0 ?v13_1 ?v13_2 ?v13_3 ?v13_4 ?v13_5 ?v13_6 ?v13_7 ?v13_8) ?k13 TL.IsXL.nil))))))))))))))
      (case ac => k_is)
      (case e0 => k_is)
      (case v0_0 => k_is)
      (case v0_1 => k_is)
      (case v0_2 => k_is)
      (case v0_3 => k_is)
      (case v0_4 => k_is)
      (case v0_5 => k_is)
      (case v0_6 => k_is)
      (case v0_7 => k_is)
      (case v0_8 => k_is)
      (case k0 => kit_is)
      (case e1 => k_is)
      (case v1_0 => k_is)
      (case v1_1 => k_is)
      (case v1_2 => k_is)
      (case v1_3 => k_is)
      (case v1_4 => k_is)
      (case v1_5 => k_is)
      (case v1_6 => k_is)
      (case v1_7 => k_is)
      (case v1_8 => k_is)
      (case k1 => kit_is)
      (case e2 => k_is)
      (case v2_0 => k_is)
      (case v2_1 => k_is)
      (case v2_2 => k_is)
      (case v2_3 => k_is)
      (case v2_4 => k_is)
      (case v2_5 => k_is)
      (case v2_6 => k_is)
      (case v2_7 => k_is)
      (case v2_8 => k_is)
      (case k2 => kit_is)
      (case e3 => k_is)
      (case v3_0 => k_is)
      (case v3_1 => k_is)
      (case v3_2 => k_is)
      (case v3_3 => k_is)
      (case v3_4 => k_is)
      (case v3_5 => k_is)
      (case v3_6 => k_is)
      (case v3_7 => k_is)
      (case v3_8 => k_is)
      (case k3 => kit_is)
      (case e4 => k_is)
      (case v4_0 => k_is)
      (case v4_1 => k_is)
      (case v4_2 => k_is)
      (case v4_3 => k_is)
      (case v4_4 => k_is)
      (case v4_5 => k_is)
      (case v4_6 => k_is)
      (case v4_7 => k_is)
      (case v4_8 => k_is)
      (case k4 => kit_is)
      (case e5 => k_is)
      (case v5_0 => k_is)
      (case v5_1 => k_is)
      (case v5_2 => k_is)
      (case v5_3 => k_is)
      (case v5_4 => k_is)
      (case v5_5 => k_is)
      (case v5_6 => k_is)
      (case v5_7 => k_is)
      (case v5_8 => k_is)
      (case k5 => kit_is)
      (case e6 => k_is)
      (case v6_0 => k_is)
      (case v6_1 => k_is)
      (case v6_2 => k_is)
      (case v6_3 => k_is)
      (case v6_4 => k_is)
      (case v6_5 => k_is)
      (case v6_6 => k_is)
      (case v6_7 => k_is)
      (case v6_8 => k_is)
      (case k6 => kit_is)
      (case e7 => k_is)
      (case v7_0 => k_is)
      (case v7_1 => k_is)
      (case v7_2 => k_is)
      (case v7_3 => k_is)
      (case v7_4 => k_is)
      (case v7_5 => k_is)
      (case v7_6 => k_is)
      (case v7_7 => k_is)
      (case v7_8 => k_is)
      (case k7 => kit_is)
      (case e8 => k_is)
      (case v8_0 => k_is)
      (case v8_1 => k_is)
      (case v8_2 => k_is)
      (case v8_3 => k_is)
      (case v8_4 => k_is)
      (case v8_5 => k_is)
      (case v8_6 => k_is)
      (case v8_7 => k_is)
      (case v8_8 => k_is)
      (case k8 => kit_is)
      (case e9 => k_is)
      (case v9_0 => k_is)
      (case v9_1 => k_is)
      (case v9_2 => k_is)
      (case v9_3 => k_is)
      (case v9_4 => k_is)
      (case v9_5 => k_is)
      (case v9_6 => k_is)
      (case v9_7 => k_is)
      (case v9_8 => k_is)
      (case k9 => kit_is)
      (case e10 => k_is)
      (case v10_0 => k_is)
      (case v10_1 => k_is)
      (case v10_2 => k_is)
      (case v10_3 => k_is)
      (case v10_4 => k_is)
      (case v10_5 => k_is)
      (case v10_6 => k_is)
      (case v10_7 => k_is)
      (case v10_8 => k_is)
      (case k10 => kit_is)
      (case e11 => k_is)
      (case v11_0 => k_is)
      (case v11_1 => k_is)
      (case v11_2 => k_is)
      (case v11_3 => k_is)
      (case v11_4 => k_is)
      (case v11_5 => k_is)
      (case v11_6 => k_is)
      (case v11_7 => k_is)
      (case v11_8 => k_is)
      (case k11 => kit_is)
      (case e12 => k_is)
      (case v12_0 => k_is)
      (case v12_1 => k_is)
      (case v12_2 => k_is)
      (case v12_3 => k_is)
      (case v12_4 => k_is)
      (case v12_5 => k_is)
      (case v12_6 => k_is)
      (case v12_7 => k_is)
      (case v12_8 => k_is)
      (case k12 => kit_is)
      (case e13 => k_is)
      (case v13_0 => k_is)
      (case v13_1 => k_is)
      (case v13_2 => k_is)
      (case v13_3 => k_is)
      (case v13_4 => k_is)
      (case v13_5 => k_is)
      (case v13_6 => k_is)
      (case v13_7 => k_is)
      (case v13_8 => k_is)
      (case k13 => kit_is)
      (case tk => (intro b hb; simp only [TL.aTys, List.mem_cons, List.not_mem_nil, or_false] at hb; rcases hb with rfl | rfl | rfl | rfl | rfl | rfl | rfl <;> kit_is))
    case x_BadLog =>
      refine' TL.isX_mk KX G ?ac ?tk (TL.IsXL.cons (PySem.W.mg_of KX G ?e0) (TL.exv_mk ?v0_0 ?v0_1 ?v0_2 ?v0_3 ?v0_4 ?v0_5 ?v0_6 ?v0_7 ?v0_8) ?k0 (TL.IsXL.cons (PySem.W.mg_of KX G ?e1) (TL.exv_mk ?v1_0 ?v1_1 ?v1_2 ?v1_3 ?v1_4 ?v1_5 ?v1_6 ?v1_7 ?v1_8) ?k1 (TL.IsXL.cons (PySem.W.mg_of KX G ?e2) (TL.exv_mk ?v2_0 ?v2_1 ?v2_2 ?v2_3 ?v2_4 ?v2_5 ?v2_6 ?v2_7 ?v2_8) ?k2 (TL.IsXL.cons (PySem.W.mg_of KX G ?e3) (TL.exv_mk ?v3_0 ?v3_1 ?v3_2 ?v3_3 ?v3_4 ?v3_5 ?v3_6 ?v3_7 ?v3_8) ?k3 (TL.IsXL.cons (PySem.W.mg_of KX G ?e4) (TL.exv_mk ?v4_0 ?v4_1 ?v4_2 ?v4_3 ?v4_4 ?v4_5 ?v4_6 ?v4_7 ?v4_8) ?k4 (TL.IsXL.cons (PySem.W.mg_of KX G ?e5) (TL.exv_mk ?v5_0 ?v5_1 ?v5_2 ?v5_3 ?v5_4 ?v5_5 ?v5_6 ?v5_7 ?v5_8) ?k5 (TL.IsXL.cons (PySem.W.mg_of KX G ?e6) (TL.exv_mk ?v6_0 ?v6_1 ?v6_2 ?v6_3 ?v6_4 ?v6_5 ?v6_6 ?v6_7 ?v6_8) ?k6 (TL.IsXL.cons (PySem.W.mg_of KX G ?e7) (TL.exv_mk ?v7_0 ?v7_1 ?v7_2 ?v7_3 ?v7_4 ?v7_5 ?v7_6 ?v7_7 ?v7_8) ?k7 (TL.IsXL.cons (PySem.W.mg_of KX G ?e8) (TL.exv_mk ?v8_0 ?v8_1 ?v8_2 ?v8_3 ?v8_4 ?v8_5 ?v8_6 ?v8_7 ?v8_8) ?k8 (TL.IsXL.cons (PySem.W.mg_of KX G ?e9) (TL.exv_mk ?v9_0 ?v9_1 ?v9_2 ?v9_3 ?v9_4 ?v9_5 ?v9_6 ?v9_7 ?v9_8) ?k9 (TL.IsXL.cons (PySem.W.mg_of KX G ?e10) (TL.exv_mk ?v10_0 ?v10_1 ?v10_2 ?v10_3 ?v10_4 ?v10_5 ?v10_6 ?v10_7 ?v10_8) ?k10 (TL.IsXL.cons (PySem.W.mg_of KX G ?e11) (TL.exv_mk ?v11_0 ?v11_1 ?v11_2 ?v11_3 ?v11_4 ?v11_5 ?v11_6 ?v11_7 ?v11_8) ?k11 (TL.IsXL.cons (PySem.W.mg_of KX G ?e12) (TL.exv_mk ?v12_0 ?v12_1 ?v12_2 ?v12_3 ?v12_4 ?v12_5 ?v12_6 ?v12_7 ?v12_8) ?k12 (TL.IsXL.cons (PySem.W.mg_of KX G ?e13) (TL.exv_mk ?v13_0 ?v13_1 ?v13_2 ?v13_3 ?v13_4 ?v13_5 ?v13_6 ?v13_7 ?v13_8) ?k13 TL.IsXL.nil))))))))))))))
      (case ac => k_is)
      (case e0 => k_is)
      (case v0_0 => k_is)
      (case v0_1 => k_is)
      (case v0_2 => k_is)
      (case v0_3 => k_is)
      (case v0_4 => k_is)
      (case v0_5 => k_is)
      (case v0_6 => k_is)
      (case v0_7 => k_is)
      (case v0_8 => k_is)
      (case k0 => kit_is)
      (case e1 => k_is)
      (case v1_0 => k_is)
      (case v1_1 => k_is)
      (case v1_2 => k_is)
      (case v1_3 => k_is)
      (case v1_4 => k_is)
      (case v1_5 => k_is)
      (case v1_6 => k_is)
      (case v1_7 => k_is)
      (case v1_8 => k_is)
      (case k1 => kit_is)
      (case e2 => k_is)
      (case v2_0 => k_is)
      (case v2_1 => k_is)
      (case v2_2 => k_is)
      (case v2_3 => k_is)
      (case v2_4 => k_is)
      (case v2_5 => k_is)
      (case v2_6 => k_is)
      (case v2_7 => k_is)
      (case v2_8 => k_is)
      (case k2 => kit_is)
      (case e3 => k_is)
      (case v3_0 => k_is)
      (case v3_1 => k_is)
      (case v3_2 => k_is)
      (case v3_3 => k_is)
      (case v3_4 => k_is)
      (case v3_5 => k_is)
      (case v3_6 => k_is)
      (case v3_7 => k_is)
      (case v3_8 => k_is)
      (case k3 => kit_is)
      (case e4 => k_is)
      (case v4_0 => k_is)
      (case v4_1 => k_is)
      (case v4_2 => k_is)
      (case v4_3 => k_is)
      (case v4_4 => k_is)
      (case v4_5 => k_is)
      (case v4_6 => k_is)
      (case v4_7 => k_is)
      (case v4_8 => k_is)
      (case k4 => kit_is)
      (case e5 => k_is)
      (case v5_0 => k_is)
      (case v5_1 => k_is)
      (case v5_2 => k_is)
      (case v5_3 => k_is)
      (case v5_4 => k_is)
      (case v5_5 => k_is)
      (case v5_6 => k_is)
      (case v5_7 => k_is)
      (case v5_8 => k_is)
      (case k5 => kit_is)
      (case e6 => k_is)
      (case v6_0 => k_is)
      (case v6_1 => k_is)
      (case v6_2 => k_is)
      (case v6_3 => k_is)
      (case v6_4 => k_is)
      (case v6_5 => k_is)
      (case v6_6 => k_is)
      (case v6_7 => k_is)
      (case v6_8 => k_is)
      (case k6 => kit_is)
      (case e7 => k_is)
      (case v7_0 => k_is)
      (case v7_1 => k_is)
      (case v7_2 => k_is)
      (case v7_3 => k_is)
      (case v7_4 => k_is)
      (case v7_5 => k_is)
      (case v7_6 => k_is)
      (case v7_7 => k_is)
      (case v7_8 => k_is)
      (case k7 => kit_is)
      (case e8 => k_is)
      (case v8_0 => k_is)
      (case v8_1 => k_is)
      (case v8_2 => k_is)
      (case v8_3 => k_is)
      (case v8_4 => k_is)
      (case v8_5 => k_is)
      (case v8_6 => k_is)
      (case v8_7 => k_is)
      (case v8_8 => k_is)
      (case k8 => kit_is)
      (case e9 => k_is)
      (case v9_0 => k_is)
      (case v9_1 => k_is)
      (case v9_2 => k_is)
      (case v9_3 => k_is)
      (case v9_4 => k_is)
      (case v9_5 => k_is)
      (case v9_6 => k_is)
      (case v9_7 => k_is)
      (case v9_8 => k_is)
      (case k9 => kit_is)
      (case e10 => k_is)
      (case v10_0 => k_is)
      (case v10_1 => k_is)
      (case v10_2 => k_is)
      (case v10_3 => k_is)
      (case v10_4 => k_is)
      (case v10_5 => k_is)
      (case v10_6 => k_is)
      (case v10_7 => k_is)
      (case v10_8 => k_is)
      (case k10 => kit_is)
      (case e11 => k_is)
      (case v11_0 => k_is)
      (case v11_1 => k_is)
      (case v11_2 => k_is)
      (case v11_3 => k_is)
      (case v11_4 => k_is)
      (case v11_5 => k_is)
      (case v11_6 => k_is)
      (case v11_7 => k_is)
      (case v11_8 => k_is)
      (case k11 => kit_is)
      (case e12 => k_is)
      (case v12_0 => k_is)
      (case v12_1 => k_is)
      (case v12_2 => k_is)
      (case v12_3 => k_is)
      (case v12_4 => k_is)
      (case v12_5 => k_is)
      (case v12_6 => k_is)
      (case v12_7 => k_is)
      (case v12_8 => k_is)
      (case k12 => kit_is)
      (case e13 => k_is)
      (case v13_0 => k_is)
      (case v13_1 => k_is)
      (case v13_2 => k_is)
      (case v13_3 => k_is)
      (case v13_4 => k_is)
      (case v13_5 => k_is)
      (case v13_6 => k_is)
      (case v13_7 => k_is)
      (case v13_8 => k_is)
      (case k13 => kit_is)
      (case tk => (intro b hb; simp only [TL.aTys, List.mem_cons, List.not_mem_nil, or_false] at hb; rcases hb with rfl | rfl | rfl | rfl | rfl | rfl | rfl <;> kit_is))
    case x_BadNumber =>
      refine' TL.isX_mk KX G ?ac ?tk (TL.IsXL.cons (PySem.W.mg_of KX G ?e0) (TL.exv_mk ?v0_0 ?v0_1 ?v0_2 ?v0_3 ?v0_4 ?v0_5 ?v0_6 ?v0_7 ?v0_8) ?k0 (TL.IsXL.cons (PySem.W.mg_of KX G ?e1) (TL.exv_mk ?v1_0 ?v1_1 ?v1_2 ?v1_3 ?v1_4 ?v1_5 ?v1_6 ?v1_7 ?v1_8) ?k1 (TL.IsXL.cons (PySem.W.mg_of KX G ?e2) (TL.exv_mk ?v2_0 ?v2_1 ?v2_2 ?v2_3 ?v2_4 ?v2_5 ?v2_6 ?v2_7 ?v2_8) ?k2 (TL.IsXL.cons (PySem.W.mg_of KX G ?e3) (TL.exv_mk ?v3_0 ?v3_1 ?v3_2 ?v3_3 ?v3_4 ?v3_5 ?v3_6 ?v3_7 ?v3_8) ?k3 (TL.IsXL.cons (PySem.W.mg_of KX G ?e4) (TL.exv_mk ?v4_0 ?v4_1 ?v4_2 ?v4_3 ?v4_4 ?v4_5 ?v4_6 ?v4_7 ?v4_8) ?k4 (TL.IsXL.cons (PySem.W.mg_of KX G ?e5) (TL.exv_mk ?v5_0 ?v5_1 ?v5_2 ?v5_3 ?v5_4 ?v5_5 ?v5_6 ?v5_7 ?v5_8) ?k5 (TL.IsXL.cons (PySem.W.mg_of KX G ?e6) (TL.exv_mk ?v6_0 ?v6_1 ?v6_2 ?v6_3 ?v6_4 ?v6_5 ?v6_6 ?v6_7 ?v6_8) ?k6 (TL.IsXL.cons (PySem.W.mg_of KX G ?e7) (TL.exv_mk ?v7_0 ?v7_1 ?v7_2 ?v7_3 ?v7_4 ?v7_5 ?v7_6 ?v7_7 ?v7_8) ?k7 (TL.IsXL.cons (PySem.W.mg_of KX G ?e8) (TL.exv_mk ?v8_0 ?v8_1 ?v8_2 ?v8_3 ?v8_4 ?v8_5 ?v8_6 ?v8_7 ?v8_8) ?k8 (TL.IsXL.cons (PySem.W.mg_of KX G ?e9) (TL.exv_mk ?v9_0 ?v9_1 ?v9_2 ?v9_3 ?v9_4 ?v9_5 ?v9_6 ?v9_7 ?v9_8) ?k9 (TL.IsXL.cons (PySem.W.mg_of KX G ?e10) (TL.exv_mk ?v10_0 ?v10_1 ?v10_2 ?v10_3 ?v10_4 ?v10_5 ?v10_6 ?v10_7 ?v10_8) ?k10 (TL.IsXL.cons (PySem.W.mg_of KX G ?e11) (TL.exv_mk ?v11_0 ?v11_1 ?v11_2 ?v11_3 ?v11_4 ?v11_5 ?v11_6 ?v11_7 ?v11_8) ?k11 (TL.IsXL.cons (PySem.W.mg_of KX G ?e12) (TL.exv_mk ?v12_0 ?v12_1 ?v12_2 ?v12_3 ?v12_4 ?v12_5 ?v12_6 ?v12_7 ?v12_8) ?k12 (TL.IsXL.cons (PySem.W.mg_of KX G ?e13) (TL.exv_mk ?v13_0 ?v13_1 ?v13_2 ?v13_3 ?v13_4 ?v13_5 ?v13_6 ?v13_7 ?v13_8) ?k13 TL.IsXL.nil))))))))))))))
      (case ac => k_is)
      (case e0 => k_is)
      (case v0_0 => k_is)
      (case v0_1 => k_is)
      (case v0_2 => k_is)
      (case v0_3 => k_is)
      (case v0_4 => k_is)
      (case v0_5 => k_is)
      (case v0_6 => k_is)
      (case v0_7 => k_is)
      (case v0_8 => k_is)
      (case k0 => kit_is)
      (case e1 => k_is)
      (case v1_0 => k_is)
      (case v1_1 => k_is)
      (case v1_2 => k_is)
      (case v1_3 => k_is)
      (case v1_4 => k_is)
      (case v1_5 => k_is)
      (case v1_6 => k_is)
      (case v1_7 => k_is)
      (case v1_8 => k_is)
      (case k1 => kit_is)
      (case e2 => k_is)
      (case v2_0 => k_is)
      (case v2_1 => k_is)
      (case v2_2 => k_is)
      (case v2_3 => k_is)
      (case v2_4 => k_is)
      (case v2_5 => k_is)
      (case v2_6 => k_is)
      (case v2_7 => k_is)
      (case v2_8 => k_is)
      (case k2 => kit_is)
      (case e3 => k_is)
      (case v3_0 => k_is)
      (case v3_1 => k_is)
      (case v3_2 => k_is)
      (case v3_3 => k_is)
      (case v3_4 => k_is)
      (case v3_5 => k_is)
      (case v3_6 => k_is)
      (case v3_7 => k_is)
      (case v3_8 => k_is)
      (case k3 => kit_is)
      (case e4 => k_is)
      (case v4_0 => k_is)
      (case v4_1 => k_is)
      (case v4_2 => k_is)
      (case v4_3 => k_is)
      (case v4_4 => k_is)
      (case v4_5 => k_is)
      (case v4_6 => k_is)
      (case v4_7 => k_is)
      (case v4_8 => k_is)
      (case k4 => kit_is)
      (case e5 => k_is)
      (case v5_0 => k_is)
      (case v5_1 => k_is)
      (case v5_2 => k_is)
      (case v5_3 => k_is)
      (case v5_4 => k_is)
      (case v5_5 => k_is)
      (case v5_6 => k_is)
      (case v5_7 => k_is)
      (case v5_8 => k_is)
      (case k5 => kit_is)
      (case e6 => k_is)
      (case v6_0 => k_is)
      (case v6_1 => k_is)
      (case v6_2 => k_is)
      (case v6_3 => k_is)
      (case v6_4 => k_is)
      (case v6_5 => k_is)
      (case v6_6 => k_is)
      (case v6_7 => k_is)
      (case v6_8 => k_is)
      (case k6 => kit_is)
      (case e7 => k_is)
      (case v7_0 => k_is)
      (case v7_1 => k_is)
      (case v7_2 => k_is)
      (case v7_3 => k_is)
      (case v7_4 => k_is)
      (case v7_5 => k_is)
      (case v7_6 => k_is)
      (case v7_7 => k_is)
      (case v7_8 => k_is)
      (case k7 => kit_is)
      (case e8 => k_is)
      (case v8_0 => k_is)
      (case v8_1 => k_is)
      (case v8_2 => k_is)
      (case v8_3 => k_is)
      (case v8_4 => k_is)
      (case v8_5 => k_is)
      (case v8_6 => k_is)
      (case v8_7 => k_is)
      (case v8_8 => k_is)
      (case k8 => kit_is)
      (case e9 => k_is)
      (case v9_0 => k_is)
      (case v9_1 => k_is)
      (case v9_2 => k_is)
      (case v9_3 => k_is)
      (case v9_4 => k_is)
      (case v9_5 => k_is)
      (case v9_6 => k_is)
      (case v9_7 => k_is)
      (case v9_8 => k_is)
      (case k9 => kit_is)
      (case e10 => k_is)
      (case v10_0 => k_is)
      (case v10_1 => k_is)
      (case v10_2 => k_is)
      (case v10_3 => k_is)
      (case v10_4 => k_is)
      (case v10_5 => k_is)
      (case v10_6 => k_is)
      (case v10_7 => k_is)
      (case v10_8 => k_is)
      (case k10 => kit_is)
      (case e11 => k_is)
      (case v11_0 => k_is)
      (case v11_1 => k_is)
      (case v11_2 => k_is)
      (case v11_3 => k_is)
      (case v11_4 => k_is)
      (case v11_5 => k_is)
      (case v11_6 => k_is)
      (case v11_7 => k_is)
      (case v11_8 => k_is)
      (case k11 => kit_is)
      (case e12 => k_is)
      (case v12_0 => k_is)
      (case v12_1 => k_is)
      (case v12_2 => k_is)
      (case v12_3 => k_is)
      (case v12_4 => k_is)
      (case v12_5 => k_is)
      (case v12_6 => k_is)
      (case v12_7 => k_is)
      (case v12_8 => k_is)
      (case k12 => kit_is)
      (case e13 => k_is)
      (case v13_0 => k_is)
      (case v13_1 => k_is)
      (case v13_2 => k_is)
      (case v13_3 => k_is)
      (case v13_4 => k_is)
      (case v13_5 => k_is)
      (case v13_6 => k_is)
      (case v13_7 => k_is)
      (case v13_8 => k_is)
      (case k13 => kit_is)
      (case tk => (intro b hb; simp only [TL.aTys, List.mem_cons, List.not_mem_nil, or_false] at hb; rcases hb with rfl | rfl | rfl | rfl | rfl | rfl | rfl <;> kit_is))
    case x_BadWishes =>
      refine' TL.isX_mk KX G ?ac ?tk (TL.IsXL.cons (PySem.W.mg_of KX G ?e0) (TL.exv_mk ?v0_0 ?v0_1 ?v0_2 ?v0_3 ?v0_4 ?v0_5 ?v0_6 ?v0_7 ?v0_8) ?k0 (TL.IsXL.cons (PySem.W.mg_of KX G ?e1) (TL.exv_mk ?v1_0 ?v1_1 ?v1_2 ?v1_3 ?v1_4 ?v1_5 ?v1_6 ?v1_7 ?v1_8) ?k1 (TL.IsXL.cons (PySem.W.mg_of KX G ?e2) (TL.exv_mk ?v2_0 ?v2_1 ?v2_2 ?v2_3 ?v2_4 ?v2_5 ?v2_6 ?v2_7 ?v2_8) ?k2 (TL.IsXL.cons (PySem.W.mg_of KX G ?e3) (TL.exv_mk ?v3_0 ?v3_1 ?v3_2 ?v3_3 ?v3_4 ?v3_5 ?v3_6 ?v3_7 ?v3_8) ?k3 (TL.IsXL.cons (PySem.W.mg_of KX G ?e4) (TL.exv_mk ?v4_0 ?v4_1 ?v4_2 ?v4_3 ?v4_4 ?v4_5 ?v4_6 ?v4_7 ?v4_8) ?k4 (TL.IsXL.cons (PySem.W.mg_of KX G ?e5) (TL.exv_mk ?v5_0 ?v5_1 ?v5_2 ?v5_3 ?v5_4 ?v5_5 ?v5_6 ?v5_7 ?v5_8) ?k5 (TL.IsXL.cons (PySem.W.mg_of KX G ?e6) (TL.exv_mk ?v6_0 ?v6_1 ?v6_2 ?v6_3 ?v6_4 ?v6_5 ?v6_6 ?v6_7 ?v6_8) ?k6 (TL.IsXL.cons (PySem.W.mg_of KX G ?e7) (TL.exv_mk ?v7_0 ?v7_1 ?v7_2 ?v7_3 ?v7_4 ?v7_5 ?v7_6 ?v7_7 ?v7_8) ?k7 (TL.IsXL.cons (PySem.W.mg_of KX G ?e8) (TL.exv_mk ?v8_0 ?v8_1 ?v8_2 ?v8_3 ?v8_4 ?v8_5 ?v8_6 ?v8_7 ?v8_8) ?k8 (TL.IsXL.cons (PySem.W.mg_of KX G ?e9) (TL.exv_mk ?v9_0 ?v9_1 ?v9_2 ?v9_3 ?v9_4 ?v9_5 ?v9_6 ?v9_7 ?v9_8) ?k9 (TL.IsXL.cons (PySem.W.mg_of KX G ?e10) (TL.exv_mk ?v10_0 ?v10_1 ?v10_2 ?v10_3 ?v10_4 ?v10_5 ?v10_6 ?v10_7 ?v10_8) ?k10 (TL.IsXL.cons (PySem.W.mg_of KX G ?e11) (TL.exv_mk ?v11_0 ?v11_1 ?v11_2 ?v11_3 ?v11_4 ?v11_5 ?v11_6 ?v11_7 ?v11_8) ?k11 (TL.IsXL.cons (PySem.W.mg_of KX G ?e12) (TL.exv_mk ?v12_0 ?v12_1 ?v12_2 ?v12_3 ?v12_4 ?v12_5 ?v12_6 ?v12_7 ?v12_8) ?k12 (TL.IsXL.cons (PySem.W.mg_of KX G ?e13) (TL.exv_mk ?v13_0 ?v13_1 ?v13_2 ?v13_3 ?v13_4 ?v13_5 ?v13_6 ?v13_7 ?v13_8) ?k13 TL.IsXL.nil))))))))))))))
      (case ac => k_is)
      (case e0 => k_is)
      (case v0_0 => k_is)
      (case v0_1 => k_is)
      (case v0_2 => k_is)
      (case v0_3 => k_is)
      (case v0_4 => k_is)
      (case v0_5 => k_is)
      (case v0_6 => k_is)
      (case v0_7 => k_is)
      (case v0_8 => k_is)
      (case k0 => kit_is)
      (case e1 => k_is)
      (case v1_0 => k_is)
      (case v1_1 => k_is)
      (case v1_2 => k_is)
      (case v1_3 => k_is)
      (case v1_4 => k_is)
      (case v1_5 => k_is)
      (case v1_6 => k_is)
      (case v1_7 => k_is)
      (case v1_8 => k_is)
      (case k1 => kit_is)
      (case e2 => k_is)
      (case v2_0 => k_is)
      (case v2_1 => k_is)
      (case v2_2 => k_is)
      (case v2_3 => k_is)
      (case v2_4 => k_is)
      (case v2_5 => k_is)
      (case v2_6 => k_is)
      (case v2_7 => k_is)
      (case v2_8 => k_is)
      (case k2 => kit_is)
      (case e3 => k_is)
      (case v3_0 => k_is)
      (case v3_1 => k_is)
      (case v3_2 => k_is)
      (case v3_3 => k_is)
      (case v3_4 => k_is)
      (case v3_5 => k_is)
      (case v3_6 => k_is)
      (case v3_7 => k_is)
      (case v3_8 => k_is)
      (case k3 => kit_is)
      (case e4 => k_is)
      (case v4_0 => k_is)
      (case v4_1 => k_is)
      (case v4_2 => k_is)
      (case v4_3 => k_is)
      (case v4_4 => k_is)
      (case v4_5 => k_is)
      (case v4_6 => k_is)
      (case v4_7 => k_is)
      (case v4_8 => k_is)
      (case k4 => kit_is)
      (case e5 => k_is)
      (case v5_0 => k_is)
      (case v5_1 => k_is)
      (case v5_2 => k_is)
      (case v5_3 => k_is)
      (case v5_4 => k_is)
      (case v5_5 => k_is)
      (case v5_6 => k_is)
      (case v5_7 => k_is)
      (case v5_8 => k_is)
      (case k5 => kit_is)
      (case e6 => k_is)
      (case v6_0 => k_is)
      (case v6_1 => k_is)
      (case v6_2 => k_is)
      (case v6_3 => k_is)
      (case v6_4 => k_is)
      (case v6_5 => k_is)
      (case v6_6 => k_is)
      (case v6_7 => k_is)
      (case v6_8 => k_is)
      (case k6 => kit_is)
      (case e7 => k_is)
      (case v7_0 => k_is)
      (case v7_1 => k_is)
      (case v7_2 => k_is)
      (case v7_3 => k_is)
      (case v7_4 => k_is)
      (case v7_5 => k_is)
      (case v7_6 => k_is)
      (case v7_7 => k_is)
      (case v7_8 => k_is)
      (case k7 => kit_is)
      (case e8 => k_is)
      (case v8_0 => k_is)
      (case v8_1 => k_is)
      (case v8_2 => k_is)
      (case v8_3 => k_is)
      (case v8_4 => k_is)
      (case v8_5 => k_is)
      (case v8_6 => k_is)
      (case v8_7 => k_is)
      (case v8_8 => k_is)
      (case k8 => kit_is)
      (case e9 => k_is)
      (case v9_0 => k_is)
      (case v9_1 => k_is)
      (case v9_2 => k_is)
      (case v9_3 => k_is)
      (case v9_4 => k_is)
      (case v9_5 => k_is)
      (case v9_6 => k_is)
      (case v9_7 => k_is)
      (case v9_8 => k_is)
      (case k9 => kit_is)
      (case e10 => k_is)
      (case v10_0 => k_is)
      (case v10_1 => k_is)
      (case v10_2 => k_is)
      (case v10_3 => k_is)
      (case v10_4 => k_is)
      (case v10_5 => k_is)
      (case v10_6 => k_is)
      (case v10_7 => k_is)
      (case v10_8 => k_is)
      (case k10 => kit_is)
      (case e11 => k_is)
      (case v11_0 => k_is)
      (case v11_1 => k_is)
      (case v11_2 => k_is)
      (case v11_3 => k_is)
      (case v11_4 => k_is)
      (case v11_5 => k_is)
      (case v11_6 => k_is)
      (case v11_7 => k_is)
      (case v11_8 => k_is)
      (case k11 => kit_is)
      (case e12 => k_is)
      (case v12_0 => k_is)
      (case v12_1 => k_is)
      (case v12_2 => k_is)
      (case v12_3 => k_is)
      (case v12_4 => k_is)
      (case v12_5 => k_is)
      (case v12_6 => k_is)
      (case v12_7 => k_is)
      (case v12_8 => k_is)
      (case k12 => kit_is)
      (case e13 => k_is)
      (case v13_0 => k_is)
      (case v13_1 => k_is)
      (case v13_2 => k_is)
      (case v13_3 => k_is)
      (case v13_4 => k_is)
      (case v13_5 => k_is)
      (case v13_6 => k_is)
      (case v13_7 => k_is)
      (case v13_8 => k_is)
      (case k13 => kit_is)
      (case tk => (intro b hb; simp only [TL.aTys, List.mem_cons, List.not_mem_nil, or_false] at hb; rcases hb with rfl | rfl | rfl | rfl | rfl | rfl | rfl <;> kit_is))
    case x_BadJournal =>
      refine' TL.isX_mk KX G ?ac ?tk (TL.IsXL.cons (PySem.W.mg_of KX G ?e0) (TL.exv_mk ?v0_0 ?v0_1 ?v0_2 ?v0_3 ?v0_4 ?v0_5 ?v0_6 ?v0_7 ?v0_8) ?k0 (TL.IsXL.cons (PySem.W.mg_of KX G ?e1) (TL.exv_mk ?v1_0 ?v1_1 ?v1_2 ?v1_3 ?v1_4 ?v1_5 ?v1_6 ?v1_7 ?v1_8) ?k1 (TL.IsXL.cons (PySem.W.mg_of KX G ?e2) (TL.exv_mk ?v2_0 ?v2_1 ?v2_2 ?v2_3 ?v2_4 ?v2_5 ?v2_6 ?v2_7 ?v2_8) ?k2 (TL.IsXL.cons (PySem.W.mg_of KX G ?e3) (TL.exv_mk ?v3_0 ?v3_1 ?v3_2 ?v3_3 ?v3_4 ?v3_5 ?v3_6 ?v3_7 ?v3_8) ?k3 (TL.IsXL.cons (PySem.W.mg_of KX G ?e4) (TL.exv_mk ?v4_0 ?v4_1 ?v4_2 ?v4_3 ?v4_4 ?v4_5 ?v4_6 ?v4_7 ?v4_8) ?k4 (TL.IsXL.cons (PySem.W.mg_of KX G ?e5) (TL.exv_mk ?v5_0 ?v5_1 ?v5_2 ?v5_3 ?v5_4 ?v5_5 ?v5_6 ?v5_7 ?v5_8) ?k5 (TL.IsXL.cons (PySem.W.mg_of KX G ?e6) (TL.exv_mk ?v6_0 ?v6_1 ?v6_2 ?v6_3 ?v6_4 ?v6_5 ?v6_6 ?v6_7 ?v6_8) ?k6 (TL.IsXL.cons (PySem.W.mg_of KX G ?e7) (TL.exv_mk ?v7_0 ?v7_1 ?v7_2 ?v7_3 ?v7_4 ?v7_5 ?v7_6 ?v7_7 ?v7_8) ?k7 (TL.IsXL.cons (PySem.W.mg_of KX G ?e8) (TL.exv_mk ?v8_0 ?v8_1 ?v8_2 ?v8_3 ?v8_4 ?v8_5 ?v8_6 ?v8_7 ?v8_8) ?k8 (TL.IsXL.cons (PySem.W.mg_of KX G ?e9) (TL.exv_mk ?v9_0 ?v9_1 ?v9_2 ?v9_3 ?v9_4 ?v9_5 ?v9_6 ?v9_7 ?v9_8) ?k9 (TL.IsXL.cons (PySem.W.mg_of KX G ?e10) (TL.exv_mk ?v10_0 ?v10_1 ?v10_2 ?v10_3 ?v10_4 ?v10_5 ?v10_6 ?v10_7 ?v10_8) ?k10 (TL.IsXL.cons (PySem.W.mg_of KX G ?e11) (TL.exv_mk ?v11_0 ?v11_1 ?v11_2 ?v11_3 ?v11_4 ?v11_5 ?v11_6 ?v11_7 ?v11_8) ?k11 (TL.IsXL.cons (PySem.W.mg_of KX G ?e12) (TL.exv_mk ?v12_0 ?v12_1 ?v12_2 ?v12_3 ?v12_4 ?v12_5 ?v12_6 ?v12_7 ?v12_8) ?k12 (TL.IsXL.cons (PySem.W.mg_of KX G ?e13) (TL.exv_mk ?v13_0 ?v13_1 ?v13_2 ?v13_3 ?v13_4 ?v13_5 ?v13_6 ?v13_7 ?v13_8) ?k13 TL.IsXL.nil))))))))))))))
      (case ac => k_is)
      (case e0 => k_is)
      (case v0_0 => k_is)
      (case v0_1 => k_is)
      (case v0_2 => k_is)
      (case v0_3 => k_is)
      (case v0_4 => k_is)
      (case v0_5 => k_is)
      (case v0_6 => k_is)
      (case v0_7 => k_is)
      (case v0_8 => k_is)
      (case k0 => kit_is)
      (case e1 => k_is)
      (case v1_0 => k_is)
      (case v1_1 => k_is)
      (case v1_2 => k_is)
      (case v1_3 => k_is)
      (case v1_4 => k_is)
      (case v1_5 => k_is)
      (case v1_6 => k_is)
      (case v1_7 => k_is)
      (case v1_8 => k_is)
      (case k1 => kit_is)
      (case e2 => k_is)
      (case v2_0 => k_is)
      (case v2_1 => k_is)
      (case v2_2 => k_is)
      (case v2_3 => k_is)
      (case v2_4 => k_is)
      (case v2_5 => k_is)
      (case v2_6 => k_is)
      (case v2_7 => k_is)
      (case v2_8 => k_is)
      (case k2 => kit_is)
      (case e3 => k_is)
      (case v3_0 => k_is)
      (case v3_1 => k_is)
      (case v3_2 => k_is)
      (case v3_3 => k_is)
      (case v3_4 => k_is)
      (case v3_5 => k_is)
      (case v3_6 => k_is)
      (case v3_7 => k_is)
      (case v3_8 => k_is)
      (case k3 => kit_is)
      (case e4 => k_is)
      (case v4_0 => k_is)
      (case v4_1 => k_is)
      (case v4_2 => k_is)
      (case v4_3 => k_is)
      (case v4_4 => k_is)
      (case v4_5 => k_is)
      (case v4_6 => k_is)
      (case v4_7 => k_is)
      (case v4_8 => k_is)
      (case k4 => kit_is)
      (case e5 => k_is)
      (case v5_0 => k_is)
      (case v5_1 => k_is)
      (case v5_2 => k_is)
      (case v5_3 => k_is)
      (case v5_4 => k_is)
      (case v5_5 => k_is)
      (case v5_6 => k_is)
      (case v5_7 => k_is)
      (case v5_8 => k_is)
      (case k5 => kit_is)
      (case e6 => k_is)
      (case v6_0 => k_is)
      (case v6_1 => k_is)
      (case v6_2 => k_is)
      (case v6_3 => k_is)
      (case v6_4 => k_is)
      (case v6_5 => k_is)
      (case v6_6 => k_is)
      (case v6_7 => k_is)
      (case v6_8 => k_is)
      (case k6 => kit_is)
      (case e7 => k_is)
      (case v7_0 => k_is)
      (case v7_1 => k_is)
      (case v7_2 => k_is)
      (case v7_3 => k_is)
      (case v7_4 => k_is)
      (case v7_5 => k_is)
      (case v7_6 => k_is)
      (case v7_7 => k_is)
      (case v7_8 => k_is)
      (case k7 => kit_is)
      (case e8 => k_is)
      (case v8_0 => k_is)
      (case v8_1 => k_is)
      (case v8_2 => k_is)
      (case v8_3 => k_is)
      (case v8_4 => k_is)
      (case v8_5 => k_is)
      (case v8_6 => k_is)
      (case v8_7 => k_is)
      (case v8_8 => k_is)
      (case k8 => kit_is)
      (case e9 => k_is)
      (case v9_0 => k_is)
      (case v9_1 => k_is)
      (case v9_2 => k_is)
      (case v9_3 => k_is)
      (case v9_4 => k_is)
      (case v9_5 => k_is)
      (case v9_6 => k_is)
      (case v9_7 => k_is)
      (case v9_8 => k_is)
      (case k9 => kit_is)
      (case e10 => k_is)
      (case v10_0 => k_is)
      (case v10_1 => k_is)
      (case v10_2 => k_is)
      (case v10_3 => k_is)
      (case v10_4 => k_is)
      (case v10_5 => k_is)
      (case v10_6 => k_is)
      (case v10_7 => k_is)
      (case v10_8 => k_is)
      (case k10 => kit_is)
      (case e11 => k_is)
      (case v11_0 => k_is)
      (case v11_1 => k_is)
      (case v11_2 => k_is)
      (case v11_3 => k_is)
      (case v11_4 => k_is)
      (case v11_5 => k_is)
      (case v11_6 => k_is)
      (case v11_7 => k_is)
      (case v11_8 => k_is)
      (case k11 => kit_is)
      (case e12 => k_is)
      (case v12_0 => k_is)
      (case v12_1 => k_is)
      (case v12_2 => k_is)
      (case v12_3 => k_is)
      (case v12_4 => k_is)
      (case v12_5 => k_is)
      (case v12_6 => k_is)
      (case v12_7 => k_is)
      (case v12_8 => k_is)
      (case k12 => kit_is)
      (case e13 => k_is)
      (case v13_0 => k_is)
      (case v13_1 => k_is)
      (case v13_2 => k_is)
      (case v13_3 => k_is)
      (case v13_4 => k_is)
      (case v13_5 => k_is)
      (case v13_6 => k_is)
      (case v13_7 => k_is)
      (case v13_8 => k_is)
      (case k13 => kit_is)
      (case tk => (intro b hb; simp only [TL.aTys, List.mem_cons, List.not_mem_nil, or_false] at hb; rcases hb with rfl | rfl | rfl | rfl | rfl | rfl | rfl <;> kit_is))
    case x_NothingDone =>
      refine' TL.isX_mk KX G ?ac ?tk (TL.IsXL.cons (PySem.W.mg_of KX G ?e0) (TL.exv_mk ?v0_0 ?v0_1 ?v0_2 ?v0_3 ?v0_4 ?v0_5 ?v0_6 ?v0_7 ?v0_8) ?k0 (TL.IsXL.cons (PySem.W.mg_of KX G ?e1) (TL.exv_mk ?v1_0 ?v1_1 ?v1_2 ?v1_3 ?v1_4 ?v1_5 ?v1_6 ?v1_7 ?v1_8) ?k1 (TL.IsXL.cons (PySem.W.mg_of KX G ?e2) (TL.exv_mk ?v2_0 ?v2_1 ?v2_2 ?v2_3 ?v2_4 ?v2_5 ?v2_6 ?v2_7 ?v2_8) ?k2 (TL.IsXL.cons (PySem.W.mg_of KX G ?e3) (TL.exv_mk ?v3_0 ?v3_1 ?v3_2 ?v3_3 ?v3_4 ?v3_5 ?v3_6 ?v3_7 ?v3_8) ?k3 (TL.IsXL.cons (PySem.W.mg_of KX G ?e4) (TL.exv_mk ?v4_0 ?v4_1 ?v4_2 ?v4_3 ?v4_4 ?v4_5 ?v4_6 ?v4_7 ?v4_8) ?k4 (TL.IsXL.cons (PySem.W.mg_of KX G ?e5) (TL.exv_mk ?v5_0 ?v5_1 ?v5_2 ?v5_3 ?v5_4 ?v5_5 ?v5_6 ?v5_7 ?v5_8) ?k5 (TL.IsXL.cons (PySem.W.mg_of KX G ?e6) (TL.exv_mk ?v6_0 ?v6_1 ?v6_2 ?v6_3 ?v6_4 ?v6_5 ?v6_6 ?v6_7 ?v6_8) ?k6 (TL.IsXL.cons (PySem.W.mg_of KX G ?e7) (TL.exv_mk ?v7_0 ?v7_1 ?v7_2 ?v7_3 ?v7_4 ?v7_5 ?v7_6 ?v7_7 ?v7_8) ?k7 (TL.IsXL.cons (PySem.W.mg_of KX G ?e8) (TL.exv_mk ?v8_0 ?v8_1 ?v8_2 ?v8_3 ?v8_4 ?v8_5 ?v8_6 ?v8_7 ?v8_8) ?k8 (TL.IsXL.cons (PySem.W.mg_of KX G ?e9) (TL.exv_mk ?v9_0 ?v9_1 ?v9_2 ?v9_3 ?v9_4 ?v9_5 ?v9_6 ?v9_7 ?v9_8) ?k9 (TL.IsXL.cons (PySem.W.mg_of KX G ?e10) (TL.exv_mk ?v10_0 ?v10_1 ?v10_2 ?v10_3 ?v10_4 ?v10_5 ?v10_6 ?v10_7 ?v10_8) ?k10 (TL.IsXL.cons (PySem.W.mg_of KX G ?e11) (TL.exv_mk ?v11_0 ?v11_1 ?v11_2 ?v11_3 ?v11_4 ?v11_5 ?v11_6 ?v11_7 ?v11_8) ?k11 (TL.IsXL.cons (PySem.W.mg_of KX G ?e12) (TL.exv_mk ?v12_0 ?v12_1 ?v12_2 ?v12_3 ?v12_4 ?v12_5 ?v12_6 ?v12_7 ?v12_8) ?k12 (TL.IsXL.cons (PySem.W.mg_of KX G ?e13) (TL.exv_mk ?v13_0 ?v13_1 ?v13_2 ?v13_3 ?v13_4 ?v13_5 ?v13_6 ?v13_7 ?v13_8) ?k13 TL.IsXL.nil))))))))))))))
      (case ac => k_is)
      (case e0 => k_is)
      (case v0_0 => k_is)
      (case v0_1 => k_is)
      (case v0_2 => k_is)
      (case v0_3 => k_is)
      (case v0_4 => k_is)
      (case v0_5 => k_is)
      (case v0_6 => k_is)
      (case v0_7 => k_is)
      (case v0_8 => k_is)
      (case k0 => kit_is)
      (case e1 => k_is)
      (case v1_0 => k_is)
      (case v1_1 => k_is)
      (case v1_2 => k_is)
      (case v1_3 => k_is)
      (case v1_4 => k_is)
      (case v1_5 => k_is)
      (case v1_6 => k_is)
      (case v1_7 => k_is)
      (case v1_8 => k_is)
      (case k1 => kit_is)
      (case e2 => k_is)
      (case v2_0 => k_is)
      (case v2_1 => k_is)
      (case v2_2 => k_is)
      (case v2_3 => k_is)
      (case v2_4 => k_is)
      (case v2_5 => k_is)
      (case v2_6 => k_is)
      (case v2_7 => k_is)
      (case v2_8 => k_is)
      (case k2 => kit_is)
      (case e3 => k_is)
      (case v3_0 => k_is)
      (case v3_1 => k_is)
      (case v3_2 => k_is)
      (case v3_3 => k_is)
      (case v3_4 => k_is)
      (case v3_5 => k_is)
      (case v3_6 => k_is)
      (case v3_7 => k_is)
      (case v3_8 => k_is)
      (case k3 => kit_is)
      (case e4 => k_is)
      (case v4_0 => k_is)
      (case v4_1 => k_is)
      (case v4_2 => k_is)
      (case v4_3 => k_is)
      (case v4_4 => k_is)
      (case v4_5 => k_is)
      (case v4_6 => k_is)
      (case v4_7 => k_is)
      (case v4_8 => k_is)
      (case k4 => kit_is)
      (case e5 => k_is)
      (case v5_0 => k_is)
      (case v5_1 => k_is)
      (case v5_2 => k_is)
      (case v5_3 => k_is)
      (case v5_4 => k_is)
      (case v5_5 => k_is)
      (case v5_6 => k_is)
      (case v5_7 => k_is)
      (case v5_8 => k_is)
      (case k5 => kit_is)
      (case e6 => k_is)
      (case v6_0 => k_is)
      (case v6_1 => k_is)
      (case v6_2 => k_is)
      (case v6_3 => k_is)
      (case v6_4 => k_is)
      (case v6_5 => k_is)
      (case v6_6 => k_is)
      (case v6_7 => k_is)
      (case v6_8 => k_is)
      (case k6 => kit_is)
      (case e7 => k_is)
      (case v7_0 => k_is)
      (case v7_1 => k_is)
      (case v7_2 => k_is)
      (case v7_3 => k_is)
      (case v7_4 => k_is)
      (case v7_5 => k_is)
      (case v7_6 => k_is)
      (case v7_7 => k_is)
      (case v7_8 => k_is)
      (case k7 => kit_is)
      (case e8 => k_is)
      (case v8_0 => k_is)
      (case v8_1 => k_is)
      (case v8_2 => k_is)
      (case v8_3 => k_is)
      (case v8_4 => k_is)
      (case v8_5 => k_is)
      (case v8_6 => k_is)
      (case v8_7 => k_is)
      (case v8_8 => k_is)
      (case k8 => kit_is)
      (case e9 => k_is)
      (case v9_0 => k_is)
      (case v9_1 => k_is)
      (case v9_2 => k_is)
      (case v9_3 => k_is)
      (case v9_4 => k_is)
      (case v9_5 => k_is)
      (case v9_6 => k_is)
      (case v9_7 => k_is)
      (case v9_8 => k_is)
      (case k9 => kit_is)
      (case e10 => k_is)
      (case v10_0 => k_is)
      (case v10_1 => k_is)
      (case v10_2 => k_is)
      (case v10_3 => k_is)
      (case v10_4 => k_is)
      (case v10_5 => k_is)
      (case v10_6 => k_is)
      (case v10_7 => k_is)
      (case v10_8 => k_is)
      (case k10 => kit_is)
      (case e11 => k_is)
      (case v11_0 => k_is)
      (case v11_1 => k_is)
      (case v11_2 => k_is)
      (case v11_3 => k_is)
      (case v11_4 => k_is)
      (case v11_5 => k_is)
      (case v11_6 => k_is)
      (case v11_7 => k_is)
      (case v11_8 => k_is)
      (case k11 => kit_is)
      (case e12 => k_is)
      (case v12_0 => k_is)
      (case v12_1 => k_is)
      (case v12_2 => k_is)
      (case v12_3 => k_is)
      (case v12_4 => k_is)
      (case v12_5 => k_is)
      (case v12_6 => k_is)
      (case v12_7 => k_is)
      (case v12_8 => k_is)
      (case k12 => kit_is)
      (case e13 => k_is)
      (case v13_0 => k_is)
      (case v13_1 => k_is)
      (case v13_2 => k_is)
      (case v13_3 => k_is)
      (case v13_4 => k_is)
      (case v13_5 => k_is)
      (case v13_6 => k_is)
      (case v13_7 => k_is)
      (case v13_8 => k_is)
      (case k13 => kit_is)
      (case tk => (intro b hb; simp only [TL.aTys, List.mem_cons, List.not_mem_nil, or_false] at hb; rcases hb with rfl | rfl | rfl | rfl | rfl | rfl | rfl <;> kit_is))
    case x_BadRules =>
      refine' TL.isX_mk KX G ?ac ?tk (TL.IsXL.cons (PySem.W.mg_of KX G ?e0) (TL.exv_mk ?v0_0 ?v0_1 ?v0_2 ?v0_3 ?v0_4 ?v0_5 ?v0_6 ?v0_7 ?v0_8) ?k0 (TL.IsXL.cons (PySem.W.mg_of KX G ?e1) (TL.exv_mk ?v1_0 ?v1_1 ?v1_2 ?v1_3 ?v1_4 ?v1_5 ?v1_6 ?v1_7 ?v1_8) ?k1 (TL.IsXL.cons (PySem.W.mg_of KX G ?e2) (TL.exv_mk ?v2_0 ?v2_1 ?v2_2 ?v2_3 ?v2_4 ?v2_5 ?v2_6 ?v2_7 ?v2_8) ?k2 (TL.IsXL.cons (PySem.W.mg_of KX G ?e3) (TL.exv_mk ?v3_0 ?v3_1 ?v3_2 ?v3_3 ?v3_4 ?v3_5 ?v3_6 ?v3_7 ?v3_8) ?k3 (TL.IsXL.cons (PySem.W.mg_of KX G ?e4) (TL.exv_mk ?v4_0 ?v4_1 ?v4_2 ?v4_3 ?v4_4 ?v4_5 ?v4_6 ?v4_7 ?v4_8) ?k4 (TL.IsXL.cons (PySem.W.mg_of KX G ?e5) (TL.exv_mk ?v5_0 ?v5_1 ?v5_2 ?v5_3 ?v5_4 ?v5_5 ?v5_6 ?v5_7 ?v5_8) ?k5 (TL.IsXL.cons (PySem.W.mg_of KX G ?e6) (TL.exv_mk ?v6_0 ?v6_1 ?v6_2 ?v6_3 ?v6_4 ?v6_5 ?v6_6 ?v6_7 ?v6_8) ?k6 (TL.IsXL.cons (PySem.W.mg_of KX G ?e7) (TL.exv_mk ?v7_0 ?v7_1 ?v7_2 ?v7_3 ?v7_4 ?v7_5 ?v7_6 ?v7_7 ?v7_8) ?k7 (TL.IsXL.cons (PySem.W.mg_of KX G ?e8) (TL.exv_mk ?v8_0 ?v8_1 ?v8_2 ?v8_3 ?v8_4 ?v8_5 ?v8_6 ?v8_7 ?v8_8) ?k8 (TL.IsXL.cons (PySem.W.mg_of KX G ?e9) (TL.exv_mk ?v9_0 ?v9_1 ?v9_2 ?v9_3 ?v9_4 ?v9_5 ?v9_6 ?v9_7 ?v9_8) ?k9 (TL.IsXL.cons (PySem.W.mg_of KX G ?e10) (TL.exv_mk ?v10_0 ?v10_1 ?v10_2 ?v10_3 ?v10_4 ?v10_5 ?v10_6 ?v10_7 ?v10_8) ?k10 (TL.IsXL.cons (PySem.W.mg_of KX G ?e11) (TL.exv_mk ?v11_0 ?v11_1 ?v11_2 ?v11_3 ?v11_4 ?v11_5 ?v11_6 ?v11_7 ?v11_8) ?k11 (TL.IsXL.cons (PySem.W.mg_of KX G ?e12) (TL.exv_mk ?v12_0 ?v12_1 ?v12_2 ?v12_3 ?v12_4 ?v12_5 ?v12_6 ?v12_7 ?v12_8) ?k12 (TL.IsXL.cons (PySem.W.mg_of KX G ?e13) (TL.exv_mk ?v13_0 ?v13_1 ?v13_2 ?v13_3 ?v13_4 ?v13_5 ?v13_6 ?v13_7 ?v13_8) ?k13 TL.IsXL.nil))))))))))))))
      (case ac => k_is)
      (case e0 => k_is)
      (case v0_0 => k_is)
      (case v0_1 => k_is)
      (case v0_2 => k_is)
      (case v0_3 => k_is)
      (case v0_4 => k_is)
      (case v0_5 => k_is)
      (case v0_6 => k_is)
      (case v0_7 => k_is)
      (case v0_8 => k_is)
      (case k0 => kit_is)
      (case e1 => k_is)
      (case v1_0 => k_is)
      (case v1_1 => k_is)
      (case v1_2 => k_is)
      (case v1_3 => k_is)
      (case v1_4 => k_is)
      (case v1_5 => k_is)
      (case v1_6 => k_is)
      (case v1_7 => k_is)
      (case v1_8 => k_is)
      (case k1 => kit_is)
      (case e2 => k_is)
      (case v2_0 => k_is)
      (case v2_1 => k_is)
      (case v2_2 => k_is)
      (case v2_3 => k_is)
      (case v2_4 => k_is)
      (case v2_5 => k_is)
      (case v2_6 => k_is)
      (case v2_7 => k_is)
      (case v2_8 => k_is)
      (case k2 => kit_is)
      (case e3 => k_is)
      (case v3_0 => k_is)
      (case v3_1 => k_is)
      (case v3_2 => k_is)
      (case v3_3 => k_is)
      (case v3_4 => k_is)
      (case v3_5 => k_is)
      (case v3_6 => k_is)
      (case v3_7 => k_is)
      (case v3_8 => k_is)
      (case k3 => kit_is)
      (case e4 => k_is)
      (case v4_0 => k_is)
      (case v4_1 => k_is)
      (case v4_2 => k_is)
      (case v4_3 => k_is)
      (case v4_4 => k_is)
      (case v4_5 => k_is)
      (case v4_6 => k_is)
      (case v4_7 => k_is)
      (case v4_8 => k_is)
      (case k4 => kit_is)
      (case e5 => k_is)
      (case v5_0 => k_is)
      (case v5_1 => k_is)
      (case v5_2 => k_is)
      (case v5_3 => k_is)
      (case v5_4 => k_is)
      (case v5_5 => k_is)
      (case v5_6 => k_is)
      (case v5_7 => k_is)
      (case v5_8 => k_is)
      (case k5 => kit_is)
      (case e6 => k_is)
      (case v6_0 => k_is)
      (case v6_1 => k_is)
      (case v6_2 => k_is)
      (case v6_3 => k_is)
      (case v6_4 => k_is)
      (case v6_5 => k_is)
      (case v6_6 => k_is)
      (case v6_7 => k_is)
      (case v6_8 => k_is)
      (case k6 => kit_is)
      (case e7 => k_is)
      (case v7_0 => k_is)
      (case v7_1 => k_is)
      (case v7_2 => k_is)
      (case v7_3 => k_is)
      (case v7_4 => k_is)
      (case v7_5 => k_is)
      (case v7_6 => k_is)
      (case v7_7 => k_is)
      (case v7_8 => k_is)
      (case k7 => kit_is)
      (case e8 => k_is)
      (case v8_0 => k_is)
      (case v8_1 => k_is)
      (case v8_2 => k_is)
      (case v8_3 => k_is)
      (case v8_4 => k_is)
      (case v8_5 => k_is)
      (case v8_6 => k_is)
      (case v8_7 => k_is)
      (case v8_8 => k_is)
      (case k8 => kit_is)
      (case e9 => k_is)
      (case v9_0 => k_is)
      (case v9_1 => k_is)
      (case v9_2 => k_is)
      (case v9_3 => k_is)
      (case v9_4 => k_is)
      (case v9_5 => k_is)
      (case v9_6 => k_is)
      (case v9_7 => k_is)
      (case v9_8 => k_is)
      (case k9 => kit_is)
      (case e10 => k_is)
      (case v10_0 => k_is)
      (case v10_1 => k_is)
      (case v10_2 => k_is)
      (case v10_3 => k_is)
      (case v10_4 => k_is)
      (case v10_5 => k_is)
      (case v10_6 => k_is)
      (case v10_7 => k_is)
      (case v10_8 => k_is)
      (case k10 => kit_is)
      (case e11 => k_is)
      (case v11_0 => k_is)
      (case v11_1 => k_is)
      (case v11_2 => k_is)
      (case v11_3 => k_is)
      (case v11_4 => k_is)
      (case v11_5 => k_is)
      (case v11_6 => k_is)
      (case v11_7 => k_is)
      (case v11_8 => k_is)
      (case k11 => kit_is)
      (case e12 => k_is)
      (case v12_0 => k_is)
      (case v12_1 => k_is)
      (case v12_2 => k_is)
      (case v12_3 => k_is)
      (case v12_4 => k_is)
      (case v12_5 => k_is)
      (case v12_6 => k_is)
      (case v12_7 => k_is)
      (case v12_8 => k_is)
      (case k12 => kit_is)
      (case e13 => k_is)
      (case v13_0 => k_is)
      (case v13_1 => k_is)
      (case v13_2 => k_is)
      (case v13_3 => k_is)
      (case v13_4 => k_is)
      (case v13_5 => k_is)
      (case v13_6 => k_is)
      (case v13_7 => k_is)
      (case v13_8 => k_is)
      (case k13 => kit_is)
      (case tk => (intro b hb; simp only [TL.aTys, List.mem_cons, List.not_mem_nil, or_false] at hb; rcases hb with rfl | rfl | rfl | rfl | rfl | rfl | rfl <;> kit_is))
    case x_BadText =>
      refine' TL.isX_mk KX G ?ac ?tk (TL.IsXL.cons (PySem.W.mg_of KX G ?e0) (TL.exv_mk ?v0_0 ?v0_1 ?v0_2 ?v0_3 ?v0_4 ?v0_5 ?v0_6 ?v0_7 ?v0_8) ?k0 (TL.IsXL.cons (PySem.W.mg_of KX G ?e1) (TL.exv_mk ?v1_0 ?v1_1 ?v1_2 ?v1_3 ?v1_4 ?v1_5 ?v1_6 ?v1_7 ?v1_8) ?k1 (TL.IsXL.cons (PySem.W.mg_of KX G ?e2) (TL.exv_mk ?v2_0 ?v2_1 ?v2_2 ?v2_3 ?v2_4 ?v2_5 ?v2_6 ?v2_7 ?v2_8) ?k2 (TL.IsXL.cons (PySem.W.mg_of KX G ?e3) (TL.exv_mk ?v3_0 ?v3_1 ?v3_2 ?v3_3 ?v3_4 ?v3_5 ?v3_6 ?v3_7 ?v3_8) ?k3 (TL.IsXL.cons (PySem.W.mg_of KX G ?e4) (TL.exv_mk ?v4_0 ?v4_1 ?v4_2 ?v4_3 ?v4_4 ?v4_5 ?v4_6 ?v4_7 ?v4_8) ?k4 (TL.IsXL.cons (PySem.W.mg_of KX G ?e5) (TL.exv_mk ?v5_0 ?v5_1 ?v5_2 ?v5_3 ?v5_4 ?v5_5 ?v5_6 ?v5_7 ?v5_8) ?k5 (TL.IsXL.cons (PySem.W.mg_of KX G ?e6) (TL.exv_mk ?v6_0 ?v6_1 ?v6_2 ?v6_3 ?v6_4 ?v6_5 ?v6_6 ?v6_7 ?v6_8) ?k6 (TL.IsXL.cons (PySem.W.mg_of KX G ?e7) (TL.exv_mk ?v7_0 ?v7_1 ?v7_2 ?v7_3 ?v7_4 ?v7_5 ?v7_6 ?v7_7 ?v7_8) ?k7 (TL.IsXL.cons (PySem.W.mg_of KX G ?e8) (TL.exv_mk ?v8_0 ?v8_1 ?v8_2 ?v8_3 ?v8_4 ?v8_5 ?v8_6 ?v8_7 ?v8_8) ?k8 (TL.IsXL.cons (PySem.W.mg_of KX G ?e9) (TL.exv_mk ?v9_0 ?v9_1 ?v9_2 ?v9_3 ?v9_4 ?v9_5 ?v9_6 ?v9_7 ?v9_8) ?k9 (TL.IsXL.cons (PySem.W.mg_of KX G ?e10) (TL.exv_mk ?v10_0 ?v10_1 ?v10_2 ?v10_3 ?v10_4 ?v10_5 ?v10_6 ?v10_7 ?v10_8) ?k10 (TL.IsXL.cons (PySem.W.mg_of KX G ?e11) (TL.exv_mk ?v11_0 ?v11_1 ?v11_2 ?v11_3 ?v11_4 ?v11_5 ?v11_6 ?v11_7 ?v11_8) ?k11 (TL.IsXL.cons (PySem.W.mg_of KX G ?e12) (TL.exv_mk ?v12_0 ?v12_1 ?v12_2 ?v12_3 ?v12_4 ?v12_5 ?v12_6 ?v12_7 ?v12_8) ?k12 (TL.IsXL.cons (PySem.W.mg_of KX G ?e13) (TL.exv_mk ?v13_0 ?v13_1 ?v13_2 ?v13_3 ?v13_4 ?v13_5 ?v13_6 ?v13_7 ?v13_8) ?k13 TL.IsXL.nil))))))))))))))
      (case ac => k_is)
      (case e0 => k_is)
      (case v0_0 => k_is)
      (case v0_1 => k_is)
      (case v0_2 => k_is)
      (case v0_3 => k_is)
      (case v0_4 => k_is)
      (case v0_5 => k_is)
      (case v0_6 => k_is)
      (case v0_7 => k_is)
      (case v0_8 => k_is)
      (case k0 => kit_is)
      (case e1 => k_is)
      (case v1_0 => k_is)
      (case v1_1 => k_is)
      (case v1_2 => k_is)
      (case v1_3 => k_is)
      (case v1_4 => k_is)
      (case v1_5 => k_is)
      (case v1_6 => k_is)
      (case v1_7 => k_is)
      (case v1_8 => k_is)
      (case k1 => kit_is)
      (case e2 => k_is)
      (case v2_0 => k_is)
      (case v2_1 => k_is)
      (case v2_2 => k_is)
      (case v2_3 => k_is)
      (case v2_4 => k_is)
      (case v2_5 => k_is)
      (case v2_6 => k_is)
      (case v2_7 => k_is)
      (case v2_8 => k_is)
      (case k2 => kit_is)
      (case e3 => k_is)
      (case v3_0 => k_is)
      (case v3_1 => k_is)
      (case v3_2 => k_is)
      (case v3_3 => k_is)
      (case v3_4 => k_is)
      (case v3_5 => k_is)
      (case v3_6 => k_is)
      (case v3_7 => k_is)
      (case v3_8 => k_is)
      (case k3 => kit_is)
      (case e4 => k_is)
      (case v4_0 => k_is)
      (case v4_1 => k_is)
      (case v4_2 => k_is)
      (case v4_3 => k_is)
      (case v4_4 => k_is)
      (case v4_5 => k_is)
      (case v4_6 => k_is)
      (case v4_7 => k_is)
      (case v4_8 => k_is)
      (case k4 => kit_is)
      (case e5 => k_is)
      (case v5_0 => k_is)
      (case v5_1 => k_is)
      (case v5_2 => k_is)
      (case v5_3 => k_is)
      (case v5_4 => k_is)
      (case v5_5 => k_is)
      (case v5_6 => k_is)
      (case v5_7 => k_is)
      (case v5_8 => k_is)
      (case k5 => kit_is)
      (case e6 => k_is)
      (case v6_0 => k_is)
      (case v6_1 => k_is)
      (case v6_2 => k_is)
      (case v6_3 => k_is)
      (case v6_4 => k_is)
      (case v6_5 => k_is)
      (case v6_6 => k_is)
      (case v6_7 => k_is)
      (case v6_8 => k_is)
      (case k6 => kit_is)
      (case e7 => k_is)
      (case v7_0 => k_is)
      (case v7_1 => k_is)
      (case v7_2 => k_is)
      (case v7_3 => k_is)
      (case v7_4 => k_is)
      (case v7_5 => k_is)
      (case v7_6 => k_is)
      (case v7_7 => k_is)
      (case v7_8 => k_is)
      (case k7 => kit_is)
      (case e8 => k_is)
      (case v8_0 => k_is)
      (case v8_1 => k_is)
      (case v8_2 => k_is)
      (case v8_3 => k_is)
      (case v8_4 => k_is)
      (case v8_5 => k_is)
      (case v8_6 => k_is)
      (case v8_7 => k_is)
      (case v8_8 => k_is)
      (case k8 => kit_is)
      (case e9 => k_is)
      (case v9_0 => k_is)
      (case v9_1 => k_is)
      (case v9_2 => k_is)
      (case v9_3 => k_is)
      (case v9_4 => k_is)
      (case v9_5 => k_is)
      (case v9_6 => k_is)
      (case v9_7 => k_is)
      (case v9_8 => k_is)
      (case k9 => kit_is)
      (case e10 => k_is)
      (case v10_0 => k_is)
      (case v10_1 => k_is)
      (case v10_2 => k_is)
      (case v10_3 => k_is)
      (case v10_4 => k_is)
      (case v10_5 => k_is)
      (case v10_6 => k_is)
      (case v10_7 => k_is)
      (case v10_8 => k_is)
      (case k10 => kit_is)
      (case e11 => k_is)
      (case v11_0 => k_is)
      (case v11_1 => k_is)
      (case v11_2 => k_is)
      (case v11_3 => k_is)
      (case v11_4 => k_is)
      (case v11_5 => k_is)
      (case v11_6 => k_is)
      (case v11_7 => k_is)
      (case v11_8 => k_is)
      (case k11 => kit_is)
      (case e12 => k_is)
      (case v12_0 => k_is)
      (case v12_1 => k_is)
      (case v12_2 => k_is)
      (case v12_3 => k_is)
      (case v12_4 => k_is)
      (case v12_5 => k_is)
      (case v12_6 => k_is)
      (case v12_7 => k_is)
      (case v12_8 => k_is)
      (case k12 => kit_is)
      (case e13 => k_is)
      (case v13_0 => k_is)
      (case v13_1 => k_is)
      (case v13_2 => k_is)
      (case v13_3 => k_is)
      (case v13_4 => k_is)
      (case v13_5 => k_is)
      (case v13_6 => k_is)
      (case v13_7 => k_is)
      (case v13_8 => k_is)
      (case k13 => kit_is)
      (case tk => (intro b hb; simp only [TL.aTys, List.mem_cons, List.not_mem_nil, or_false] at hb; rcases hb with rfl | rfl | rfl | rfl | rfl | rfl | rfl <;> kit_is))
    case A__law_alone =>
      refine' TL.funAt_mk KX G ?hb ?a ?l ?c ?k
      (case a => k_is)
      (case l => k_is)
      (case c => k_is)
      (case k => k_is)
      (case hb => (intro _ _ _ _ _ _ us hl; match us, hl with | [_, _], _ => rfl))
    case m_range =>
      refine' PySem.W.mg_none_of KX G ?z
      (case z => k_is)
    case x_LogError =>
      refine' TL.isX_mk KX G ?ac ?tk (TL.IsXL.cons (PySem.W.mg_of KX G ?e0) (TL.exv_mk ?v0_0 ?v0_1 ?v0_2 ?v0_3 ?v0_4 ?v0_5 ?v0_6 ?v0_7 ?v0_8) ?k0 (TL.IsXL.cons (PySem.W.mg_of KX G ?e1) (TL.exv_mk ?v1_0 ?v1_1 ?v1_2 ?v1_3 ?v1_4 ?v1_5 ?v1_6 ?v1_7 ?v1_8) ?k1 (TL.IsXL.cons (PySem.W.mg_of KX G ?e2) (TL.exv_mk ?v2_0 ?v2_1 ?v2_2 ?v2_3 ?v2_4 ?v2_5 ?v2_6 ?v2_7 ?v2_8) ?k2 (TL.IsXL.cons (PySem.W.mg_of KX G ?e3) (TL.exv_mk ?v3_0 ?v3_1 ?v3_2 ?v3_3 ?v3_4 ?v3_5 ?v3_6 ?v3_7 ?v3_8) ?k3 (TL.IsXL.cons (PySem.W.mg_of KX G ?e4) (TL.exv_mk ?v4_0 ?v4_1 ?v4_2 ?v4_3 ?v4_4 ?v4_5 ?v4_6 ?v4_7 ?v4_8) ?k4 (TL.IsXL.cons (PySem.W.mg_of KX G ?e5) (TL.exv_mk ?v5_0 ?v5_1 ?v5_2 ?v5_3 ?v5_4 ?v5_5 ?v5_6 ?v5_7 ?v5_8) ?k5 (TL.IsXL.cons (PySem.W.mg_of KX G ?e6) (TL.exv_mk ?v6_0 ?v6_1 ?v6_2 ?v6_3 ?v6_4 ?v6_5 ?v6_6 ?v6_7 ?v6_8) ?k6 (TL.IsXL.cons (PySem.W.mg_of KX G ?e7) (TL.exv_mk ?v7_0 ?v7_1 ?v7_2 ?v7_3 ?v7_4 ?v7_5 ?v7_6 ?v7_7 ?v7_8) ?k7 (TL.IsXL.cons (PySem.W.mg_of KX G ?e8) (TL.exv_mk ?v8_0 ?v8_1 ?v8_2 ?v8_3 ?v8_4 ?v8_5 ?v8_6 ?v8_7 ?v8_8) ?k8 (TL.IsXL.cons (PySem.W.mg_of KX G ?e9) (TL.exv_mk ?v9_0 ?v9_1 ?v9_2 ?v9_3 ?v9_4 ?v9_5 ?v9_6 ?v9_7 ?v9_8) ?k9 (TL.IsXL.cons (PySem.W.mg_of KX G ?e10) (TL.exv_mk ?v10_0 ?v10_1 ?v10_2 ?v10_3 ?v10_4 ?v10_5 ?v10_6 ?v10_7 ?v10_8) ?k10 (TL.IsXL.cons (PySem.W.mg_of KX G ?e11) (TL.exv_mk ?v11_0 ?v11_1 ?v11_2 ?v11_3 ?v11_4 ?v11_5 ?v11_6 ?v11_7 ?v11_8) ?k11 (TL.IsXL.cons (PySem.W.mg_of KX G ?e12) (TL.exv_mk ?v12_0 ?v12_1 ?v12_2 ?v12_3 ?v12_4 ?v12_5 ?v12_6 ?v12_7 ?v12_8) ?k12 (TL.IsXL.cons (PySem.W.mg_of KX G ?e13) (TL.exv_mk ?v13_0 ?v13_1 ?v13_2 ?v13_3 ?v13_4 ?v13_5 ?v13_6 ?v13_7 ?v13_8) ?k13 TL.IsXL.nil))))))))))))))
      (case ac => k_is)
      (case e0 => k_is)
      (case v0_0 => k_is)
      (case v0_1 => k_is)
      (case v0_2 => k_is)
      (case v0_3 => k_is)
      (case v0_4 => k_is)
      (case v0_5 => k_is)
      (case v0_6 => k_is)
      (case v0_7 => k_is)
      (case v0_8 => k_is)
      (case k0 => kit_is)
      (case e1 => k_is)
      (case v1_0 => k_is)
      (case v1_1 => k_is)
      (case v1_2 => k_is)
      (case v1_3 => k_is)
      (case v1_4 => k_is)
      (case v1_5 => k_is)
      (case v1_6 => k_is)
      (case v1_7 => k_is)
      (case v1_8 => k_is)
      (case k1 => kit_is)
      (case e2 => k_is)
      (case v2_0 => k_is)
      (case v2_1 => k_is)
      (case v2_2 => k_is)
      (case v2_3 => k_is)
      (case v2_4 => k_is)
      (case v2_5 => k_is)
      (case v2_6 => k_is)
      (case v2_7 => k_is)
      (case v2_8 => k_is)
      (case k2 => kit_is)
      (case e3 => k_is)
      (case v3_0 => k_is)
      (case v3_1 => k_is)
      (case v3_2 => k_is)
      (case v3_3 => k_is)
      (case v3_4 => k_is)
      (case v3_5 => k_is)
      (case v3_6 => k_is)
      (case v3_7 => k_is)
      (case v3_8 => k_is)
      (case k3 => kit_is)
      (case e4 => k_is)
      (case v4_0 => k_is)
      (case v4_1 => k_is)
      (case v4_2 => k_is)
      (case v4_3 => k_is)
      (case v4_4 => k_is)
      (case v4_5 => k_is)
      (case v4_6 => k_is)
      (case v4_7 => k_is)
      (case v4_8 => k_is)
      (case k4 => kit_is)
      (case e5 => k_is)
      (case v5_0 => k_is)
      (case v5_1 => k_is)
      (case v5_2 => k_is)
      (case v5_3 => k_is)
      (case v5_4 => k_is)
      (case v5_5 => k_is)
      (case v5_6 => k_is)
      (case v5_7 => k_is)
      (case v5_8 => k_is)
      (case k5 => kit_is)
      (case e6 => k_is)
      (case v6_0 => k_is)
      (case v6_1 => k_is)
      (case v6_2 => k_is)
      (case v6_3 => k_is)
      (case v6_4 => k_is)
      (case v6_5 => k_is)
      (case v6_6 => k_is)
      (case v6_7 => k_is)
      (case v6_8 => k_is)
      (case k6 => kit_is)
      (case e7 => k_is)
      (case v7_0 => k_is)
      (case v7_1 => k_is)
      (case v7_2 => k_is)
      (case v7_3 => k_is)
      (case v7_4 => k_is)
      (case v7_5 => k_is)
      (case v7_6 => k_is)
      (case v7_7 => k_is)
      (case v7_8 => k_is)
      (case k7 => kit_is)
      (case e8 => k_is)
      (case v8_0 => k_is)
      (case v8_1 => k_is)
      (case v8_2 => k_is)
      (case v8_3 => k_is)
      (case v8_4 => k_is)
      (case v8_5 => k_is)
      (case v8_6 => k_is)
      (case v8_7 => k_is)
      (case v8_8 => k_is)
      (case k8 => kit_is)
      (case e9 => k_is)
      (case v9_0 => k_is)
      (case v9_1 => k_is)
      (case v9_2 => k_is)
      (case v9_3 => k_is)
      (case v9_4 => k_is)
      (case v9_5 => k_is)
      (case v9_6 => k_is)
      (case v9_7 => k_is)
      (case v9_8 => k_is)
      (case k9 => kit_is)
      (case e10 => k_is)
      (case v10_0 => k_is)
      (case v10_1 => k_is)
      (case v10_2 => k_is)
      (case v10_3 => k_is)
      (case v10_4 => k_is)
      (case v10_5 => k_is)
      (case v10_6 => k_is)
      (case v10_7 => k_is)
      (case v10_8 => k_is)
      (case k10 => kit_is)
      (case e11 => k_is)
      (case v11_0 => k_is)
      (case v11_1 => k_is)
      (case v11_2 => k_is)
      (case v11_3 => k_is)
      (case v11_4 => k_is)
      (case v11_5 => k_is)
      (case v11_6 => k_is)
      (case v11_7 => k_is)
      (case v11_8 => k_is)
      (case k11 => kit_is)
      (case e12 => k_is)
      (case v12_0 => k_is)
      (case v12_1 => k_is)
      (case v12_2 => k_is)
      (case v12_3 => k_is)
      (case v12_4 => k_is)
      (case v12_5 => k_is)
      (case v12_6 => k_is)
      (case v12_7 => k_is)
      (case v12_8 => k_is)
      (case k12 => kit_is)
      (case e13 => k_is)
      (case v13_0 => k_is)
      (case v13_1 => k_is)
      (case v13_2 => k_is)
      (case v13_3 => k_is)
      (case v13_4 => k_is)
      (case v13_5 => k_is)
      (case v13_6 => k_is)
      (case v13_7 => k_is)
      (case v13_8 => k_is)
      (case k13 => kit_is)
      (case tk => (intro b hb; simp only [TL.aTys, List.mem_cons, List.not_mem_nil, or_false] at hb; rcases hb with rfl | rfl | rfl | rfl | rfl | rfl | rfl <;> kit_is))
    case x_ValueError =>
      refine' TL.isV_mk (h := h) (PySem.W.mg_none_of KX G ?z) ?tk (TL.IsVL.cons (PySem.W.mg_of KX G ?e0) (TL.exv_mk ?v0_0 ?v0_1 ?v0_2 ?v0_3 ?v0_4 ?v0_5 ?v0_6 ?v0_7 ?v0_8) ?k0 (TL.IsVL.cons (PySem.W.mg_of KX G ?e1) (TL.exv_mk ?v1_0 ?v1_1 ?v1_2 ?v1_3 ?v1_4 ?v1_5 ?v1_6 ?v1_7 ?v1_8) ?k1 (TL.IsVL.cons (PySem.W.mg_of KX G ?e2) (TL.exv_mk ?v2_0 ?v2_1 ?v2_2 ?v2_3 ?v2_4 ?v2_5 ?v2_6 ?v2_7 ?v2_8) ?k2 (TL.IsVL.cons (PySem.W.mg_of KX G ?e3) (TL.exv_mk ?v3_0 ?v3_1 ?v3_2 ?v3_3 ?v3_4 ?v3_5 ?v3_6 ?v3_7 ?v3_8) ?k3 (TL.IsVL.cons (PySem.W.mg_of KX G ?e4) (TL.exv_mk ?v4_0 ?v4_1 ?v4_2 ?v4_3 ?v4_4 ?v4_5 ?v4_6 ?v4_7 ?v4_8) ?k4 (TL.IsVL.cons (PySem.W.mg_of KX G ?e5) (TL.exv_mk ?v5_0 ?v5_1 ?v5_2 ?v5_3 ?v5_4 ?v5_5 ?v5_6 ?v5_7 ?v5_8) ?k5 (TL.IsVL.cons (PySem.W.mg_of KX G ?e6) (TL.exv_mk ?v6_0 ?v6_1 ?v6_2 ?v6_3 ?v6_4 ?v6_5 ?v6_6 ?v6_7 ?v6_8) ?k6 (TL.IsVL.cons (PySem.W.mg_of KX G ?e7) (TL.exv_mk ?v7_0 ?v7_1 ?v7_2 ?v7_3 ?v7_4 ?v7_5 ?v7_6 ?v7_7 ?v7_8) ?k7 (TL.IsVL.cons (PySem.W.mg_of KX G ?e8) (TL.exv_mk ?v8_0 ?v8_1 ?v8_2 ?v8_3 ?v8_4 ?v8_5 ?v8_6 ?v8_7 ?v8_8) ?k8 (TL.IsVL.cons (PySem.W.mg_of KX G ?e9) (TL.exv_mk ?v9_0 ?v9_1 ?v9_2 ?v9_3 ?v9_4 ?v9_5 ?v9_6 ?v9_7 ?v9_8) ?k9 (TL.IsVL.cons (PySem.W.mg_of KX G ?e10) (TL.exv_mk ?v10_0 ?v10_1 ?v10_2 ?v10_3 ?v10_4 ?v10_5 ?v10_6 ?v10_7 ?v10_8) ?k10 (TL.IsVL.cons (PySem.W.mg_of KX G ?e11) (TL.exv_mk ?v11_0 ?v11_1 ?v11_2 ?v11_3 ?v11_4 ?v11_5 ?v11_6 ?v11_7 ?v11_8) ?k11 (TL.IsVL.cons (PySem.W.mg_of KX G ?e12) (TL.exv_mk ?v12_0 ?v12_1 ?v12_2 ?v12_3 ?v12_4 ?v12_5 ?v12_6 ?v12_7 ?v12_8) ?k12 (TL.IsVL.cons (PySem.W.mg_of KX G ?e13) (TL.exv_mk ?v13_0 ?v13_1 ?v13_2 ?v13_3 ?v13_4 ?v13_5 ?v13_6 ?v13_7 ?v13_8) ?k13 TL.IsVL.nil))))))))))))))
      (case z => k_is)
      (case e0 => k_is)
      (case v0_0 => k_is)
      (case v0_1 => k_is)
      (case v0_2 => k_is)
      (case v0_3 => k_is)
      (case v0_4 => k_is)
      (case v0_5 => k_is)
      (case v0_6 => k_is)
      (case v0_7 => k_is)
      (case v0_8 => k_is)
      (case k0 => kit_is)
      (case e1 => k_is)
      (case v1_0 => k_is)
      (case v1_1 => k_is)
      (case v1_2 => k_is)
      (case v1_3 => k_is)
      (case v1_4 => k_is)
      (case v1_5 => k_is)
      (case v1_6 => k_is)
      (case v1_7 => k_is)
      (case v1_8 => k_is)
      (case k1 => kit_is)
      (case e2 => k_is)
      (case v2_0 => k_is)
      (case v2_1 => k_is)
      (case v2_2 => k_is)
      (case v2_3 => k_is)
      (case v2_4 => k_is)
      (case v2_5 => k_is)
      (case v2_6 => k_is)
      (case v2_7 => k_is)
      (case v2_8 => k_is)
      (case k2 => kit_is)
      (case e3 => k_is)
      (case v3_0 => k_is)
      (case v3_1 => k_is)
      (case v3_2 => k_is)
      (case v3_3 => k_is)
      (case v3_4 => k_is)
      (case v3_5 => k_is)
      (case v3_6 => k_is)
      (case v3_7 => k_is)
      (case v3_8 => k_is)
      (case k3 => kit_is)
      (case e4 => k_is)
      (case v4_0 => k_is)
      (case v4_1 => k_is)
      (case v4_2 => k_is)
      (case v4_3 => k_is)
      (case v4_4 => k_is)
      (case v4_5 => k_is)
      (case v4_6 => k_is)
      (case v4_7 => k_is)
      (case v4_8 => k_is)
      (case k4 => kit_is)
      (case e5 => k_is)
      (case v5_0 => k_is)
      (case v5_1 => k_is)
      (case v5_2 => k_is)
      (case v5_3 => k_is)
      (case v5_4 => k_is)
      (case v5_5 => k_is)
      (case v5_6 => k_is)
      (case v5_7 => k_is)
      (case v5_8 => k_is)
      (case k5 => kit_is)
      (case e6 => k_is)
      (case v6_0 => k_is)
      (case v6_1 => k_is)
      (case v6_2 => k_is)
      (case v6_3 => k_is)
      (case v6_4 => k_is)
      (case v6_5 => k_is)
      (case v6_6 => k_is)
      (case v6_7 => k_is)
      (case v6_8 => k_is)
      (case k6 => kit_is)
      (case e7 => k_is)
      (case v7_0 => k_is)
      (case v7_1 => k_is)
      (case v7_2 => k_is)
      (case v7_3 => k_is)
      (case v7_4 => k_is)
      (case v7_5 => k_is)
      (case v7_6 => k_is)
      (case v7_7 => k_is)
      (case v7_8 => k_is)
      (case k7 => kit_is)
      (case e8 => k_is)
      (case v8_0 => k_is)
      (case v8_1 => k_is)
      (case v8_2 => k_is)
      (case v8_3 => k_is)
      (case v8_4 => k_is)
      (case v8_5 => k_is)
      (case v8_6 => k_is)
      (case v8_7 => k_is)
      (case v8_8 => k_is)
      (case k8 => kit_is)
      (case e9 => k_is)
      (case v9_0 => k_is)
      (case v9_1 => k_is)
      (case v9_2 => k_is)
      (case v9_3 => k_is)
      (case v9_4 => k_is)
      (case v9_5 => k_is)
      (case v9_6 => k_is)
      (case v9_7 => k_is)
      (case v9_8 => k_is)
      (case k9 => kit_is)
      (case e10 => k_is)
      (case v10_0 => k_is)
      (case v10_1 => k_is)
      (case v10_2 => k_is)
      (case v10_3 => k_is)
      (case v10_4 => k_is)
      (case v10_5 => k_is)
      (case v10_6 => k_is)
      (case v10_7 => k_is)
      (case v10_8 => k_is)
      (case k10 => kit_is)
      (case e11 => k_is)
      (case v11_0 => k_is)
      (case v11_1 => k_is)
      (case v11_2 => k_is)
      (case v11_3 => k_is)
      (case v11_4 => k_is)
      (case v11_5 => k_is)
      (case v11_6 => k_is)
      (case v11_7 => k_is)
      (case v11_8 => k_is)
      (case k11 => kit_is)
      (case e12 => k_is)
      (case v12_0 => k_is)
      (case v12_1 => k_is)
      (case v12_2 => k_is)
      (case v12_3 => k_is)
      (case v12_4 => k_is)
      (case v12_5 => k_is)
      (case v12_6 => k_is)
      (case v12_7 => k_is)
      (case v12_8 => k_is)
      (case k12 => kit_is)
      (case e13 => k_is)
      (case v13_0 => k_is)
      (case v13_1 => k_is)
      (case v13_2 => k_is)
      (case v13_3 => k_is)
      (case v13_4 => k_is)
      (case v13_5 => k_is)
      (case v13_6 => k_is)
      (case v13_7 => k_is)
      (case v13_8 => k_is)
      (case k13 => kit_is)
      (case tk => (intro b hb; simp only [TL.aTys, List.mem_cons, List.not_mem_nil, or_false] at hb; rcases hb with rfl | rfl | rfl | rfl | rfl | rfl | rfl <;> kit_is))
    case A_law =>
      refine' TL.funAt_mk KX G ?hb ?a ?l ?c ?k
      (case a => k_is)
      (case l => k_is)
      (case c => k_is)
      (case k => k_is)
      (case hb => (intro _ _ _ _ _ _ us hl; match us, hl with | [_], _ => rfl))
    case m_min =>
      refine' PySem.W.mg_none_of KX G ?z
      (case z => k_is)
    case stx =>
      refine' (TL.StXL.cons (PySem.W.mg_of KX G ?a0) ?b0 ?c0 (TL.StXL.cons (PySem.W.mg_of KX G ?a1) ?b1 ?c1 (TL.StXL.cons (PySem.W.mg_of KX G ?a2) ?b2 ?c2 (TL.StXL.cons (PySem.W.mg_of KX G ?a3) ?b3 ?c3 (TL.StXL.cons (PySem.W.mg_of KX G ?a4) ?b4 ?c4 (TL.StXL.cons (PySem.W.mg_of KX G ?a5) ?b5 ?c5 (TL.StXL.cons (PySem.W.mg_of KX G ?a6) ?b6 ?c6 (TL.StXL.cons (PySem.W.mg_of KX G ?a7) ?b7 ?c7 TL.StXL.nil))))))))
      (case a0 => k_is)
      (case b0 => k_is)
      (case c0 => k_is)
      (case a1 => k_is)
      (case b1 => k_is)
      (case c1 => k_is)
      (case a2 => k_is)
      (case b2 => k_is)
      (case c2 => k_is)
      (case a3 => k_is)
      (case b3 => k_is)
      (case c3 => k_is)
      (case a4 => k_is)
      (case b4 => k_is)
      (case c4 => k_is)
      (case a5 => k_is)
      (case b5 => k_is)
      (case c5 => k_is)
      (case a6 => k_is)
      (case b6 => k_is)
      (case c6 => k_is)
      (case a7 => k_is)
      (case b7 => k_is)
      (case c7 => k_is)
    case m_str =>
      refine' PySem.W.mg_none_of KX G ?z
      (case z => k_is)
    case m_repr =>
      refine' PySem.W.mg_none_of KX G ?z
      (case z => k_is)
  case S => exact sem
end s_HW01
section s_M01a
set_option Elab.async false
set_option linter.all false
set_option maxRecDepth 100000
set_option maxHeartbeats 4000000
/-! rules for draws and for W, an irreducible copy of G.wp -/
namespace LW
open PySem PySem.Spec PyProof.Rows L2 TL
theorem nox_wp {α : Type} {m : G α} {Q : α → Prop} {E : T → Prop} (h : m.wp Q (fun _ => False)) : m.nox.wp Q E := by
  induction m with
  | ret a => exact h
  | exc e => exact h
  | stuck => exact h
  | pick n k ih => exact fun i hi => ih i (h i hi)
  | any k ih => exact fun l => ih l (h l)
theorem take_wp {n : Int} (hn : 1 ≤ n ∧ n < 1073741824) {Q : T → Prop} {E : T → Prop} (h : ∀ i : Nat, i < n.toNat → Q (.int i)) : (fTake [.drw, .int n]).wp Q E := by
  show (if 1 ≤ n ∧ n < 1073741824 then G.pick n.toNat fun i => G.ret (T.int i) else .stuck).wp Q E
  rw [if_pos hn]
  exact h
theorem pick_wp {xs : List T} (hn : 1 ≤ xs.length ∧ xs.length < 1073741824) {Q : T → Prop} {E : T → Prop} (h : ∀ x ∈ xs, Q x) : (runB c_law_pick 2 [.drw, .lst xs]).wp Q E := by
  unfold runB c_law_pick
  refine G.wp_bind.mpr (G.wp_bind.mpr ?_)
  have e : cOp2 fIx (cVar 1) (cCall fTake (caCons (cVar 0) (caCons (cCall fLen (caCons (cVar 1) caNil)) caNil))) [.fz .drw, .fz (.lst xs)] = (fTake [.drw, .int xs.length] >>= fun b => fIx (.lst xs) b) := by
    simp [cOp2, cCall, caCons, caNil, cVar, fLen]
  have e0 : (List.map Sl.fz [T.drw, T.lst xs] ++ List.replicate (2 - [T.drw, T.lst xs].length) Sl.un) = [.fz .drw, .fz (.lst xs)] := rfl
  rw [e0, e]
  refine G.wp_bind.mpr (take_wp (by omega) fun i hi => ?_)
  have hi' : i < xs.length := by omega
  have e2 : fIx (.lst xs) (.int i) = .ret xs[i] := by
    have : atI xs (i : Int) = some xs[i] := by simp [atI, ixN, hi']
    simp [fIx, this]
  rw [e2]
  exact h _ (List.getElem_mem hi')

theorem nx_wp {c d : SC} {r : List Sl} {Q : Ctl → Prop} {E : T → Prop} (h : (c r).wp (fun k => ∃ r', k = .nx r' ∧ (d r').wp Q E) E) : (cSeq c d r).wp Q E :=
  wp_seq.mpr (G.wp_mono h (fun k hk => by obtain ⟨r', rfl, q⟩ := hk; exact q) fun _ x => x)
theorem set_wp {i : Nat} {ca : EC} {r : List Sl} {Q : Ctl → Prop} {E : T → Prop} (h : (ca r).wp (fun t => Q (.nx (r.set i (.fz t)))) E) : (cSet i ca r).wp Q E := G.wp_bind.mpr h
theorem rgOf_eq {n : Int} (h1 : 0 ≤ n) (h2 : n < 1000000) : rgOf [.int n] = .ret (rngT 0 n.toNat) := by
  have b : (decide (-(2 ^ 62) ≤ n) && decide (n < 1000000)) = true := by
    rw [Bool.and_eq_true, decide_eq_true_eq, decide_eq_true_eq]
    exact ⟨by omega, h2⟩
  unfold rgOf
  simp only [b, if_true]
section
variable {ca : EC} {cs : List Sl → G (List T)} {ρ : List Sl} {t : T} {Q : List T → Prop} {Qc : Ctl → Prop} {E : T → Prop} {F : List T → G T} {c d : SC}
theorem range_eq (ns : List Int) {a b : Int} (h : 0 ≤ a ∧ a ≤ 100 ∧ 0 ≤ b ∧ b ≤ 100) {r : List Sl} (hr : r[0]? = some (.fz (.scr ns))) : ∃ ts, (fun r => (caCons (cOp2 fAdd (cC (.int a)) (cCall fMin2 (caCons (cCall fLen (caCons (cVar 0) caNil)) (caCons (cC (.int b)) caNil)))) caNil) r >>= rgOf) r = .ret ts := by
  have h1 : (caCons (cOp2 fAdd (cC (.int a)) (cCall fMin2 (caCons (cCall fLen (caCons (cVar 0) caNil)) (caCons (cC (.int b)) caNil)))) caNil) r = .ret [.int (a + (if b < (ns.length : Int) then b else (ns.length : Int)))] := by
    simp only [caCons, caNil, cOp2, cCall, cVar, cC, hr, fLen, fMin2, fAdd, G.ret_bind]
  have h2 := rgOf_eq (n := a + (if b < (ns.length : Int) then b else (ns.length : Int))) (by split <;> omega) (by split <;> omega)
  refine ⟨_, Eq.trans ?_ h2⟩
  show (caCons (cOp2 fAdd (cC (.int a)) (cCall fMin2 (caCons (cCall fLen (caCons (cVar 0) caNil)) (caCons (cC (.int b)) caNil)))) caNil r >>= rgOf) = _
  rw [h1]
  rfl
/-- the law's outermost loop: each turn goes on -/
theorem law_wp {ns : List Int} {m : Nat} {cb : SC} {ci : List Sl → G (List T)} {ts : List T} (hc : ci (.fz (.scr ns) :: .fz .drw :: List.replicate m .un) = .ret ts)
    (hb : ∀ (l : List Sl) (t : T), l.length = m → (cb ((.fz (.scr ns) :: .fz .drw :: l).set 2 (.fz t))).wp (fun k => ∃ l' : List Sl, l'.length = m ∧ k = .nx (.fz (.scr ns) :: .fz .drw :: l')) (fun _ => False)) :
    (runB (cBegin 1 0 (cSeq (cFor ci (gcName 2) cb) (cRet (cC (.bl true))))) (m + 2) [.scr ns]).wp (fun t => t = .bl true) fun _ => False := by
  have body : (cSeq (cFor ci (gcName 2) cb) (cRet (cC (.bl true))) (.fz (.scr ns) :: .fz .drw :: List.replicate m .un)).wp (fun k => k = .rt (.bl true)) (fun _ => False) := by
    refine nx_wp (G.wp_bind.mpr (wp_eq hc ?_))
    refine G.wp_mono (forG_inv (I := fun r => ∃ l : List Sl, l.length = m ∧ r = .fz (.scr ns) :: .fz .drw :: l) (fun t ht r hr => ?_) ⟨_, List.length_replicate, rfl⟩) (fun k hk => ?_) fun _ x => x
    · obtain ⟨l, hl, rfl⟩ := hr
      refine wp_eq (a := (.fz (.scr ns) :: .fz .drw :: l).set 2 (.fz t)) rfl (G.wp_mono (hb l t hl) (fun k hk => ?_) fun _ x => x)
      obtain ⟨l', h1, rfl⟩ := hk
      exact ⟨_, .inl rfl, _, h1, rfl⟩
    · obtain ⟨r', rfl, _⟩ := hk
      exact ⟨r', rfl, rfl⟩
  refine G.wp_bind.mpr ?_
  have e0 : (List.map Sl.fz [T.scr ns] ++ List.replicate (m + 2 - [T.scr ns].length) Sl.un) = .fz (.scr ns) :: .un :: List.replicate m .un := by
    show Sl.fz (.scr ns) :: List.replicate (m + 1) Sl.un = _
    rw [List.replicate_succ]
  rw [e0]
  have hp : (Sl.fz (.scr ns) :: .un :: List.replicate m .un).all plainSl = true := by
    rw [List.all_cons, List.all_cons, List.all_eq_true.mpr fun x hx => by rw [(List.mem_replicate.mp hx).2]; rfl]
    rfl
  have e : ∀ c : SC, cBegin 1 0 c (.fz (.scr ns) :: .un :: List.replicate m .un) = ((c (.fz (.scr ns) :: .fz .drw :: List.replicate m .un)).nox >>= fun k => (match k with | .rt (.bl b) => .ret (.rt (.bl b)) | _ => .stuck)) := by
    intro c
    show (if (Sl.fz (.scr ns) :: .un :: List.replicate m .un).all plainSl = true then ((c (.fz (.scr ns) :: .fz .drw :: List.replicate m .un)).nox >>= fun k => (match k with | .rt (.bl b) => G.ret (Ctl.rt (.bl b)) | _ => .stuck)) else .stuck) = _
    rw [if_pos hp]
  rw [e]
  refine G.wp_bind.mpr (nox_wp (G.wp_mono body (fun k hk => ?_) fun _ x => x))
  subst hk
  rfl
end
@[irreducible] def W {α : Type} (m : G α) (Q : α → Prop) (E : T → Prop) : Prop := m.wp Q E
section
variable {α β : Type} {m : G α} {Q Q' : α → Prop} {E : T → Prop}
theorem W_of (h : m.wp Q E) : W m Q E := by unfold W; exact h
theorem W_to (h : W m Q E) : m.wp Q E := by unfold W at h; exact h
theorem W_eq {a : α} (h : m = .ret a) (hQ : Q a) : W m Q E := W_of (wp_eq h hQ)
end
section
variable {Q : Ctl → Prop} {P : T → Prop} {R : List T → Prop} {E : T → Prop} {c d : SC} {ρ : List Sl} {ca cb : EC} {cs : List Sl → G (List T)} {i j : Nat}
theorem W_nx (h : W (c ρ) (fun k => ∃ r', k = .nx r' ∧ W (d r') Q E) E) : W (cSeq c d ρ) Q E := W_of (nx_wp (G.wp_mono (W_to h) (fun k ⟨r', e, w⟩ => ⟨r', e, W_to w⟩) fun _ x => x))
theorem W_set (h : W (ca ρ) (fun t => Q (.nx (ρ.set i (.fz t)))) E) : W (cSet i ca ρ) Q E := W_of (set_wp (W_to h))
theorem W_call {Fn : List T → G T} (h : W (cs ρ) (fun ts => W (Fn ts) P E) E) : W (cCall Fn cs ρ) P E := W_of (G.wp_bind.mpr (G.wp_mono (W_to h) (fun a ha => W_to ha) fun _ x => x))
end
theorem W_pick {xs : List T} {P : T → Prop} {E : T → Prop} (hn : 1 ≤ xs.length ∧ xs.length < 1073741824) (h : ∀ x ∈ xs, P x) : W (runB c_law_pick 2 [.drw, .lst xs]) P E := W_of (pick_wp hn h)
theorem len_ok {xs : List T} {n : Nat} (h : xs.length = n) (h2 : 1 ≤ n ∧ n < 1073741824) : 1 ≤ xs.length ∧ xs.length < 1073741824 := by rw [h]; exact h2
section
variable {Q : Ctl → Prop} {P : T → Prop} {E : T → Prop} {c d : SC} {ρ : List Sl} {ca cb : EC} {tc : List Sl → G Bool} {m : Nat} {ts : List T}
end
end LW
end s_M01a
section s_M01b
set_option Elab.async false
set_option linter.all false
set_option maxRecDepth 100000
set_option maxHeartbeats 4000000
/-! the law -/
namespace LW
open PySem PySem.Spec PyProof.Rows L2 TL
def pages : List T := [.str "", .str "a", .str "no key", .str "window"]
def items : List T := [.int 0, .int 1, .non, .str "window", .str "a", .tup [.int 1, .non], .tup [.tup [.int 0, .bl true]], .lst [.int 3], .int (10 ^ 12)]
def ground (p : T) : T := match p with | .str x => .exc "LogError" [("%", .dic [(.non, .str x)])] | _ => .non
section
variable {s0 s2 s5 s6 s7 s8 : Sl} {q : T}
theorem loop1 : ∀ p ∈ pages, cFor (fun r => (cCall (runB c__law_plain 2) (caCons (cVar 3) caNil)) r >>= anyOf) (gcTup 2 (gcsCons (gcName 5) (gcsCons (gcName 6) gcsNil))) c_law_b1 [s0, .fz .drw, s2, .fz p, .fz q, s5, s6, s7, s8] = .ret (.nx [s0, .fz .drw, s2, .fz p, .fz q, .fz (.int 99), .fz (ground p), s7, s8]) := by
  intro p hp
  simp only [pages, List.mem_cons, List.not_mem_nil, or_false] at hp
  rcases hp with rfl | rfl | rfl | rfl <;> kernel_rfl
theorem loop2 {p : T} : ∀ q ∈ items, cFor (fun r => (cCall (runB c__law_with_fields 5) (caCons (cVar 4) caNil)) r >>= anyOf) (gcTup 3 (gcsCons (gcName 5) (gcsCons (gcName 6) (gcsCons (gcName 7) gcsNil)))) c_law_b2 [s0, .fz .drw, s2, .fz p, .fz q, s5, s6, s7, s8] = .ret (.nx [s0, .fz .drw, s2, .fz p, .fz q, .fz (.int 12), .fz (.exc "BadText" [("line", q)]), .fz q, s8]) := by
  intro q hq
  simp only [items, List.mem_cons, List.not_mem_nil, or_false] at hq
  rcases hq with rfl | rfl | rfl | rfl | rfl | rfl | rfl | rfl | rfl <;> kernel_rfl
end
theorem b3_W {s0 s2 s3 s4 s5 s6 s7 s8 : Sl} : W (c_law_b3 [s0, .fz .drw, s2, s3, s4, s5, s6, s7, s8]) (fun k => ∃ l : List Sl, l.length = 6 ∧ k = .nx (s0 :: .fz .drw :: s2 :: l)) (fun _ => False) := by
  unfold c_law_b3
  refine W_nx (W_set (W_call (W_eq (a := [.drw, .lst pages]) (by kernel_rfl) (W_pick (len_ok (n := 4) (by rfl) (by decide)) fun p hp => ⟨_, rfl, ?_⟩))))
  simp only [List.set_cons_succ, List.set_cons_zero]
  refine W_nx (W_set (W_call (W_eq (a := [.drw, .lst items]) (by kernel_rfl) (W_pick (len_ok (n := 9) (by rfl) (by decide)) fun q hq => ⟨_, rfl, ?_⟩))))
  simp only [List.set_cons_succ, List.set_cons_zero]
  refine W_nx (W_eq (loop1 p hp) ⟨_, rfl, ?_⟩)
  refine W_nx (W_eq (loop2 q hq) ⟨_, rfl, ?_⟩)
  refine W_nx (W_set (W_eq (a := ground p) ?_ ⟨_, rfl, ?_⟩))
  · simp only [pages, List.mem_cons, List.not_mem_nil, or_false] at hp
    rcases hp with rfl | rfl | rfl | rfl <;> kernel_rfl
  simp only [List.set_cons_succ, List.set_cons_zero]
  refine W_eq (a := .nx [s0, .fz .drw, s2, .fz p, .fz q, .fz (.int 12), .fz (.exc "BadText" [("line", q)]), .fz q, .fz (ground p)]) ?_ ⟨_, rfl, rfl⟩
  simp only [pages, List.mem_cons, List.not_mem_nil, or_false] at hp
  rcases hp with rfl | rfl | rfl | rfl <;> kernel_rfl
theorem sem (ns : List Int) : (runB c_law 9 [.scr ns]).wp (fun t => t = .bl true) fun _ => False := by
  obtain ⟨ts, h⟩ := range_eq ns (a := 1) (b := 1) (by omega) (r := .fz (.scr ns) :: .fz .drw :: List.replicate 7 .un) rfl
  unfold c_law
  exact law_wp (m := 7) h fun l t hl => by
    match l, hl with
    | [x2, x3, x4, x5, x6, x7, x8], _ =>
      have h := W_to (b3_W (s0 := .fz (.scr ns)) (s2 := .fz t) (s3 := x3) (s4 := x4) (s5 := x5) (s6 := x6) (s7 := x7) (s8 := x8))
      dsimp only [List.set_cons_succ, List.set_cons_zero]
      revert h
      generalize c_law_b3 _ = z
      intro h
      refine G.wp_mono h (fun k hk => ?_) fun _ x => x
      obtain ⟨l', h1, rfl⟩ := hk
      exact ⟨.fz t :: l', by rw [List.length_cons, h1], rfl⟩
end LW
end s_M01b
theorem PySem.Challenge.cw_saidagain_k01_errors_by_hand_holds : PySem.Challenge.rw_saidagain_k01_errors_by_hand.Holds := by
  exact LW.holds_of LW.sem
