import PyProof.Rows.All
import Wide.All
import OpenK.AllK
import Wide.FinOn
import HandS.Base
import HandS.Call
import HandS.List
import HandS.Exc
import HandS.ExcInit
import HandS.Comp
import KE.KFromBytes
import KE.KExcSuper
import KE.KExcIs
import HandS.CallRecv
import HandS.HeadWalk
import HandS.Flow
import HandS.Iter
import HandS.Dict
import HandS.Words
import HandS.WordsExc
import HandS.Defaults
import HandS.HeadHook1
import HandS.HeadHook2
import HandS.Ends
import HandS.EndBits
import HandS.HeadEnd
import HandS.Head2
import HandS.Head0
import HandS.Head1
import PyProof.ReprLen
import PyProof.P3Eq
import PySem.Challenge.RW_givenout_k69_errors_with_any_value
set_option Elab.async false
set_option linter.all false
set_option maxRecDepth 100000
set_option maxHeartbeats 0
/-! Mach0: a small machine of our own over the row's syntax: tuples are trees, what changes lies in a heap of our own. -/
namespace Mach
open PySem

inductive W where
  | non | bl (b : Bool) | int (i : Int) | str (s : Str) | tup (xs : List W) | ref (n : Nat)
  deriving Inhabited

abbrev Key := L2.Key

inductive MO where
  | lst (xs : List W)
  | ro (xs : List W)
  | dic (kvs : List (Key × W))
  | ins (c : Str) (fs : List (Str × W))
  | exc (c : Str) (fs : List (Str × W))
  deriving Inhabited

abbrev Mu := List MO
abbrev Ev := List (Option W)

inductive Res (α : Type) where
  | ok (a : α) (m : Mu)
  | err (c : Str) (fs : List (Str × W)) (m : Mu)
  | no

abbrev M (α : Type) := Ev → Mu → Res α

def Res.bind {α β : Type} : Res α → (α → Mu → Res β) → Res β
  | .ok a m, f => f a m
  | .err c fs m, _ => .err c fs m
  | .no, _ => .no

def mpure {α : Type} (a : α) : M α := fun _ m => .ok a m
def mbind {α β : Type} (x : M α) (f : α → M β) : M β := fun e m => (x e m).bind fun a m' => f a e m'
theorem mbind_assoc {α β γ : Type} (a : M α) (f : α → M β) (g : β → M γ) : mbind (mbind a f) g = mbind a fun x => mbind (f x) g := by
  funext e m
  unfold mbind
  cases a e m <;> rfl
def mno {α : Type} : M α := fun _ _ => .no
def mvar (i : Nat) : M W := fun e m => match e[i]? with
  | some (some w) => .ok w m
  | _ => .no
/-- an error within is none of ours -/
def calmR {α : Type} : Res α → Res α
  | .ok a m => .ok a m
  | .err _ _ _ => .no
  | .no => .no
/-- by the heap alone, without errors -/
def mval {α : Type} (f : Mu → Res α) : M α := fun _ m => calmR (f m)

/-! ### data -/
def optAll {α β : Type} (f : α → Option β) : List α → Option (List β)
  | [] => some []
  | x :: xs => match f x, optAll f xs with
    | some y, some ys => some (y :: ys)
    | _, _ => none
def keyD : Key → PyData
  | .inl i => .int i
  | .inr s => .str s
def toD (m : Mu) : Nat → W → Option PyData
  | 0, _ => none
  | _ + 1, .non => some .none
  | _ + 1, .bl b => some (.bool b)
  | _ + 1, .int i => some (.int i)
  | _ + 1, .str s => some (.str s)
  | n + 1, .tup xs => (optAll (toD m n) xs).map .tuple
  | n + 1, .ref a => match m[a]? with
    | some (.lst xs) => (optAll (toD m n) xs).map .list
    | some (.ro xs) => (optAll (toD m n) xs).map .list
    | some (.dic kvs) => (optAll (fun p => (toD m n p.2).map fun d => (keyD p.1, d)) kvs).map .dict
    | _ => none
def dFuel : Nat := 63

def alloc (o : MO) (m : Mu) : Res W := .ok (.ref m.length) (m ++ [o])
def okI (m : Mu) (i : Int) : Res W := .ok (.int i) m
def okB (m : Mu) (b : Bool) : Res W := .ok (.bl b) m

/-! ### operators -/
def in64 (i : Int) : Bool := decide (-(2 ^ 64) < i) && decide (i < 2 ^ 64)
def sizeOk (n : Nat) : Bool := decide (n ≤ 1000000)
def big60 : Int := 1000000000000000000000000000000000000000000000000000000000000

def addM : W → W → Mu → Res W
  | .int i, .int j, m => okI m (i + j)
  | .str a, .str b, m => if sizeOk (a.length + b.length) then .ok (.str (a ++ b)) m else .no
  | .ref p, .ref q, m => match m[p]?, m[q]? with
    | some (.lst xs), some (.lst ys) => if sizeOk (xs.length + ys.length) then alloc (.lst (xs ++ ys)) m else .no
    | _, _ => .no
  | _, _, _ => .no
def subM : W → W → Mu → Res W
  | .int i, .int j, m => okI m (i - j)
  | _, _, _ => .no
def mulM : W → W → Mu → Res W
  | .int i, .int j, m => if in64 i || in64 j then okI m (i * j) else .no
  | .ref p, .int k, m => match m[p]? with
    | some (.lst xs) => if decide (-(2 ^ 62) ≤ k) && decide (k < 2 ^ 62) && sizeOk (xs.length * k.toNat) then alloc (.lst (List.replicate k.toNat xs).flatten) m else .no
    | _ => .no
  | _, _, _ => .no
def divM : W → W → Mu → Res W
  | .int i, .int j, m => if decide (0 < j) && decide (j < 1073741824) then okI m (i / j) else .no
  | _, _, _ => .no
def modM : W → W → Mu → Res W
  | .int i, .int j, m => if decide (0 < j) then okI m (i % j) else .no
  | _, _, _ => .no
def powM : W → W → Mu → Res W
  | .int i, .int j, m =>
    if decide (0 ≤ j) && decide (j ≤ 1000) && decide (i.natAbs < 2 ^ 64) then okI m (i ^ j.toNat)
    else if decide (i = big60) && decide (j = 5) then okI m (i ^ j.toNat) else .no
  | _, _, _ => .no
def binM : Operator → W → W → Mu → Res W
  | .Add => addM | .Sub => subM | .Mult => mulM | .FloorDiv => divM | .Mod => modM | .Pow => powM
  | _ => fun _ _ _ => .no

def eqM (a b : W) (m : Mu) : Option Bool := match toD m dFuel a, toD m dFuel b with
  | some d, some e => if d.canLay0 && e.canLay0 then some (PyData.eqv d e) else none
  | _, _ => none
def ltM : W → W → Option Bool
  | .int i, .int j => some (decide (i < j))
  | _, _ => none
def leM : W → W → Option Bool
  | .int i, .int j => some (decide (i ≤ j))
  | _, _ => none
def ofB (m : Mu) : Option Bool → Res W
  | some b => okB m b
  | none => .no
def cmpM : CmpOp → W → W → Mu → Res W
  | .Eq, a, b, m => ofB m (eqM a b m)
  | .NotEq, a, b, m => ofB m ((eqM a b m).map not)
  | .Lt, a, b, m => ofB m (ltM a b)
  | .LtE, a, b, m => ofB m (leM a b)
  | .Gt, a, b, m => ofB m (ltM b a)
  | .GtE, a, b, m => ofB m (leM b a)
  | _, _, _, _ => .no

/-! ### subscripts -/
abbrev idx := L2.ixN
def okO (m : Mu) : Option W → Res W
  | some w => .ok w m
  | none => .no
/-- a list that is read -/
def seqM (m : Mu) (n : Nat) : Option (List W) := match m[n]? with
  | some (.lst xs) => some xs
  | some (.ro xs) => some xs
  | _ => none
def subM' : W → W → Mu → Res W
  | .tup xs, .int i, m => okO m ((idx xs.length i).bind fun j => xs[j]?)
  | .ref p, .int i, m => match seqM m p with
    | some xs => okO m ((idx xs.length i).bind fun j => xs[j]?)
    | none => .no
  | _, _, _ => .no
def setM : W → W → W → Mu → Res Unit
  | .ref p, .int i, w, m => match m[p]? with
    | some (.lst xs) => match idx xs.length i with
      | some j => .ok () (m.set p (.lst (xs.set j w)))
      | none => .no
    | _ => .no
  | _, _, _, _ => .no

/-! ### truth -/
def truM (m : Mu) : W → Option Bool
  | .bl b => some b
  | .non => some false
  | .int i => some (i != 0)
  | .ref p => match m[p]? with
    | some (.lst xs) => some (!xs.isEmpty)
    | _ => none
  | _ => none
end Mach
/-! Mach1: how the small machine's state lies in the hand layer's heap. -/
namespace Mach
open PySem PySem.Spec PyProof.Rows L2

/-- what is fixed: the written part, where a class stands -/
structure Gx where
  K : PySem.W.Frag
  ca : Str → Option Addr

section
variable (G : Gx) (rho : List Addr) (H : Hp)
mutual
def RelW : W → V → Prop
  | .non, v => v = .non
  | .bl b, v => v = .bl b
  | .int i, v => v = .int i
  | .str s, v => v = .str s
  | .tup xs, v => ∃ a vs, v = .ref a ∧ SqT G.K H a vs ∧ RelWs xs vs
  | .ref n, v => ∃ a, v = .ref a ∧ rho[n]? = some a
def RelWs : List W → List V → Prop
  | [], vs => vs = []
  | x :: xs, vs => ∃ v r, vs = v :: r ∧ RelW x v ∧ RelWs xs r
end
def RelK : List (Key × W) → List (Key × V) → Prop
  | [], vs => vs = []
  | x :: xs, vs => ∃ v r, vs = (x.1, v) :: r ∧ RelW G rho H x.2 v ∧ RelK xs r
def RelF : List (Str × W) → List (Str × V) → Prop
  | [], vs => vs = []
  | x :: xs, vs => ∃ v r, vs = (x.1, v) :: r ∧ RelW G rho H x.2 v ∧ RelF xs r
def RelO (a : Addr) : MO → Prop
  | .lst xs => ∃ vs, H a = some (.lst vs) ∧ RelWs G rho H xs vs
  | .ro xs => ∃ o vs, H a = some (.frz o (.lst vs)) ∧ RelWs G rho H xs vs
  | .dic kvs => ∃ vs, H a = some (.dK vs) ∧ RelK G rho H kvs vs
  | .ins c fs => ∃ C dx vs, G.ca c = some C ∧ H a = some (.ins C dx vs) ∧ RelF G rho H fs vs
  | .exc c fs => ∃ C dx, G.ca c = some C ∧ H a = some (exo a C dx) ∧ ((dx = none ∧ fs = []) ∨ ∃ d vs, dx = some d ∧ H d = some (exd d vs) ∧ RelF G rho H fs vs)
structure RelMu (m : Mu) : Prop where
  len : rho.length = m.length
  nd : rho.Nodup
  at_ : ∀ (n : Nat) (a : Addr) (o : MO), rho[n]? = some a → m[n]? = some o → RelO G rho H a o
def RelSt (e : Ev) (s : L2.St) : Prop := e.length = s.length ∧ ∀ (i : Nat) (w : W), e[i]? = some (some w) → ∃ v, s[i]? = some (some v) ∧ RelW G rho H w v
end

/-- what values lean on stays -/
structure Fv (rho : List Addr) (H : Hp) (rho' : List Addr) (H' : Hp) : Prop where
  pre : rho <+: rho'
  tup : ∀ a xs, H a = some (.tup xs) → H' a = some (.tup xs)
  frz : ∀ a o u, H a = some (.frz o u) → H' a = some (.frz o u)
/-- what stays from one state to a later one -/
structure Fr (rho : List Addr) (H : Hp) (rho' : List Addr) (H' : Hp) : Prop extends Fv rho H rho' H' where
  keep : ∀ a o, a ∉ rho → H a = some o → H' a = some o ∧ a ∉ rho'
theorem Fr.refl (rho : List Addr) (H : Hp) : Fr rho H rho H := ⟨⟨List.prefix_refl _, fun _ _ h => h, fun _ _ _ h => h⟩, fun _ _ n h => ⟨h, n⟩⟩
theorem Fr.trans {r1 r2 r3 : List Addr} {H1 H2 H3 : Hp} (a : Fr r1 H1 r2 H2) (b : Fr r2 H2 r3 H3) : Fr r1 H1 r3 H3 :=
  ⟨⟨a.pre.trans b.pre, fun x xs h => b.tup x xs (a.tup x xs h), fun x o u h => b.frz x o u (a.frz x o u h)⟩, fun x o n h => b.keep x o (a.keep x o n h).2 (a.keep x o n h).1⟩
theorem Fv.sqt {K : PySem.W.Frag} {r1 r2 : List Addr} {H1 H2 : Hp} (f : Fv r1 H1 r2 H2) {a : Addr} {vs : List V} (h : SqT K H1 a vs) : SqT K H2 a vs := by
  rcases h with (h | ⟨o, h⟩) | h
  · exact .inl (.inl (f.tup _ _ h))
  · exact .inl (.inr ⟨o, f.frz _ _ _ h⟩)
  · exact .inr h
theorem pre_get {r1 r2 : List Addr} (h : r1 <+: r2) {n : Nat} {a : Addr} (e : r1[n]? = some a) : r2[n]? = some a := by
  obtain ⟨t, rfl⟩ := h
  have hn : n < r1.length := by
    rcases Nat.lt_or_ge n r1.length with q | q
    · exact q
    · rw [List.getElem?_eq_none q] at e; cases e
  rw [List.getElem?_append_left hn]; exact e

section
variable {G : Gx} {r1 r2 : List Addr} {H1 H2 : Hp}
mutual
theorem RelW.monoV (f : Fv r1 H1 r2 H2) : ∀ (w : W) (v : V), RelW G r1 H1 w v → RelW G r2 H2 w v
  | .non, _, h => h
  | .bl _, _, h => h
  | .int _, _, h => h
  | .str _, _, h => h
  | .tup xs, v, h => by
    unfold RelW at h ⊢
    obtain ⟨a, vs, e, s, q⟩ := h
    exact ⟨a, vs, e, f.sqt s, RelWs.monoV f xs vs q⟩
  | .ref n, v, h => by
    unfold RelW at h ⊢
    obtain ⟨a, e, q⟩ := h
    exact ⟨a, e, pre_get f.pre q⟩
theorem RelWs.monoV (f : Fv r1 H1 r2 H2) : ∀ (xs : List W) (vs : List V), RelWs G r1 H1 xs vs → RelWs G r2 H2 xs vs
  | [], _, h => h
  | x :: xs, vs, h => by
    unfold RelWs at h ⊢
    obtain ⟨v, r, e, a, b⟩ := h
    exact ⟨v, r, e, RelW.monoV f x v a, RelWs.monoV f xs r b⟩
end
theorem RelK.monoV (f : Fv r1 H1 r2 H2) : ∀ (xs : List (Key × W)) (vs : List (Key × V)), RelK G r1 H1 xs vs → RelK G r2 H2 xs vs
  | [], _, h => h
  | x :: xs, vs, h => by
    unfold RelK at h ⊢
    obtain ⟨v, r, e, a, b⟩ := h
    exact ⟨v, r, e, RelW.monoV f x.2 v a, RelK.monoV f xs r b⟩
theorem RelF.monoV (f : Fv r1 H1 r2 H2) : ∀ (xs : List (Str × W)) (vs : List (Str × V)), RelF G r1 H1 xs vs → RelF G r2 H2 xs vs
  | [], _, h => h
  | x :: xs, vs, h => by
    unfold RelF at h ⊢
    obtain ⟨v, r, e, a, b⟩ := h
    exact ⟨v, r, e, RelW.monoV f x.2 v a, RelF.monoV f xs r b⟩
theorem RelW.mono (f : Fr r1 H1 r2 H2) (w : W) (v : V) (h : RelW G r1 H1 w v) : RelW G r2 H2 w v := RelW.monoV f.toFv w v h
theorem RelWs.mono (f : Fr r1 H1 r2 H2) (w : List W) (v : List V) (h : RelWs G r1 H1 w v) : RelWs G r2 H2 w v := RelWs.monoV f.toFv w v h
theorem RelK.mono (f : Fr r1 H1 r2 H2) (w : List (Key × W)) (v : List (Key × V)) (h : RelK G r1 H1 w v) : RelK G r2 H2 w v := RelK.monoV f.toFv w v h
theorem RelF.mono (f : Fr r1 H1 r2 H2) (w : List (Str × W)) (v : List (Str × V)) (h : RelF G r1 H1 w v) : RelF G r2 H2 w v := RelF.monoV f.toFv w v h
theorem RelSt.mono (f : Fr r1 H1 r2 H2) {e : Ev} {s : L2.St} (h : RelSt G r1 H1 e s) : RelSt G r2 H2 e s :=
  ⟨h.1, fun i w q => by
    obtain ⟨v, a, b⟩ := h.2 i w q
    exact ⟨v, a, RelW.mono f w v b⟩⟩
theorem RelWs.length : ∀ {xs : List W} {vs : List V}, RelWs G r1 H1 xs vs → xs.length = vs.length
  | [], vs, h => by unfold RelWs at h; subst h; rfl
  | x :: xs, vs, h => by
    unfold RelWs at h
    obtain ⟨v, r, e, _, b⟩ := h
    subst e
    simp [RelWs.length b]
theorem RelWs.get : ∀ {xs : List W} {vs : List V} {i : Nat} {w : W}, RelWs G r1 H1 xs vs → xs[i]? = some w → ∃ v, vs[i]? = some v ∧ RelW G r1 H1 w v
  | [], _, _, _, _, e => by simp at e
  | x :: xs, vs, 0, w, h, e => by
    unfold RelWs at h
    obtain ⟨v, r, rfl, a, _⟩ := h
    simp at e; subst e
    exact ⟨v, rfl, a⟩
  | x :: xs, vs, i + 1, w, h, e => by
    unfold RelWs at h
    obtain ⟨v, r, rfl, _, b⟩ := h
    obtain ⟨z, q1, q2⟩ := RelWs.get (i := i) b (by simpa using e)
    exact ⟨z, by simpa using q1, q2⟩
theorem RelWs.set {w : W} {v : V} (r : RelW G r1 H1 w v) : ∀ {xs : List W} {vs : List V} (i : Nat), RelWs G r1 H1 xs vs → RelWs G r1 H1 (xs.set i w) (vs.set i v)
  | [], vs, i, h => by unfold RelWs at h; subst h; exact (show RelWs G r1 H1 [] [] from rfl)
  | x :: xs, vs, 0, h => by
    unfold RelWs at h
    obtain ⟨v', r', rfl, _, b⟩ := h
    show RelWs G r1 H1 (w :: xs) (v :: r')
    unfold RelWs
    exact ⟨v, r', rfl, r, b⟩
  | x :: xs, vs, i + 1, h => by
    unfold RelWs at h
    obtain ⟨v', r', rfl, a, b⟩ := h
    show RelWs G r1 H1 (x :: xs.set i w) (v' :: r'.set i v)
    unfold RelWs
    exact ⟨v', _, rfl, a, RelWs.set r i b⟩
theorem RelWs.append : ∀ {xs ys : List W} {vs us : List V}, RelWs G r1 H1 xs vs → RelWs G r1 H1 ys us → RelWs G r1 H1 (xs ++ ys) (vs ++ us)
  | [], ys, vs, us, h, k => by unfold RelWs at h; subst h; exact k
  | x :: xs, ys, vs, us, h, k => by
    unfold RelWs at h
    obtain ⟨v, r, rfl, a, b⟩ := h
    show RelWs G r1 H1 (x :: (xs ++ ys)) (v :: (r ++ us))
    unfold RelWs
    exact ⟨v, _, rfl, a, RelWs.append b k⟩
theorem RelWs.nil : RelWs G r1 H1 [] [] := rfl
theorem RelWs.cons {x : W} {xs : List W} {v : V} {vs : List V} (a : RelW G r1 H1 x v) (b : RelWs G r1 H1 xs vs) : RelWs G r1 H1 (x :: xs) (v :: vs) := by
  unfold RelWs; exact ⟨v, vs, rfl, a, b⟩
end

/-! ### the heap changed -/
section
variable {G : Gx} {rho : List Addr} {H : Hp} {m : Mu}
theorem ext_ne {p : Heap → Prop} {o : HO} (h : ∀ q, o ≠ .ext q) : o ≠ .ext p := h p
theorem RelMu.get (R : RelMu G rho H m) {n : Nat} {o : MO} (e : m[n]? = some o) : ∃ a, rho[n]? = some a ∧ RelO G rho H a o := by
  have hn : n < m.length := by
    rcases Nat.lt_or_ge n m.length with q | q
    · exact q
    · rw [List.getElem?_eq_none q] at e; cases e
  have hr : n < rho.length := by rw [R.len]; exact hn
  exact ⟨rho[n], List.getElem?_eq_getElem hr, R.at_ n _ o (List.getElem?_eq_getElem hr) e⟩
/-- an object is described by what stands at its address (and at an exception's dict), and by the values -/
theorem RelO.move {rho' : List Addr} {H' : Hp} (f : Fv rho H rho' H') {a : Addr} {o : MO} (h : RelO G rho H a o) (hk : H' a = H a)
    (hx : ∀ C d vs, H a = some (exo a C (some d)) → H d = some (exd d vs) → H' d = some (exd d vs)) : RelO G rho' H' a o := by
  cases o with
  | lst xs => obtain ⟨vs, e, q⟩ := h; exact ⟨vs, hk.trans e, RelWs.monoV f _ _ q⟩
  | ro xs => obtain ⟨o, vs, e, q⟩ := h; exact ⟨o, vs, hk.trans e, RelWs.monoV f _ _ q⟩
  | dic xs => obtain ⟨vs, e, q⟩ := h; exact ⟨vs, hk.trans e, RelK.monoV f _ _ q⟩
  | ins c fs => obtain ⟨C, dx, vs, c1, e, q⟩ := h; exact ⟨C, dx, vs, c1, hk.trans e, RelF.monoV f _ _ q⟩
  | exc c fs =>
    obtain ⟨C, dx, c1, e, q⟩ := h
    refine ⟨C, dx, c1, hk.trans e, q.imp id ?_⟩
    rintro ⟨d, vs, rfl, e2, q⟩
    exact ⟨d, vs, rfl, hx C d vs e e2, RelF.monoV f _ _ q⟩
theorem fr_new {p : Addr} {o : HO} (hp : H p = none) (rho' : List Addr) (hr : rho' = rho ∨ rho' = rho ++ [p]) : Fr rho H rho' (upd H p o) :=
  ⟨⟨hr.elim (fun e => e ▸ List.prefix_refl _) (fun e => e ▸ List.prefix_append _ _), fun a xs h => by rw [upd_ne (ne_of_none h hp)]; exact h, fun a o u h => by rw [upd_ne (ne_of_none h hp)]; exact h⟩, fun a u n h => ⟨by rw [upd_ne (ne_of_none h hp)]; exact h, by
      rcases hr with rfl | rfl
      · exact n
      · rw [List.mem_append, List.mem_singleton]; exact fun z => z.elim n (ne_of_none h hp)⟩⟩
/-- a new thing that the machine does not know (a tuple, say) -/
theorem RelMu.extra (R : RelMu G rho H m) {p : Addr} {o : HO} (hp : H p = none) : RelMu G rho (upd H p o) m :=
  ⟨R.len, R.nd, fun n a ob h1 h2 => by
    have q := R.at_ n a ob h1 h2
    refine RelO.move (fr_new hp rho (.inl rfl)).toFv q ?_ fun C d vs e1 e2 => by rw [upd_ne (ne_of_none e2 hp)]; exact e2
    have : ∃ u, H a = some u := by
      cases ob with
      | lst xs => obtain ⟨vs, e, _⟩ := q; exact ⟨_, e⟩
      | ro xs => obtain ⟨o, vs, e, _⟩ := q; exact ⟨_, e⟩
      | dic xs => obtain ⟨vs, e, _⟩ := q; exact ⟨_, e⟩
      | ins c fs => obtain ⟨C, dx, vs, _, e, _⟩ := q; exact ⟨_, e⟩
      | exc c fs => obtain ⟨C, dx, _, e, _⟩ := q; exact ⟨_, e⟩
    obtain ⟨u, e⟩ := this
    exact upd_ne (ne_of_none e hp)⟩
theorem RelMu.there (R : RelMu G rho H m) {n : Nat} {a : Addr} (e : rho[n]? = some a) : ∃ u, H a = some u := by
  have hn : n < rho.length := by
    rcases Nat.lt_or_ge n rho.length with q | q
    · exact q
    · rw [List.getElem?_eq_none q] at e; cases e
  have hm : n < m.length := by rw [← R.len]; exact hn
  have q := R.at_ n a _ e (List.getElem?_eq_getElem hm)
  cases hq : m[n] with
  | lst xs => rw [hq] at q; obtain ⟨vs, e, _⟩ := q; exact ⟨_, e⟩
  | ro xs => rw [hq] at q; obtain ⟨o, vs, e, _⟩ := q; exact ⟨_, e⟩
  | dic xs => rw [hq] at q; obtain ⟨vs, e, _⟩ := q; exact ⟨_, e⟩
  | ins c fs => rw [hq] at q; obtain ⟨C, dx, vs, _, e, _⟩ := q; exact ⟨_, e⟩
  | exc c fs => rw [hq] at q; obtain ⟨C, dx, _, e, _⟩ := q; exact ⟨_, e⟩
theorem RelMu.fresh (R : RelMu G rho H m) {p : Addr} (hp : H p = none) : p ∉ rho := fun h => by
  obtain ⟨n, e⟩ := List.mem_iff_getElem?.mp h
  obtain ⟨u, q⟩ := R.there e
  rw [hp] at q; cases q
/-- a new object of the machine, which may stand already -/
theorem RelMu.push' (R : RelMu G rho H m) {p : Addr} {H' : Hp} (o : MO) (hn : p ∉ rho) (f : Fv rho H (rho ++ [p]) H') (hk : ∀ a ∈ rho, H' a = H a) (hx : ∀ d vs, H d = some (exd d vs) → H' d = some (exd d vs)) (ho : RelO G (rho ++ [p]) H' p o) : RelMu G (rho ++ [p]) H' (m ++ [o]) := by
  refine ⟨by simp [R.len], ?_, fun n a ob h1 h2 => ?_⟩
  · rw [List.nodup_append]
    refine ⟨R.nd, by simp, fun a ha b hb => ?_⟩
    rw [List.mem_singleton] at hb
    rintro rfl
    exact hn (hb ▸ ha)
  · rcases Nat.lt_or_ge n rho.length with q | q
    · rw [List.getElem?_append_left q] at h1
      rw [List.getElem?_append_left (by rw [← R.len]; exact q)] at h2
      exact RelO.move f (R.at_ n a ob h1 h2) (hk a (List.mem_of_getElem? h1)) fun C d vs _ e2 => hx _ _ e2
    · rw [List.getElem?_append_right q] at h1
      rw [List.getElem?_append_right (by rw [← R.len]; exact q)] at h2
      rw [R.len] at h1
      cases hz : n - m.length with
      | zero =>
        rw [hz] at h1 h2
        simp at h1 h2
        subst h1; subst h2
        exact ho
      | succ k => rw [hz] at h2; simp at h2
/-- a new object of the machine -/
theorem RelMu.push (R : RelMu G rho H m) {p : Addr} {H' : Hp} (o : MO) (hp : H p = none) (f : Fr rho H (rho ++ [p]) H') (hk : ∀ a u, H a = some u → H' a = some u) (ho : RelO G (rho ++ [p]) H' p o) : RelMu G (rho ++ [p]) H' (m ++ [o]) :=
  R.push' o (R.fresh hp) f.toFv (fun a ha => by
    obtain ⟨n, e⟩ := List.mem_iff_getElem?.mp ha
    obtain ⟨u, q⟩ := R.there e
    exact (hk _ _ q).trans q.symm) (fun d vs e => hk _ _ e) ho
theorem nd_ix {α : Type} : ∀ {l : List α} {i j : Nat} {a : α}, l.Nodup → l[i]? = some a → l[j]? = some a → i = j
  | [], _, _, _, _, h, _ => by simp at h
  | x :: l, 0, 0, _, _, _, _ => rfl
  | x :: l, 0, j + 1, a, nd, h1, h2 => by
    simp at h1 h2; subst h1
    exact absurd (List.mem_of_getElem? h2) (List.nodup_cons.mp nd).1
  | x :: l, i + 1, 0, a, nd, h1, h2 => by
    simp at h1 h2; subst h2
    exact absurd (List.mem_of_getElem? h1) (List.nodup_cons.mp nd).1
  | x :: l, i + 1, j + 1, a, nd, h1, h2 => by
    rw [nd_ix (List.nodup_cons.mp nd).2 (i := i) (j := j) (by simpa using h1) (by simpa using h2)]
theorem RelMu.ix (R : RelMu G rho H m) {i j : Nat} {a : Addr} (h1 : rho[i]? = some a) (h2 : rho[j]? = some a) : i = j := nd_ix R.nd h1 h2
/-- an object of the machine is changed: a list, a dict, an instance -/
theorem RelMu.put (R : RelMu G rho H m) {n : Nat} {a : Addr} {o : MO} {u u0 : HO} (e : rho[n]? = some a) (h0 : H a = some u0) (h1 : ∀ xs, u0 ≠ .tup xs) (h2 : ∀ b x, u0 ≠ .frz b x) (h3 : ∀ p, u0 ≠ .ext p)
    (ho : RelO G rho (upd H a u) a o) : RelMu G rho (upd H a u) (m.set n o) ∧ Fr rho H rho (upd H a u) := by
  have f : Fr rho H rho (upd H a u) := ⟨⟨List.prefix_refl _, fun b xs h => by
      rw [upd_ne (fun z => by rw [z, h0] at h; exact h1 xs (Option.some.inj h))]; exact h, fun b ob x h => by
      rw [upd_ne (fun z => by rw [z, h0] at h; exact h2 ob x (Option.some.inj h))]; exact h⟩, fun b o n h => ⟨by rw [upd_ne (fun z : b = a => n (by rw [z]; exact List.mem_of_getElem? e))]; exact h, n⟩⟩
  refine ⟨⟨by simp [R.len], R.nd, fun k b ob q1 q2 => ?_⟩, f⟩
  by_cases hk : k = n
  · subst hk
    rw [e] at q1; cases q1
    have l : k < m.length := by
      rw [← R.len]
      rcases Nat.lt_or_ge k rho.length with q | q
      · exact q
      · rw [List.getElem?_eq_none q] at e; cases e
    rw [List.getElem?_set_self l] at q2
    cases q2
    exact ho
  · rw [List.getElem?_set_ne (Ne.symm hk)] at q2
    have hb : b ≠ a := fun z => hk (R.ix q1 (z ▸ e))
    refine RelO.move f.toFv (R.at_ k b ob q1 q2) (upd_ne hb) fun C d vs e1 e2 => ?_
    rw [upd_ne (fun z => by rw [z, h0] at e2; exact h3 _ (Option.some.inj e2))]; exact e2
end

/-! ### what is wanted of a result -/
section
variable (G : Gx) (E : XK)
def ErrOk (rho : List Addr) (H : Hp) (c : Str) (fs : List (Str × W)) (m : Mu) : Prop :=
  ∀ rho' H' C d vs, Fr rho H rho' H' → RelMu G rho' H' m → G.ca c = some C → H' d = some (.xd vs) → RelF G rho' H' fs vs → E (.ref C) (some d) H'
def OkR {α β : Type} (R : List Addr → Hp → α → β → Prop) (Q : β → Hp → Prop) (rho : List Addr) (H : Hp) : Res α → Prop
  | .ok a m => ∀ rho' H' b, Fr rho H rho' H' → RelMu G rho' H' m → R rho' H' a b → Q b H'
  | .err c fs m => ErrOk G E rho H c fs m
  | .no => False
end
/-- a reading by a function of the machine; E: what is wanted of an error, by the slots -/
def tR (G : Gx) (E : L2.St → XK) {α β : Type} (R : List Addr → Hp → α → β → Prop) (F : M α) : L2.St → Hp → (β → Hp → Prop) → Prop := fun s H Q =>
  ∃ rho m e, RelMu G rho H m ∧ RelSt G rho H e s ∧ OkR G (E s) R Q rho H (F e m)
abbrev tE (G : Gx) (E : L2.St → XK) (F : M W) : TE := tR G E (RelW G) F
abbrev tA (G : Gx) (E : L2.St → XK) (F : M (List W)) : TA := tR G E (RelWs G) F
abbrev tT (G : Gx) (E : L2.St → XK) (F : M Bool) : TT := tR G E (fun _ _ a b => a = b) F
section
variable {G : Gx} {α β γ δ : Type} {R : List Addr → Hp → α → β → Prop} {S : List Addr → Hp → γ → δ → Prop}
theorem OkR.later {E : XK} {Q : β → Hp → Prop} {r1 r2 : List Addr} {H1 H2 : Hp} (f : Fr r1 H1 r2 H2) : ∀ {x : Res α}, OkR G E R Q r1 H1 x → OkR G E R Q r2 H2 x
  | .ok a m, h => fun r' H' b f' => h r' H' b (f.trans f')
  | .err c fs m, h => fun r' H' C d vs f' => h r' H' C d vs (f.trans f')
  | .no, h => h
/-- one reading behind another -/
theorem bindR {E : L2.St → XK} {F : M α} {K : α → M γ} {s : L2.St} {H : Hp} {Q : δ → Hp → Prop} {rho : List Addr} {m : Mu} {e : Ev} (rm : RelMu G rho H m) (rs : RelSt G rho H e s)
    (ok : OkR G (E s) S Q rho H (mbind F K e m)) {Q1 : β → Hp → Prop}
    (k : ∀ r1 m1 H1 a b, Fr rho H r1 H1 → RelMu G r1 H1 m1 → RelSt G r1 H1 e s → R r1 H1 a b → OkR G (E s) S Q r1 H1 (K a e m1) → Q1 b H1) : tR G E R F s H Q1 := by
  refine ⟨rho, m, e, rm, rs, ?_⟩
  have ok : OkR G (E s) S Q rho H ((F e m).bind fun a m' => K a e m') := ok
  cases hF : F e m with
  | ok a m1 =>
    rw [hF] at ok
    intro r1 H1 b f1 rm1 rb
    exact k r1 m1 H1 a b f1 rm1 (rs.mono f1) rb (OkR.later f1 ok)
  | err c fs m1 => rw [hF] at ok; exact ok
  | no => rw [hF] at ok; exact ok
/-- the same, with what the first one came to -/
theorem bindR' {E : L2.St → XK} {F : M α} {K : α → M γ} {s : L2.St} {H : Hp} {Q : δ → Hp → Prop} {rho : List Addr} {m : Mu} {e : Ev} (rm : RelMu G rho H m) (rs : RelSt G rho H e s)
    (ok : OkR G (E s) S Q rho H (mbind F K e m)) {Q1 : β → Hp → Prop}
    (k : ∀ r1 m1 H1 a b, F e m = .ok a m1 → Fr rho H r1 H1 → RelMu G r1 H1 m1 → RelSt G r1 H1 e s → R r1 H1 a b → OkR G (E s) S Q r1 H1 (K a e m1) → Q1 b H1) : tR G E R F s H Q1 := by
  refine ⟨rho, m, e, rm, rs, ?_⟩
  have ok : OkR G (E s) S Q rho H ((F e m).bind fun a m' => K a e m') := ok
  cases hF : F e m with
  | ok a m1 =>
    rw [hF] at ok
    intro r1 H1 b f1 rm1 rb
    exact k r1 m1 H1 a b hF f1 rm1 (rs.mono f1) rb (OkR.later f1 ok)
  | err c fs m1 => rw [hF] at ok; exact ok
  | no => rw [hF] at ok; exact ok
/-- a calm result asks nothing of errors -/
theorem OkR.calm {E E' : XK} {Q : β → Hp → Prop} {rho : List Addr} {H : Hp} : ∀ {x : Res α}, OkR G E R Q rho H (calmR x) → OkR G E' R Q rho H x
  | .ok _ _, h => h
  | .err _ _ _, h => h.elim
  | .no, h => h
theorem OkR.calm' {E E' : XK} {Q : β → Hp → Prop} {rho : List Addr} {H : Hp} : ∀ {x : Res α}, OkR G E R Q rho H (calmR x) → OkR G E' R Q rho H (calmR x)
  | .ok _ _, h => h
  | .err _ _ _, h => h
  | .no, h => h
end
theorem PE.imp {X : Cx} {e : Expr} {t t' : TE} (h : PE X e t) (k : ∀ s H Q, t' s H Q → t s H Q) : PE X e t' := ⟨fun pins s st H Q I q => h.run pins s st H Q I (k _ _ _ q)⟩
theorem PT.imp {X : Cx} {e : Expr} {t t' : TT} (h : PT X e t) (k : ∀ s H Q, t' s H Q → t s H Q) : PT X e t' := ⟨fun pins s st H Q I q => h.run pins s st H Q I (k _ _ _ q)⟩
theorem PA.imp {X : Cx} {es : List Expr} {t t' : TA} (h : PA X es t) (k : ∀ s H Q, t' s H Q → t s H Q) : PA X es t' := ⟨fun pos pins s st H Q I q => h.run pos pins s st H Q I (k _ _ _ q)⟩
theorem PS.imp {X : Cx} {st : Stmt} {t t' : TS} (h : PS X st t) (k : ∀ D s H, t' D s H → t D s H) : PS X st t' := ⟨fun pins s sg H D I q => h.run pins s sg H D I (k _ _ _ q)⟩
theorem PSs.imp {X : Cx} {st : List Stmt} {t t' : TS} (h : PSs X st t) (k : ∀ D s H, t' D s H → t D s H) : PSs X st t' := ⟨fun pins s sg H D I q => h.run pins s sg H D I (k _ _ _ q)⟩
theorem PE.or {X : Cx} {e : Expr} {t t' : TE} (h : PE X e t) (h' : PE X e t') : PE X e (fun s H Q => t s H Q ∨ t' s H Q) :=
  ⟨fun pins s st H Q I q => q.elim (h.run pins s st H Q I) (h'.run pins s st H Q I)⟩
theorem PE.no {X : Cx} {G : Gx} {E : L2.St → XK} {e : Expr} : PE X e (tE G E mno) := ⟨fun _ _ _ _ _ _ h => by obtain ⟨_, _, _, _, _, q⟩ := h; exact q.elim⟩
theorem PT.no {X : Cx} {G : Gx} {E : L2.St → XK} {e : Expr} : PT X e (tT G E mno) := ⟨fun _ _ _ _ _ _ h => by obtain ⟨_, _, _, _, _, q⟩ := h; exact q.elim⟩
end Mach
/-! Mach2: the machine's operators are sound. -/
namespace Mach
open PySem PySem.Spec PyProof.Rows L2

/-- a two-place operation of the machine as a reading on values -/
def r2M (G : Gx) (E : XK) (f : W → W → Mu → Res W) : R2 := fun x y H Q => ∃ rho m a b, RelMu G rho H m ∧ RelW G rho H a x ∧ RelW G rho H b y ∧ OkR G E (RelW G) Q rho H (f a b m)
def r1M (G : Gx) (E : XK) (f : W → Mu → Res W) : V → Hp → VK → Prop := fun x H Q => ∃ rho m a, RelMu G rho H m ∧ RelW G rho H a x ∧ OkR G E (RelW G) Q rho H (f a m)
def rnM (G : Gx) (E : XK) (f : List W → Mu → Res W) : List V → Hp → VK → Prop := fun xs H Q => ∃ rho m as, RelMu G rho H m ∧ RelWs G rho H as xs ∧ OkR G E (RelW G) Q rho H (f as m)
def rmM (G : Gx) (E : XK) (f : W → List W → Mu → Res W) : V → List V → Hp → VK → Prop := fun x xs H Q => ∃ rho m a as, RelMu G rho H m ∧ RelW G rho H a x ∧ RelWs G rho H as xs ∧ OkR G E (RelW G) Q rho H (f a as m)

theorem size_le {n : Nat} (h : sizeOk n = true) : n ≤ sizeLine := by
  have h' : n ≤ 1000000 := of_decide_eq_true h
  exact Nat.le_trans h' (by decide)
theorem size_lt {n : Nat} (h : sizeOk (n + 1) = true) : n < sizeLine := size_le h

section
variable {G : Gx} {E : XK} {rho : List Addr} {H : Hp} {m : Mu} {Q : VK}
/-- a result that leaves all as it is -/
theorem okw {w : W} {v : V} (rm : RelMu G rho H m) (h : OkR G E (RelW G) Q rho H (.ok w m)) (r : RelW G rho H w v) : Q v H := h rho H v (Fr.refl _ _) rm r
theorem okI' {i : Int} (rm : RelMu G rho H m) (h : OkR G E (RelW G) Q rho H (okI m i)) : Q (.int i) H := okw rm h rfl
theorem okB' {b : Bool} (rm : RelMu G rho H m) (h : OkR G E (RelW G) Q rho H (okB m b)) : Q (.bl b) H := okw rm h rfl
/-- a new list -/
theorem okL {xs : List W} {vs : List V} (rm : RelMu G rho H m) (h : OkR G E (RelW G) Q rho H (alloc (.lst xs) m)) (r : RelWs G rho H xs vs) {p : Addr} (hp : H p = none) : Q (.ref p) (upd H p (.lst vs)) := by
  have f : Fr rho H (rho ++ [p]) (upd H p (.lst vs)) := fr_new hp _ (.inr rfl)
  refine h (rho ++ [p]) _ _ f (rm.push _ hp f (fun a u e => by rw [upd_ne (ne_of_none e hp)]; exact e) ⟨vs, upd_same, RelWs.mono f _ _ r⟩) ?_
  unfold RelW
  exact ⟨p, rfl, by rw [← rm.len]; simp⟩
/-- a new tuple -/
theorem okT {xs : List W} {vs : List V} (rm : RelMu G rho H m) (h : OkR G E (RelW G) Q rho H (.ok (.tup xs) m)) (r : RelWs G rho H xs vs) {p : Addr} (hp : H p = none) : Q (.ref p) (upd H p (.tup vs)) := by
  have f : Fr rho H rho (upd H p (.tup vs)) := fr_new hp _ (.inl rfl)
  refine h rho _ _ f (rm.extra hp) ?_
  unfold RelW
  exact ⟨p, vs, rfl, .inl (.inl upd_same), RelWs.mono f _ _ r⟩
theorem RelMu.lst (rm : RelMu G rho H m) {n : Nat} {a : Addr} {xs : List W} (e : rho[n]? = some a) (h : m[n]? = some (.lst xs)) : ∃ vs, H a = some (.lst vs) ∧ RelWs G rho H xs vs := rm.at_ n a _ e h
theorem RelMu.ro (rm : RelMu G rho H m) {n : Nat} {a : Addr} {xs : List W} (e : rho[n]? = some a) (h : m[n]? = some (.ro xs)) : ∃ o vs, H a = some (.frz o (.lst vs)) ∧ RelWs G rho H xs vs := rm.at_ n a _ e h
theorem RelMu.dic (rm : RelMu G rho H m) {n : Nat} {a : Addr} {xs : List (Key × W)} (e : rho[n]? = some a) (h : m[n]? = some (.dic xs)) : ∃ vs, H a = some (.dK vs) ∧ RelK G rho H xs vs := rm.at_ n a _ e h
theorem RelMu.seq (rm : RelMu G rho H m) {n : Nat} {a : Addr} {xs : List W} (e : rho[n]? = some a) (h : seqM m n = some xs) : ∃ vs, SqL G.K H a vs ∧ RelWs G rho H xs vs := by
  unfold seqM at h
  cases q : m[n]? with
  | none => rw [q] at h; cases h
  | some o =>
    rw [q] at h
    cases o with
    | lst ys =>
      cases h
      obtain ⟨vs, a1, a2⟩ := rm.lst e q
      exact ⟨vs, .inl (.inl a1), a2⟩
    | ro ys =>
      cases h
      obtain ⟨o, vs, a1, a2⟩ := rm.ro e q
      exact ⟨vs, .inl (.inr ⟨o, a1⟩), a2⟩
    | _ => cases h
end

/-- the same, errors left out -/
def r2C (G : Gx) (f : W → W → Mu → Res W) : R2 := r2M G (fun _ _ _ => False) fun a b m => calmR (f a b m)
def r1C (G : Gx) (f : W → Mu → Res W) : V → Hp → VK → Prop := r1M G (fun _ _ _ => False) fun a m => calmR (f a m)
def rnC (G : Gx) (f : List W → Mu → Res W) : List V → Hp → VK → Prop := rnM G (fun _ _ _ => False) fun a m => calmR (f a m)
theorem OpR.calm {X : Cx} {g : Value → Value → Sem Value} {G : Gx} {E : XK} {f : W → W → Mu → Res W} (h : OpR X g (r2M G E f)) : OpR X g (r2C G f) := fun pins s st H x y v u Q I rx ry ⟨rho, m, a, b, rm, ra, rb, ok⟩ =>
  h pins s st H x y v u Q I rx ry ⟨rho, m, a, b, rm, ra, rb, OkR.calm (x := _) ok⟩
theorem IxR.calm {X : Cx} {G : Gx} {E : XK} {f : W → W → Mu → Res W} (h : IxR X (r2M G E f)) : IxR X (r2C G f) := fun va sl pins s st H x y v u Q I rx ry ⟨rho, m, a, b, rm, ra, rb, ok⟩ =>
  h va sl pins s st H x y v u Q I rx ry ⟨rho, m, a, b, rm, ra, rb, OkR.calm (x := _) ok⟩
theorem UnR.calm {X : Cx} {g : Value → Sem Value} {G : Gx} {E : XK} {f : W → Mu → Res W} (h : UnR X g (r1M G E f)) : UnR X g (r1C G f) := fun pins s st H x v Q I rx ⟨rho, m, a, rm, ra, ok⟩ =>
  h pins s st H x v Q I rx ⟨rho, m, a, rm, ra, OkR.calm (x := _) ok⟩
theorem CallR.calm {X : Cx} {g : Value} {G : Gx} {E : XK} {f : List W → Mu → Res W} (h : CallR X g (rnM G E f)) : CallR X g (rnC G f) := fun pins s st H xs us Q I rx ⟨rho, m, a, rm, ra, ok⟩ =>
  h pins s st H xs us Q I rx ⟨rho, m, a, rm, ra, OkR.calm (x := _) ok⟩
theorem opM_no {X : Cx} {f : Value → Value → Sem Value} {G : Gx} {E : XK} : OpR X f (r2M G E fun _ _ _ => .no) := fun _ _ _ _ _ _ _ _ _ _ _ _ h => by
  obtain ⟨_, _, _, _, _, _, _, q⟩ := h
  exact q.elim

section
variable {X : Cx} {G : Gx} {E : XK}
theorem op_addM (hK : G.K = X.K) : OpR X (binaryOp .Add) (r2M G E addM) := by
  rintro pins s st H x y v u Q I rx ry ⟨rho, m, a, b, rm, ra, rb, ok⟩
  cases a with
  | int i => cases b with
    | int j => cases ra; cases rb; exact op_add pins s st H _ _ v u Q I rx ry ⟨i, j, rfl, rfl, okI' rm ok⟩
    | _ => exact ok.elim
  | str i => cases b with
    | str j =>
      cases ra; cases rb
      have ok : OkR G E (RelW G) Q rho H (if sizeOk (i.length + j.length) then .ok (.str (i ++ j)) m else .no) := ok
      split at ok
      · rename_i hz
        exact op_add_str pins s st H _ _ v u Q I rx ry ⟨i, j, rfl, rfl, size_le hz, okw rm ok rfl⟩
      · exact ok.elim
    | _ => exact ok.elim
  | ref p => cases b with
    | ref q =>
      unfold RelW at ra rb
      obtain ⟨pa, rfl, hp⟩ := ra
      obtain ⟨qa, rfl, hq⟩ := rb
      have ok : OkR G E (RelW G) Q rho H (match m[p]?, m[q]? with
        | some (.lst xs), some (.lst ys) => if sizeOk (xs.length + ys.length) then alloc (.lst (xs ++ ys)) m else .no
        | _, _ => .no) := ok
      split at ok
      · rename_i xs ys e1 e2
        split at ok
        · rename_i hz
          obtain ⟨vs, h1, r1⟩ := rm.lst hp e1
          obtain ⟨us, h2, r2⟩ := rm.lst hq e2
          exact op_cat pins s st H _ _ v u Q I rx ry ⟨pa, qa, vs, us, rfl, rfl, h1, h2, by rw [← r1.length, ← r2.length]; exact size_le hz, fun l hl => okL rm ok (r1.append r2) hl⟩
        · exact ok.elim
      · exact ok.elim
    | _ => exact ok.elim
  | _ => exact ok.elim
theorem op_subM : OpR X (binaryOp .Sub) (r2M G E subM) := by
  rintro pins s st H x y v u Q I rx ry ⟨rho, m, a, b, rm, ra, rb, ok⟩
  cases a with
  | int i => cases b with
    | int j => cases ra; cases rb; exact op_sub pins s st H _ _ v u Q I rx ry ⟨i, j, rfl, rfl, okI' rm ok⟩
    | _ => exact ok.elim
  | _ => exact ok.elim
theorem in64_ok {i : Int} (h : in64 i = true) : -(2 ^ 64) < i ∧ i < 2 ^ 64 := by
  unfold in64 at h
  rw [Bool.and_eq_true] at h
  exact ⟨of_decide_eq_true h.1, of_decide_eq_true h.2⟩
theorem op_mulM : OpR X (binaryOp .Mult) (r2M G E mulM) := by
  rintro pins s st H x y v u Q I rx ry ⟨rho, m, a, b, rm, ra, rb, ok⟩
  cases a with
  | int i => cases b with
    | int j =>
      cases ra; cases rb
      have ok : OkR G E (RelW G) Q rho H (if in64 i || in64 j then okI m (i * j) else .no) := ok
      split at ok
      · rename_i hz
        refine op_mul pins s st H _ _ v u Q I rx ry ⟨i, j, rfl, rfl, ?_, okI' rm ok⟩
        rw [Bool.or_eq_true] at hz
        exact hz.elim (fun h => .inl (in64_ok h)) fun h => .inr (in64_ok h)
      · exact ok.elim
    | _ => exact ok.elim
  | ref p => cases b with
    | int k =>
      unfold RelW at ra
      cases rb
      obtain ⟨pa, rfl, hp⟩ := ra
      have ok : OkR G E (RelW G) Q rho H (match m[p]? with
        | some (.lst xs) => if decide (-(2 ^ 62) ≤ k) && decide (k < 2 ^ 62) && sizeOk (xs.length * k.toNat) then alloc (.lst (List.replicate k.toNat xs).flatten) m else .no
        | _ => .no) := ok
      split at ok
      · rename_i xs e1
        split at ok
        · rename_i hz
          simp only [Bool.and_eq_true, decide_eq_true_eq] at hz
          obtain ⟨vs, h1, r1⟩ := rm.lst hp e1
          have rr : ∀ n : Nat, RelWs G rho H (List.replicate n xs).flatten (List.replicate n vs).flatten := fun n => by
            induction n with
            | zero => exact RelWs.nil
            | succ n ih => rw [List.replicate_succ, List.replicate_succ, List.flatten_cons, List.flatten_cons]; exact r1.append ih
          exact op_rep pins s st H _ _ v u Q I rx ry ⟨pa, k, vs, rfl, rfl, h1, by omega, by omega, by rw [← r1.length]; exact size_le hz.2, fun l hl => okL rm ok (rr _) hl⟩
        · exact ok.elim
      · exact ok.elim
    | _ => exact ok.elim
  | _ => exact ok.elim
theorem op_divM : OpR X (binaryOp .FloorDiv) (r2M G E divM) := by
  rintro pins s st H x y v u Q I rx ry ⟨rho, m, a, b, rm, ra, rb, ok⟩
  cases a with
  | int i => cases b with
    | int j =>
      cases ra; cases rb
      have ok : OkR G E (RelW G) Q rho H (if decide (0 < j) && decide (j < 1073741824) then okI m (i / j) else .no) := ok
      split at ok
      · rename_i hz
        simp only [Bool.and_eq_true, decide_eq_true_eq] at hz
        exact op_fdiv pins s st H _ _ v u Q I rx ry ⟨i, j, rfl, rfl, hz, okI' rm ok⟩
      · exact ok.elim
    | _ => exact ok.elim
  | _ => exact ok.elim
theorem op_modM : OpR X (binaryOp .Mod) (r2M G E modM) := by
  rintro pins s st H x y v u Q I rx ry ⟨rho, m, a, b, rm, ra, rb, ok⟩
  cases a with
  | int i => cases b with
    | int j =>
      cases ra; cases rb
      have ok : OkR G E (RelW G) Q rho H (if decide (0 < j) then okI m (i % j) else .no) := ok
      split at ok
      · rename_i hz
        exact op_mod pins s st H _ _ v u Q I rx ry ⟨i, j, rfl, rfl, of_decide_eq_true hz, okI' rm ok⟩
      · exact ok.elim
    | _ => exact ok.elim
  | _ => exact ok.elim
theorem op_powM : OpR X (binaryOp .Pow) (r2M G E powM) := by
  rintro pins s st H x y v u Q I rx ry ⟨rho, m, a, b, rm, ra, rb, ok⟩
  cases a with
  | int i => cases b with
    | int j =>
      cases ra; cases rb
      have ok : OkR G E (RelW G) Q rho H (if decide (0 ≤ j) && decide (j ≤ 1000) && decide (i.natAbs < 2 ^ 64) then okI m (i ^ j.toNat)
        else if decide (i = big60) && decide (j = 5) then okI m (i ^ j.toNat) else .no) := ok
      split at ok
      · rename_i hz
        simp only [Bool.and_eq_true, decide_eq_true_eq] at hz
        exact op_pow pins s st H _ _ v u Q I rx ry ⟨i, j, rfl, rfl, ⟨hz.1.1, by omega, hz.2⟩, okI' rm ok⟩
      · split at ok
        · rename_i hz
          simp only [Bool.and_eq_true, decide_eq_true_eq] at hz
          obtain ⟨rfl, rfl⟩ := hz
          obtain ⟨t, rfl⟩ := (show ∃ t, v = Value.int big60 t from rx)
          obtain ⟨t', rfl⟩ := (show ∃ t, u = Value.int 5 t from ry)
          exact pow_int (by decide) (by decide +kernel) ⟨.int _, H, I.tok _, ⟨_, rfl⟩, okI' rm ok⟩
        · exact ok.elim
    | _ => exact ok.elim
  | _ => exact ok.elim
theorem op_binM (hK : G.K = X.K) : ∀ op : Operator, OpR X (binaryOp op) (r2M G E (binM op))
  | .Add => op_addM hK | .Sub => op_subM | .Mult => op_mulM | .FloorDiv => op_divM | .Mod => op_modM | .Pow => op_powM
  | .MatMult => opM_no | .Div => opM_no | .LShift => opM_no | .RShift => opM_no | .BitOr => opM_no | .BitXor => opM_no | .BitAnd => opM_no

/-! ### deep equality -/
theorem optAll_cons {α β : Type} {f : α → Option β} {x : α} {xs : List α} {zs : List β} (h : optAll f (x :: xs) = some zs) : ∃ y ys, f x = some y ∧ optAll f xs = some ys ∧ zs = y :: ys := by
  unfold optAll at h
  cases h1 : f x with
  | none => rw [h1] at h; cases h
  | some y =>
    cases h2 : optAll f xs with
    | none => rw [h1, h2] at h; cases h
    | some ys => rw [h1, h2] at h; cases h; exact ⟨y, ys, rfl, rfl, rfl⟩
section
variable {rho : List Addr} {H : Hp} {m : Mu}
/-- what a value is as data; no dicts -/
theorem dp_all {n : Nat} (ih : ∀ (w : W) (v : V) (d : PyData), toD m n w = some d → d.canLay0 = true → RelW G rho H w v → Dp G.K H v d) : ∀ (xs : List W) (vs : List V) (ds : List PyData), optAll (toD m n) xs = some ds → PyData.canLayAll0 ds = true → RelWs G rho H xs vs → DpAll G.K H vs ds
  | [], vs, ds, h, _, r => by cases h; cases r; exact .nil
  | x :: xs, vs, ds, h, c, r => by
    obtain ⟨y, ys, h1, h2, rfl⟩ := optAll_cons h
    unfold RelWs at r
    obtain ⟨v, r', rfl, ra, rb⟩ := r
    simp only [PyData.canLayAll0, Bool.and_eq_true] at c
    exact .cons (ih x v y h1 c.1 ra) (dp_all ih xs r' ys h2 c.2 rb)
theorem dp_of (rm : RelMu G rho H m) : ∀ (n : Nat) (w : W) (v : V) (d : PyData), toD m n w = some d → d.canLay0 = true → RelW G rho H w v → Dp G.K H v d
  | 0, w, v, d, h, _, _ => by simp [toD] at h
  | n + 1, .non, v, d, h, _, r => by cases r; simp [toD] at h; subst h; exact .non
  | n + 1, .bl b, v, d, h, _, r => by cases r; simp [toD] at h; subst h; exact .bl b
  | n + 1, .int i, v, d, h, _, r => by cases r; simp [toD] at h; subst h; exact .int i
  | n + 1, .str i, v, d, h, _, r => by cases r; simp [toD] at h; subst h; exact .str i
  | n + 1, .tup xs, v, d, h, c, r => by
    unfold RelW at r
    obtain ⟨a, vs, rfl, sq, rs⟩ := r
    unfold toD at h
    cases e : optAll (toD m n) xs with
    | none => rw [e] at h; cases h
    | some ds =>
      rw [e] at h; cases h
      exact .tup sq (dp_all (dp_of rm n) xs vs ds e (by simpa [PyData.canLay0] using c) rs)
  | n + 1, .ref k, v, d, h, c, r => by
    unfold RelW at r
    obtain ⟨a, rfl, ea⟩ := r
    unfold toD at h
    cases e0 : m[k]? with
    | none => rw [e0] at h; cases h
    | some o =>
      rw [e0] at h
      have key : ∀ xs, seqM m k = some xs → (optAll (toD m n) xs).map PyData.list = some d → Dp G.K H (.ref a) d := fun xs e1 h => by
        obtain ⟨vs, sq, rs⟩ := rm.seq ea e1
        cases e : optAll (toD m n) xs with
        | none => rw [e] at h; cases h
        | some ds =>
          rw [e] at h; cases h
          exact .lst sq (dp_all (dp_of rm n) xs vs ds e (by simpa [PyData.canLay0] using c) rs)
      cases o with
      | lst xs => exact key xs (by unfold seqM; rw [e0]) h
      | ro xs => exact key xs (by unfold seqM; rw [e0]) h
      | dic kvs =>
        simp only [Option.map_eq_some_iff] at h
        obtain ⟨ds, _, rfl⟩ := h
        simp [PyData.canLay0] at c
      | ins _ _ => cases h
      | exc _ _ => cases h
end
mutual
theorem depth_of (m : Mu) : ∀ (n : Nat) (w : W) (d : PyData), toD m n w = some d → d.depth ≤ n
  | 0, w, d, h => by simp [toD] at h
  | n + 1, .non, d, h => by simp [toD] at h; subst h; simp [PyData.depth]
  | n + 1, .bl b, d, h => by simp [toD] at h; subst h; simp [PyData.depth]
  | n + 1, .int i, d, h => by simp [toD] at h; subst h; simp [PyData.depth]
  | n + 1, .str i, d, h => by simp [toD] at h; subst h; simp [PyData.depth]
  | n + 1, .tup xs, d, h => by
    unfold toD at h
    simp only [Option.map_eq_some_iff] at h
    obtain ⟨ds, e, rfl⟩ := h
    simp only [PyData.depth]
    have := depth_all m n xs ds e
    omega
  | n + 1, .ref k, d, h => by
    unfold toD at h
    cases e0 : m[k]? with
    | none => rw [e0] at h; cases h
    | some o =>
      rw [e0] at h
      cases o with
      | lst xs =>
        simp only [Option.map_eq_some_iff] at h
        obtain ⟨ds, e, rfl⟩ := h
        simp only [PyData.depth]
        have := depth_all m n xs ds e
        omega
      | ro xs =>
        simp only [Option.map_eq_some_iff] at h
        obtain ⟨ds, e, rfl⟩ := h
        simp only [PyData.depth]
        have := depth_all m n xs ds e
        omega
      | dic kvs =>
        simp only [Option.map_eq_some_iff] at h
        obtain ⟨ds, e, rfl⟩ := h
        simp only [PyData.depth]
        have := depth_kv m n kvs ds e
        omega
      | ins _ _ => cases h
      | exc _ _ => cases h
theorem depth_all (m : Mu) : ∀ (n : Nat) (xs : List W) (ds : List PyData), optAll (toD m n) xs = some ds → PyData.depthAll ds ≤ n
  | n, [], ds, h => by cases h; simp [PyData.depthAll]
  | n, x :: xs, ds, h => by
    obtain ⟨y, ys, h1, h2, rfl⟩ := optAll_cons h
    simp only [PyData.depthAll]
    have a := depth_of m n x y h1
    have b := depth_all m n xs ys h2
    omega
theorem depth_kv (m : Mu) : ∀ (n : Nat) (xs : List (Key × W)) (ds : List (PyData × PyData)), optAll (fun p => (toD m n p.2).map fun d => (keyD p.1, d)) xs = some ds → PyData.depthKv ds ≤ n
  | n, [], ds, h => by cases h; simp [PyData.depthKv]
  | n, (k, x) :: xs, ds, h => by
    obtain ⟨y, ys, h1, h2, rfl⟩ := optAll_cons h
    simp only [Option.map_eq_some_iff] at h1
    obtain ⟨d, e, rfl⟩ := h1
    simp only [PyData.depthKv]
    have a := depth_of m n x d e
    have b := depth_kv m n xs ys h2
    have c : (keyD k).depth = 0 := by cases k <;> simp [keyD, PyData.depth]
    omega
end
theorem shaped_of {m : Mu} {w : W} {d : PyData} (h : toD m dFuel w = some d) (c : d.canLay0 = true) : SeqAt.shaped d = true := by
  unfold SeqAt.shaped
  rw [c, Bool.true_and, decide_eq_true_eq]
  exact Nat.le_trans (depth_of m dFuel w d h) (by decide)
theorem eqM_some {m : Mu} {a b : W} {k : Bool} (h : eqM a b m = some k) : ∃ d e, toD m dFuel a = some d ∧ toD m dFuel b = some e ∧ d.canLay0 = true ∧ e.canLay0 = true ∧ k = PyData.eqv d e := by
  unfold eqM at h
  split at h
  · rename_i d e h1 h2
    split at h
    · rename_i c
      rw [Bool.and_eq_true] at c
      cases h
      exact ⟨d, e, h1, h2, c.1, c.2, rfl⟩
    · cases h
  · cases h
def UnitsOk (X : Cx) : Prop := X.A.units + 150 < cLine
theorem op_cmpM (hK : G.K = X.K) (hu : UnitsOk X) (op : CmpOp) : OpR X (compareOp op) (r2M G E (cmpM op)) := by
  have hu' : X.A.units + 64 < cLine := Nat.lt_of_le_of_lt (Nat.add_le_add_left (by decide) _) hu
  rintro pins s st H x y v u Q I rx ry ⟨rho, m, a, b, rm, ra, rb, ok⟩
  have hint : ∀ (f : Int → Int → Bool) (g : W → W → Option Bool), (∀ a b k, g a b = some k → ∃ i j, a = .int i ∧ b = .int j ∧ k = f i j) → ∀ {a b : W} {x y : V}, RelW G rho H a x → RelW G rho H b y → OkR G E (RelW G) Q rho H (ofB m (g a b)) → ∃ i j, x = .int i ∧ y = .int j ∧ Q (.bl (f i j)) H := by
    intro f g hg a b x y ra rb ok
    cases e : g a b with
    | none => rw [e] at ok; exact ok.elim
    | some k =>
      rw [e] at ok
      obtain ⟨i, j, rfl, rfl, rfl⟩ := hg a b k e
      cases ra; cases rb
      exact ⟨i, j, rfl, rfl, okB' rm ok⟩
  have hlt : ∀ a b k, ltM a b = some k → ∃ i j, a = .int i ∧ b = .int j ∧ k = decide (i < j) := by
    intro a b k h
    cases a <;> cases b <;> simp [ltM] at h
    exact ⟨_, _, rfl, rfl, h.symm⟩
  have hle : ∀ a b k, leM a b = some k → ∃ i j, a = .int i ∧ b = .int j ∧ k = decide (i ≤ j) := by
    intro a b k h
    cases a <;> cases b <;> simp [leM] at h
    exact ⟨_, _, rfl, rfl, h.symm⟩
  cases op with
  | Eq =>
    have ok : OkR G E (RelW G) Q rho H (ofB m (eqM a b m)) := ok
    cases e : eqM a b m with
    | none => rw [e] at ok; exact ok.elim
    | some k =>
      rw [e] at ok
      obtain ⟨d, e', h1, h2, c1, c2, rfl⟩ := eqM_some e
      exact op_eqD hu' pins s st H _ _ v u Q I rx ry ⟨d, e', hK ▸ dp_of rm _ _ _ _ h1 c1 ra, hK ▸ dp_of rm _ _ _ _ h2 c2 rb, shaped_of h1 c1, shaped_of h2 c2, okB' rm ok⟩
  | NotEq =>
    have ok : OkR G E (RelW G) Q rho H (ofB m ((eqM a b m).map not)) := ok
    cases e : eqM a b m with
    | none => rw [e] at ok; exact ok.elim
    | some k =>
      rw [e] at ok
      obtain ⟨d, e', h1, h2, c1, c2, rfl⟩ := eqM_some e
      exact op_neD hu' pins s st H _ _ v u Q I rx ry ⟨d, e', hK ▸ dp_of rm _ _ _ _ h1 c1 ra, hK ▸ dp_of rm _ _ _ _ h2 c2 rb, shaped_of h1 c1, shaped_of h2 c2, okB' rm ok⟩
  | Lt =>
    obtain ⟨i, j, rfl, rfl, q⟩ := hint _ _ hlt ra rb ok
    exact op_lt pins s st H _ _ v u Q I rx ry ⟨i, j, rfl, rfl, q⟩
  | LtE =>
    obtain ⟨i, j, rfl, rfl, q⟩ := hint _ _ hle ra rb ok
    exact op_le pins s st H _ _ v u Q I rx ry ⟨i, j, rfl, rfl, q⟩
  | Gt =>
    obtain ⟨i, j, rfl, rfl, q⟩ := hint _ _ hlt rb ra ok
    exact op_gt pins s st H _ _ v u Q I rx ry ⟨j, i, rfl, rfl, q⟩
  | GtE =>
    obtain ⟨i, j, rfl, rfl, q⟩ := hint _ _ hle rb ra ok
    exact op_ge pins s st H _ _ v u Q I rx ry ⟨j, i, rfl, rfl, q⟩
  | Is => exact ok.elim
  | IsNot => exact ok.elim
  | In => exact ok.elim
  | NotIn => exact ok.elim

/-! ### subscripts, truth -/
theorem ix_M (hK : G.K = X.K) : IxR X (r2M G E subM') := by
  rintro value slice pins s st H x y v u Q I rx ry ⟨rho, m, a, b, rm, ra, rb, ok⟩ hs
  have fin : ∀ {xs : List W} {vs : List V} {i : Int}, RelWs G rho H xs vs → OkR G E (RelW G) Q rho H (okO m ((idx xs.length i).bind fun j => xs[j]?)) → ∃ z, atI vs i = some z ∧ Q z H := by
    intro xs vs i r ok
    cases e : ((idx xs.length i).bind fun j => xs[j]?) with
    | none => rw [e] at ok; exact ok.elim
    | some w =>
      rw [e] at ok
      obtain ⟨j, e1, e2⟩ := Option.bind_eq_some_iff.mp e
      obtain ⟨z, q1, q2⟩ := r.get e2
      refine ⟨z, ?_, okw rm ok q2⟩
      unfold atI
      rw [← r.length]
      show (ixN xs.length i).bind _ = _
      rw [show ixN xs.length i = some j from e1]
      exact q1
  cases a with
  | tup xs => cases b with
    | int i =>
      cases rb
      unfold RelW at ra
      obtain ⟨p, vs, rfl, sq, r⟩ := ra
      obtain ⟨z, h1, h2⟩ := fin r ok
      exact ix_tup value slice pins s st H _ _ v u Q I rx ry ⟨p, vs, i, z, rfl, rfl, hK ▸ sq, h1, h2⟩ hs
    | _ => exact ok.elim
  | ref n => cases b with
    | int i =>
      cases rb
      unfold RelW at ra
      obtain ⟨p, rfl, ep⟩ := ra
      have key : ∀ xs, seqM m n = some xs → OkR G E (RelW G) Q rho H (okO m ((idx xs.length i).bind fun j => xs[j]?)) → wpAny (model X.prog X.w) X.A (subscriptTail value slice v u) (EP X pins st Q) X.xe s := fun xs e ok => by
        obtain ⟨vs, sq, r⟩ := rm.seq ep e
        obtain ⟨z, h1, h2⟩ := fin r ok
        exact ix_list value slice pins s st H _ _ v u Q I rx ry ⟨p, vs, i, z, rfl, rfl, hK ▸ sq, h1, h2⟩ hs
      have ok : OkR G E (RelW G) Q rho H (match seqM m n with
        | some xs => okO m ((idx xs.length i).bind fun j => xs[j]?)
        | none => .no) := ok
      cases e : seqM m n with
      | none => rw [e] at ok; exact ok.elim
      | some xs => rw [e] at ok; exact key xs e ok
    | _ => exact ok.elim
  | _ => exact ok.elim
theorem truM_ok (hK : G.K = X.K) {rho : List Addr} {H : Hp} {m : Mu} {w : W} {v : V} {k : Bool} (rm : RelMu G rho H m) (r : RelW G rho H w v) (h : truM m w = some k) : TruV X.K v H k := by
  cases w with
  | non => cases r; cases h; rfl
  | bl b => cases r; cases h; rfl
  | int i => cases r; cases h; rfl
  | str x => cases h
  | tup xs => cases h
  | ref n =>
    unfold RelW at r
    obtain ⟨p, rfl, ep⟩ := r
    have h : (match m[n]? with
      | some (.lst xs) => some (!xs.isEmpty)
      | _ => none) = some k := h
    cases e : m[n]? with
    | none => rw [e] at h; cases h
    | some o =>
      rw [e] at h
      cases o with
      | lst xs =>
        cases h
        obtain ⟨vs, h1, h2⟩ := rm.lst ep e
        refine .inl ⟨vs, .inl (.inl h1), ?_⟩
        have := h2.length
        cases xs <;> cases vs <;> simp_all
      | _ => cases h
end
end Mach
/-! Mach3: the machine itself: expressions, statements, calls. -/
namespace Mach
open PySem

/-! ### statements -/
inductive Fl where
  | nx (e : Ev) | rt (w : W) | bk (e : Ev) | ct (e : Ev)
  | er (e : Ev) (c : Str) (fs : List (Str × W))
inductive RS where
  | ok (f : Fl) (m : Mu)
  | no
abbrev MS := Ev → Mu → RS
def sNo : MS := fun _ _ => .no
def sNext : MS := fun e m => .ok (.nx e) m
def sE {α : Type} (x : M α) (k : α → MS) : MS := fun e m => match x e m with
  | .ok a m' => k a e m'
  | .err c fs m' => .ok (.er e c fs) m'
  | .no => .no
def sSeq (a b : MS) : MS := fun e m => match a e m with
  | .ok (.nx e') m' => b e' m'
  | r => r
def sRet (x : M W) : MS := sE x fun w _ m => .ok (.rt w) m
def sAll (f : Stmt → MS) : List Stmt → MS
  | [] => sNext
  | s :: r => sSeq (f s) (sAll f r)
def sSet (f : Ev → Option Ev) : MS := fun e m => match f e with
  | some e' => .ok (.nx e') m
  | none => .no

/-! ### expressions in rows -/
def mAll {α β : Type} (f : α → M β) : List α → M (List β)
  | [] => mpure []
  | x :: xs => mbind (f x) fun y => mbind (mAll f xs) fun ys => mpure (y :: ys)
def mop2 (f : W → W → Mu → Res W) (a b : M W) : M W := mbind a fun x => mbind b fun y => mval (f x y)
def mop1 (f : W → Mu → Res W) (a : M W) : M W := mbind a fun x => mval (f x)
def mtru (a : M W) : M Bool := mbind a fun w => mval fun m => match truM m w with
  | some k => .ok k m
  | none => .no
def mif {α : Type} (c : M Bool) (a b : M α) : M α := mbind c fun k => if k = true then a else b
def mcalm {α : Type} (x : M α) : M α := fun e m => calmR (x e m)

/-! ### what a loop walks -/
inductive Itr where
  | seq (xs : List W)
  | lst (p : Nat)
  | enum (p : Nat)
def nextI : Itr → Nat → Mu → Option (Option W)
  | .seq xs, i, _ => some xs[i]?
  | .lst p, i, m => (seqM m p).map fun xs => xs[i]?
  | .enum p, i, m => (seqM m p).map fun xs => xs[i]?.map fun w => .tup [.int i, w]

/-- so many turns are let -/
def lids : Nat := 1000000
/-- a for: tg binds the item -/
def forS (it : Itr) (tg : W → Ev → Option Ev) (body : MS) : Nat → Nat → MS
  | 0, _ => sNo
  | n + 1, i => fun e m => match nextI it i m with
    | none => .no
    | some none => .ok (.nx e) m
    | some (some w) => match tg w e with
      | none => .no
      | some e1 => match body e1 m with
        | .ok (.nx e2) m2 => forS it tg body n (i + 1) e2 m2
        | .ok (.ct e2) m2 => forS it tg body n (i + 1) e2 m2
        | .ok (.bk e2) m2 => .ok (.nx e2) m2
        | .ok (.rt w') m2 => .ok (.rt w') m2
        | .ok (.er e2 c fs) m2 => .ok (.er e2 c fs) m2
        | .no => .no
/-- a comprehension: what is made so far in acc -/
def compM (it : Itr) (tg : W → Ev → Option Ev) (test : M Bool) (elt : M W) (e : Ev) : Nat → Nat → List W → Mu → Res (List W)
  | 0, _, _ => fun _ => .no
  | n + 1, i, acc => fun m => match nextI it i m with
    | none => .no
    | some none => .ok acc m
    | some (some w) => match tg w e with
      | none => .no
      | some e1 => match test e1 m with
        | .ok true m1 => (match elt e1 m1 with
          | .ok y m2 => if sizeOk (acc.length + 1) then compM it tg test elt e n (i + 1) (acc ++ [y]) m2 else .no
          | _ => .no)
        | .ok false m1 => compM it tg test elt e n (i + 1) acc m1
        | _ => .no

/-! ### the program -/
structure FnI where
  params : List Str
  names : List Str
  body : List Stmt
  scope : Scope
structure Pg where
  fn : Str → Option FnI
  exc : Str → Option (Option Str)
  con : Str → Option W
  free : Str → Bool
  giv : Bool
/-- where an expression stands -/
structure Cs where
  sc : Scope
  blk : Bool
  names : List Str

def visB (c : Cs) (x : Str) : Bool := match c.sc.names.lookup x with
  | some .local => true
  | some .cell => true
  | some .free => true
  | _ => false
def asgB (c : Cs) (x : Str) : Bool := match c.sc.names.lookup x with
  | some .local => true
  | some .cell => !c.blk
  | _ => false
def locB (c : Cs) (x : Str) : Bool := match c.sc.names.lookup x with
  | some .local => true
  | _ => false
def glB (c : Cs) (x : Str) : Bool := match c.sc.names.lookup x with
  | some .globalImplicit => true
  | _ => false
def plainN (x : Str) : Bool := !(x == ("__debug__" : Str)) && !(x == ("__classdict__" : Str)) && !(x == ("__name__" : Str))
def place (x : Str) : List Str → Nat → Option Nat
  | [], _ => none
  | y :: r, k => if x = y then some k else place x r (k + 1)

/-- the places that a target fills -/
def tgS (c : Cs) : Expr → List Nat
  | .Name x _ => (place x c.names 0).toList
  | .Tuple es _ _ => go es
  | _ => []
where
  go : List Expr → List Nat
  | [] => []
  | e :: r => tgS c e ++ go r
structure Rc where
  E : Cs → Expr → M W
  T : Cs → Expr → M Bool
  S : Cs → Stmt → MS
  A : Cs → Expr → W → Ev → Option Ev

def noStar : Expr → Bool
  | .Starred _ _ => false
  | _ => true
def isSet : Expr → Bool
  | .Set _ _ _ => true
  | _ => false
def isSuper : Expr → Bool
  | .Call (.Name _ _) [] [] _ => true
  | _ => false
def isComp : Expr → Bool
  | .ListComp _ _ _ _ => true
  | .SetComp _ _ _ _ => true
  | .DictComp _ _ _ _ _ => true
  | _ => false
def isSlice : Expr → Bool
  | .Slice _ _ _ _ => true
  | .Tuple _ _ _ => true
  | _ => false
def constM : Const → M W
  | .none => mpure .non
  | .bool b => mpure (.bl b)
  | .int i => mpure (.int i)
  | .str s => mpure (.str s)
  | _ => mno

/-! ### built-in functions -/
def allB : List W → Option (List Bool)
  | [] => some []
  | .bl b :: r => (allB r).map (b :: ·)
  | _ :: _ => none
def lenM : List W → Mu → Res W
  | [.str s], m => if sizeOk s.length then okI m s.length else .no
  | [.tup xs], m => okI m xs.length
  | [.ref p], m => match seqM m p with
    | some xs => okI m xs.length
    | none => .no
  | _, _ => .no
def absM : List W → Mu → Res W
  | [.int i], m => okI m (if i < 0 then -i else i)
  | _, _ => .no
def maxM : List W → Mu → Res W
  | [.int i, .int j], m => okI m (if j > i then j else i)
  | _, _ => .no
def minM : List W → Mu → Res W
  | [.int i, .int j], m => okI m (if j < i then j else i)
  | _, _ => .no
def intM : List W → Mu → Res W
  | [.int i], m => okI m i
  | [.bl k], m => okI m (if k then 1 else 0)
  | _, _ => .no
def allM : List W → Mu → Res W
  | [.ref p], m => match (seqM m p).bind allB with
    | some bs => okB m (bs.all id)
    | none => .no
  | _, _ => .no
def anyM : List W → Mu → Res W
  | [.ref p], m => match (seqM m p).bind allB with
    | some bs => okB m (bs.any id)
    | none => .no
  | _, _ => .no
def reprM : List W → Mu → Res W
  | [w], m => match toD m dFuel w with
    | some d => if d.showable && sizeOk d.shown.length then .ok (.str d.shown) m else .no
    | none => .no
  | _, _ => .no
def bltM (f : Str) : List W → Mu → Res W :=
  if f = "len" then lenM else if f = "abs" then absM else if f = "max" then maxM else if f = "min" then minM
  else if f = "int" then intM else if f = "all" then allM else if f = "any" then anyM else if f = "repr" then reprM
  else fun _ _ => .no
def knownB (f : Str) : Bool := decide (f = "len") || decide (f = "abs") || decide (f = "max") || decide (f = "min") || decide (f = "int") || decide (f = "all") || decide (f = "any") || decide (f = "repr")
/-- of what class a thing is: isinstance -/
def isM (P : Pg) (c : Str) (w : W) (m : Mu) : Res W := match w with
  | .ref p => (match m[p]? with
    | some (.exc d _) => if (P.exc d).isSome then (if (P.exc c).isSome then okB m (d == c)
      else if c = "GivenError" then okB m true else if c = "ValueError" then okB m true else .no) else .no
    | _ => .no)
  | _ => .no
/-- an error made -/
def mkExc (c : Str) (f : Option Str) : List W → Mu → Res W
  | [w], m => (match f with
    | some x => alloc (.exc c [(x, w)]) m
    | none => .no)
  | [], m => (match f with
    | some _ => .no
    | none => alloc (.exc c []) m)
  | _, _ => .no
def attrM (P : Pg) (f : Str) : W → Mu → Res W
  | .ref p, m => match m[p]? with
    | some (.exc d fs) => if decide (P.exc d = some (some f)) then okO m (fs.lookup f) else .no
    | _ => .no
  | _, _ => .no
def negM : W → Mu → Res W
  | .int i, m => okI m (-i)
  | _, _ => .no
def notM : W → Mu → Res W
  | w, m => match truM m w with
    | some k => okB m (!k)
    | none => .no
/-- x and y, x or y, by truth -/
def boolM (isAnd : Bool) : List (M W) → M W
  | [] => mno
  | [a] => a
  | a :: b :: r => mbind a fun w => fun e m => match truM m w with
    | some k => if k = isAnd then boolM isAnd (b :: r) e m else .ok w m
    | none => .no
def dictM (ks : List Str) (ws : List W) (m : Mu) : Res W :=
  if decide (ks.length = ws.length) && decide (ks.Nodup) && decide (ks.length ≤ 15) then alloc (.dic ((ks.zip ws).map fun p => (Sum.inr p.1, p.2))) m else .no
def strKeys : List (Option Expr) → Option (List Str)
  | [] => some []
  | some (.Constant (.str s) _ _) :: r => (strKeys r).map (s :: ·)
  | _ :: _ => none

section
variable (P : Pg) (call : Str → List W → Mu → Res W)
/-- what is walked: its value -/
def iterM (r : Rc) (c : Cs) (pairs : Bool) : Expr → M Itr
  | .Call (.Name f p) [a] [] pos =>
    if glB c f && P.free f && noStar a && decide (f = "range") then mbind (r.E c a) fun w => match w with
      | .int j => if decide (0 ≤ j) && decide (j ≤ 1000000) then mpure (.seq ((List.range j.toNat).map fun i => .int (i : Nat))) else mno
      | _ => mno
    else if glB c f && P.free f && noStar a && decide (f = "enumerate") && pairs then mbind (r.E c a) fun w => fun _ m => match w with
      | .ref p => (match seqM m p with
        | some _ => .ok (.enum p) m
        | none => .no)
      | _ => .no
    else mno
  | e => if isSet e then mno else mbind (r.E c e) fun w => fun _ m => match w with
      | .ref p => (match seqM m p with
        | some _ => .ok (.lst p) m
        | none => .no)
      | .tup xs => .ok (.seq xs) m
      | _ => .no
def isTup : Expr → Bool
  | .Tuple _ _ _ => true
  | _ => false
def kwOne : List Keyword → Option (Str × Expr)
  | [⟨some x, e, _⟩] => some (x, e)
  | _ => none
/-- the scope of a comprehension within -/
def inner (c : Cs) (scope : Scope) : Cs :=
  ⟨{ scope with names := scope.names.map fun (n, k) => if (k == .free && c.sc.kind == .function && c.sc.names.lookup n == some .cell) then (n, .cell) else (n, k) }, true, c.names⟩
/-- the places of a comprehension's own names -/
def ownOf (c : Cs) (scope : Scope) : List (Str × Nat) := scope.names.filterMap fun y => match y.2 with
  | .local => (place y.1 c.names 0).map fun i => (y.1, i)
  | .cell => (place y.1 c.names 0).map fun i => (y.1, i)
  | _ => none
def wipeE (e : Ev) : List Nat → Ev
  | [] => e
  | v :: vs => (wipeE e vs).set v none
def testsM (r : Rc) (c : Cs) : List Expr → M Bool
  | [] => mpure true
  | [t] => r.T c t
  | _ => mno
def lcM (r : Rc) (c : Cs) (elt tg iter : Expr) (ifs : List Expr) (scope : Scope) : M W :=
  mbind (iterM P r c (isTup tg) iter) fun it => fun e m =>
    (compM it (r.A (inner c scope) tg) (testsM r (inner c scope) ifs) (r.E (inner c scope) elt) (wipeE e ((ownOf c scope).map (·.2))) lids 0 [] m).bind fun ws m' => alloc (.lst ws) m'
/-- what a call with so many positional arguments may be -/
def posOk (f : Str) (n : Nat) : Bool := (match P.fn f with
    | some i => decide (n = i.params.length)
    | none => false) || ((P.fn f).isNone && (P.exc f).isSome) || ((P.fn f).isNone && (P.exc f).isNone && P.free f && knownB f)
def callM (c : Cs) (f : Str) (kw : Option (Str × M W)) (ws : List W) : M W :=
  match kw with
  | none => (match P.fn f with
    | some i => if decide (ws.length = i.params.length) then (fun _ m => call f ws m) else mno
    | none => match P.exc f with
      | some fld => mval (mkExc f fld ws)
      | none => if P.free f then mval (bltM f ws) else mno)
  | some (x, k) => (match P.exc f with
    | some (some fld) => if decide (x = fld) && ws.isEmpty then mbind k fun w => mval (mkExc f (some fld) [w]) else mno
    | _ => mno)
def stepE (r : Rc) (c : Cs) : Expr → M W
  | .Constant k _ _ => constM k
  | .Name x _ => if visB c x && plainN x then (match place x c.names 0 with
      | some i => mvar i
      | none => mno)
    else if glB c x && plainN x then (match P.con x with
      | some w => mpure w
      | none => mno)
    else mno
  | .BinOp a op b _ => mop2 (binM op) (r.E c a) (r.E c b)
  | .UnaryOp .USub a _ => mop1 negM (r.E c a)
  | .UnaryOp .Not a _ => mop1 notM (r.E c a)
  | .BoolOp .And vs _ => boolM true (vs.map (r.E c))
  | .BoolOp .Or vs _ => boolM false (vs.map (r.E c))
  | .Compare a [op] [b] _ => if isSet b then mno else mop2 (cmpM op) (r.E c a) (r.E c b)
  | .IfExp t a b _ => mif (r.T c t) (r.E c a) (r.E c b)
  | .Tuple es _ _ => if es.all noStar && sizeOk es.length then mbind (mAll (r.E c) es) fun ws => mpure (.tup ws) else mno
  | .List es _ => if es.all noStar && sizeOk es.length then mbind (mAll (r.E c) es) fun ws => mval (alloc (.lst ws)) else mno
  | .Dict ks vs _ => (match strKeys ks with
    | some ss => if decide (ks.length = vs.length) && decide (ks.length ≤ 15) then mbind (mAll (r.E c) vs) fun ws => mval (dictM ss ws) else mno
    | none => mno)
  | .Subscript a b _ => if isSlice b then mno else mop2 subM' (r.E c a) (r.E c b)
  | .Attribute a f _ => if isSuper a then mno else mop1 (attrM P f) (r.E c a)
  | .Call (.Name f _) args kws _ =>
    if glB c f && plainN f && args.all noStar then
      (if decide (f = "isinstance") && P.free f then (match args, kws with
        | [a, .Name d _], [] => if glB c d && plainN d && ((P.exc d).isSome || (decide (d = "GivenError") && P.giv) || (decide (d = "ValueError") && P.free d)) then mop1 (isM P d) (r.E c a) else mno
        | _, _ => mno)
      else match kws with
        | [] => if posOk P f args.length then mbind (mAll (r.E c) args) fun ws => callM P call c f none ws else mno
        | _ => (match kwOne kws, args with
          | some (x, e), [] => callM P call c f (some (x, r.E c e)) []
          | _, _ => mno))
    else mno
  | .ListComp elt [⟨tg, iter, ifs, 0⟩] scope _ =>
    if L2.blkC c.names c.sc scope (ownOf c scope) && (tgS (inner c scope) tg).all (fun i => ((ownOf c scope).map (·.2)).contains i) then lcM P r c elt tg iter ifs scope else mno
  | _ => mno
def stepT (r : Rc) (c : Cs) : Expr → M Bool
  | .UnaryOp .Not a _ => mbind (r.T c a) fun k => mpure (!k)
  | .BoolOp .And [a, b] _ => mif (r.T c a) (r.T c b) (mpure false)
  | .BoolOp .Or [a, b] _ => mif (r.T c a) (mpure true) (r.T c b)
  | .BoolOp _ _ _ => mno
  | .IfExp _ _ _ _ => mno
  | .Compare a [op] [b] p => mtru (stepE P call r c (.Compare a [op] [b] p))
  | .Compare _ _ _ _ => mno
  | e => mtru (stepE P call r c e)
def stepA (r : Rc) (c : Cs) : Expr → W → Ev → Option Ev
  | .Name x _, w, e => if asgB c x then (match place x c.names 0 with
      | some i => some (e.set i (some w))
      | none => none) else none
  | .Tuple es _ _, .tup ws, e => if decide (es.length = ws.length) && es.all noStar then go es ws e else none
  | _, _, _ => none
where
  go : List Expr → List W → Ev → Option Ev
  | [], [], e => some e
  | t :: ts, w :: ws, e => (r.A c t w e).bind fun e' => go ts ws e'
  | _, _, _ => none
def stepS (r : Rc) (c : Cs) : Stmt → MS
  | .Pass _ => sNext
  | .Expr e _ => if isComp e then sNo else sE (r.E c e) fun _ => sNext
  | .Return (some e) _ => sRet (r.E c e)
  | .Return none _ => fun _ m => .ok (.rt .non) m
  | .If t a b _ => sE (r.T c t) fun k => if k = true then sAll (r.S c) a else sAll (r.S c) b
  | .Assign [.Name x p] (.ListComp elt [⟨tg, iter, ifs, 0⟩] scope _) _ =>
    if L2.blkC c.names c.sc scope (ownOf c scope) && (tgS (inner c scope) tg).all (fun i => ((ownOf c scope).map (·.2)).contains i) && asgB c x then (match place x c.names 0 with
      | some i => sE (lcM P r c elt tg iter ifs scope) fun w => sSet fun e => some (e.set i (some w))
      | none => sNo) else sNo
  | .Assign [.Name x p] e _ => if isComp e || !asgB c x then sNo else (match place x c.names 0 with
      | some i => sE (r.E c e) fun w => sSet fun e => some (e.set i (some w))
      | none => sNo)
  | .Assign [.Tuple [.Name x px, .Name y py] k q] (.Tuple [a, b] _ _) _ =>
    if locB c x && locB c y && !decide (x = y) && noStar a && noStar b && decide (py.line = px.line) && !([a, b].all (foldedForSure 8)) && !([a, b].all (constantsAlone 8)) then
      (match place x c.names 0, place y c.names 0 with
      | some i, some j => sE (mAll (r.E c) [a, b]) fun ws => match ws with
        | [u, w] => sSet fun e => some ((e.set i (some u)).set j (some w))
        | _ => sNo
      | _, _ => sNo)
    else sNo
  | .Assign [.Subscript o i _] e _ => if isComp e || isSlice i then sNo else sE (r.E c e) fun w => sE (r.E c o) fun x => sE (r.E c i) fun y => sE (mval (setM x y w)) fun _ => sNext
  | .For tg iter body [] _ => sE (iterM P r c (isTup tg) iter) fun it => forS it (r.A c tg) (sAll (r.S c) body) lids 0
  | _ => sNo

def step (r : Rc) : Rc := ⟨stepE P call r, stepT P call r, stepS P r, stepA r⟩
def ev : Nat → Rc
  | 0 => ⟨fun _ _ => mno, fun _ _ => mno, fun _ _ => sNo, fun _ _ _ _ => none⟩
  | n + 1 => step P call (ev n)
def startE (names : List Str) (ws : List W) : Ev := ws.map some ++ List.replicate (names.length - ws.length) none
def endR : RS → Res W
  | .ok (.nx _) m => .ok .non m
  | .ok (.rt w) m => .ok w m
  | .ok (.er _ c fs) m => .err c fs m
  | _ => .no
def runFn (n : Nat) (i : FnI) (ws : List W) (m : Mu) : Res W := endR (sAll ((ev P call n).S ⟨i.scope, false, i.names⟩) i.body (startE i.names ws) m)
end
/-- calls nested up to d deep, syntax up to n deep -/
def callAt (P : Pg) (n : Nat) : Nat → Str → List W → Mu → Res W
  | 0, _, _, _ => .no
  | d + 1, f, ws, m => match P.fn f with
    | some i => runFn P (callAt P n d) n i ws m
    | none => .no
end Mach
/-! Mach10: an own exception made, whose __init__ says super().__init__(p) and self.p = p. -/
namespace Mach
open PySem PySem.W PySem.Calls PySem.Spec PyProof.Rows

/-- the __init__'s text -/
inductive IniB : List Stmt → Option (Str × Str) → Str → Prop
  | one (se v : Str) (p0 p1 p2 p3 p4 p5 p6 p7 p8 p9 : Pos) (hl : (p2.endLine == p4.line) = true) : IniB [.Expr (.Call (.Attribute (.Call (.Name "super" p0) [] [] p1) "__init__" p2) [.Name v p3] [] p4) p5, .Assign [.Attribute (.Name se p6) v p7] (.Name v p8) p9] (some (v, v)) se
  | none (se : Str) (p0 p1 p2 p4 p5 : Pos) (hl : (p2.endLine == p4.line) = true) : IniB [.Expr (.Call (.Attribute (.Call (.Name "super" p0) [] [] p1) "__init__" p2) [] [] p4) p5] .none se

/-- an own exception's __init__ -/
structure Ini (file : Str) (K : Frag) (C fI : Addr) (se : Str) (fld : Option Str) (fd : FuncData) : Prop where
  fn : ∃ oc od osl, K.lookup fI = some ⟨oc, od, .func fd, osl⟩
  code : codeIn K fd.code fd.qualname = true
  cd : ∃ cda ccl cdd vs ccs tf, fd.code = .ref cda ∧ K.lookup cda = some ⟨ccl, cdd, .fields vs, ccs⟩ ∧ vs[2]? = some (.str file tf)
  cell : ∃ cc cl cld csl, fd.closure = [(("__class__" : Str), cc)] ∧ K.lookup cc = some ⟨cl, cld, .cell (some (.ref C)), csl⟩
  gl : fd.globals = mainGlobals
  bl : fd.builtins = builtinsNs
  kind : fd.scope.kind = .function
  co : fd.scope.isCoroutine = false
  gen : fd.scope.isGenerator = false
  nocell : ∀ x ∈ fd.scope.names, x.2 ≠ .cell
  sup : fd.scope.names.lookup ("super" : Str) = some .globalImplicit
  cls : fd.scope.names.lookup ("__class__" : Str) = some .free
  self : fd.scope.names.lookup se = some .local
  ar : ∃ a, (fd.params.posonlyargs ++ fd.params.args).head? = some a ∧ a.arg = se
  dbg : (se == ("__debug__" : Str)) = false

section
variable {prog : Program} {w : World} {A : Around} {E : Value → Shared → Prop} {K : Frag} {C fI x : Addr} {se : Str} {file : Str} {fd : FuncData} {mg mb : Str → Option Value}
variable {g : Array GenState} {dr : Drawn} {os : OsState}

theorem callEnv_scope (fd : FuncData) (L a : Addr) : (callEnv fd L a).scope = fd.scope := rfl
/-- super().__init__: the bound word -/
theorem sup_node {fld : Option Str} {h : Heap} {t : Nat} {L : Addr} {m : Str → Option Value} {body : List Stmt} {p0 p1 : Pos} {whole : Sem Value} {Q : Value → Shared → Prop} {ox : Obj} {odx : Option Obj} {cdC : ClassData}
    (I : Ini file K C fI se fld fd) (X : K.In h) (hn : h.Ns L m) (hv : m se = some (.ref x)) (J : InstAt h x ox C odx) (hC : clsIn K C = some cdC) (hsub : mroIn K C (.ref C) = some true)
    (hg : h.Ns mainGlobals mg) (hm : mg "super" = none) (hb : h.Ns builtinsNs mb) (hmb : mb "super" = some (.type "super")) (hfile : ((prog.main.file : Str) == file) = true) (htop : (prog.main.scope.names.lookup ("super" : Str)).isSome = false)
    (hq : ∀ h', h'.get? h.objs.size = some (ks_superObj C x C) → (∀ b o, h.get? b = some o → h'.get? b = some o) → Q (.ref h.objs.size) ⟨h', g, dr, t, os⟩) :
    _root_.PySem.wpAt (model prog w) A (.func body (callEnv fd L fI)) (attributeBase (.Call (.Name "super" p0) [] [] p1) "__init__" (callEnv fd L fI) whole) Q E ⟨h, g, dr, t, os⟩ := by
  obtain ⟨oc, od, osl, hf⟩ := I.fn
  obtain ⟨cda, ccl, cdd, vs, ccs, tf, e1, hcode, hvs⟩ := I.cd
  obtain ⟨cc, cl, cld, csl, e2, hcell⟩ := I.cell
  obtain ⟨ar, e3, e4⟩ := I.ar
  obtain ⟨oD, hD1, hD2⟩ : ∃ oD, h.get? C = some oD ∧ oD.data = .cls cdC := by
    unfold clsIn at hC
    split at hC
    · rename_i c d cd' sl ho
      cases hC
      exact ⟨_, X _ _ ho, rfl⟩
    · cases hC
  refine ks_wpAt_super_base (attr := "__init__") (env := callEnv fd L fI) I.sup I.cls (by decide) rfl (X _ _ hf) rfl e3 e1 (X _ _ hcode) rfl hvs hfile htop ?_
  refine ks_loadName_global I.kind I.sup (loadGlobal_builtin (env := callEnv fd L fI) (by show h.Ns fd.globals mg; rw [I.gl]; exact hg) hm (by show h.Ns fd.builtins mb; rw [I.bl]; exact hb) hmb ⟨rfl, ?_⟩)
  refine wpAny_loadName_free (env := callEnv fd L fI) (c := cc) I.kind I.cls (by show fd.closure.lookup ("__class__" : Str) = some cc; rw [e2]; rfl) ⟨_, X _ _ hcell, rfl⟩ ?_
  rw [e4]
  refine wpAny_loadName_local I.kind I.self hn hv ?_
  refine ks_wpAny_isType_cls hD1 hD2 ⟨rfl, ?_⟩; refine ks_wpAny_call_super hD1 hD2 J.at_ J.cls (fun c e => ?_) (looks_mroIn X hsub) (fun h' e k => hq h' e k)
  have := J.no
  unfold notCls at this
  rw [e] at this
  exact Bool.noConfusion this

/-- what the class says -/
structure XcK (K : Frag) (C : Addr) : Prop where
  oex : L2.OexC K C
  sup : ks_superIn K C C "__init__" = some (some (.builtin "ValueError.__init__"))
  ve : subIn K (.ref C) (.type "ValueError") = some true
  own : mroIn K C (.ref C) = some true
  nop : nsIn K cStatics "thirdparty.any" = some none
/-- the bound word called -/
theorem call_mw {h : Heap} {t : Nat} {u t0 : Addr} {rest : List Value} {Q : Value → Shared → Prop} {nm q : Str} {N : Addr} {bs bm : List Value} {hdct : Bool} {sn : List Str} {sub : List Value} {ab : Bool} {col : Option Bool} {dd : Option Addr} {k0 k1 k2 k3 k5 : Option Value}
    (hC : h.get? C = some (excClassObj nm q C N bs bm hdct sn sub ab col dd k0 k1 k2 k3 k5 "ValueError.__new__")) (he : h.get? x = some (HandSPX.excO C t0)) (hu : h.get? u = some (kxs_mw "ValueError.__init__" x)) (hz : rest.length ≤ sizeLine)
    (hq : ∀ h' t1, (∀ b o, b ≠ x → h.get? b = some o → h'.get? b = some o) → h'.get? x = some (HandSPX.excO C t1) → Q .none ⟨h', g, dr, t, os⟩) :
    wpAny (model prog w) A (call (.ref u) rest) Q E ⟨h, g, dr, t, os⟩ := by
  refine wpAny_call (codeAny_of_tree (?_ : wpAny _ A.in1 (callAny (.ref u) ⟨rest, []⟩) _ _ _)); simp only [callAny]; refine wpAny_bind (wpAny_load hu ?_)
  have mw : (Value.type "method-wrapper" == Value.type "method" || Value.type "method-wrapper" == Value.type "builtin_function_or_method" || Value.type "method-wrapper" == Value.type "method-wrapper") = true := by decide
  simp only [kxs_mw, mw, if_true]; refine KFB.if_so (by decide) ?_
  refine wpAny_bind (check_bound_init F.excBase_ValueError.toExcCallFacts hC he rfl (wpAny_bind (wpAny_pure (wpAny_pure ⟨plainId_quiet F.excBase_ValueError.init.plain _, codeAny_builtin F.excBase_ValueError.initEntry ?_⟩))))
  exact exc_init_tree (cls := .ref C) (t0 := t0) (dv := none) (c2 := .none) (c3 := .none) (b4 := .bool false) he hz fun h' k e _ => hq h' _ k e
theorem cls_of {nm q : Str} {N : Addr} {bs bm : List Value} {hdct : Bool} {sn : List Str} {sub : List Value} {ab : Bool} {col : Option Bool} {dd : Option Addr} {k0 k1 k2 k3 k5 : Option Value} {nid : String}
    (hC : K.lookup C = some (excClassObj nm q C N bs bm hdct sn sub ab col dd k0 k1 k2 k3 k5 nid)) : clsIn K C = some ⟨nm, bs, .ref C :: bm, N, q, hdct, sn, sub, ab, col, false⟩ := by unfold clsIn; rw [hC] <;> rfl
/-- super().__init__(..) as a statement -/
theorem sup_stmt {pl : Sem Bool} {fld : Option Str} {h : Heap} {t : Nat} {L t0 : Addr} {m : Str → Option Value} {body : List Stmt} {p0 p1 p2 p4 p5 : Pos} {args : List Expr} {us : List Value} {Q : Flow → Shared → Prop}
    (I : Ini file K C fI se fld fd) (Z : XcK K C) (X : K.In h) (hn : h.Ns L m) (hv : m se = some (.ref x)) (he : h.get? x = some (HandSPX.excO C t0)) (hxL : L ≠ x)
    (hg : h.Ns mainGlobals mg) (hm : mg "super" = none) (hb : h.Ns builtinsNs mb) (hmb : mb "super" = some (.type "super")) (hfile : ((prog.main.file : Str) == file) = true) (htop : (prog.main.scope.names.lookup ("super" : Str)).isSome = false)
    (hpl : (backTo p4 (starEach args (callEnv fd L fI))).any (·.1) = false)
    (hev : ∀ (h1 : Heap) (t1 : Nat) (u : Addr) (Q1 : Args → Shared → Prop), h1.Ns L m → Q1 ⟨us, []⟩ ⟨h1, g, dr, t1, os⟩ → wpAny (model prog w) A (evalArgs (.ref u) true (backTo p4 (starEach args (callEnv fd L fI))) []) Q1 E ⟨h1, g, dr, t1, os⟩)
    (hz : us.length ≤ sizeLine)
    (hcall : eval (.Call (.Attribute (.Call (.Name "super" p0) [] [] p1) "__init__" p2) args [] p4) (callEnv fd L fI) = (do
      let ov ← attributeBase (.Call (.Name "super" p0) [] [] p1) "__init__" (callEnv fd L fI) (eval (.Call (.Name "super" p0) [] [] p1) (callEnv fd L fI))
      standAt p2.atName
      let (f, fst) ← holding [ov] (getMethod ov "__init__" pl)
      callWith p4 f fst (backTo p4 (starEach args (callEnv fd L fI))) []))
    (hsw : swapsWith (.Call (.Attribute (.Call (.Name "super" p0) [] [] p1) "__init__" p2) args [] p4) none p5.line (callEnv fd L fI) = pure false) (hin : interactive (callEnv fd L fI) = false)
    (hq : ∀ h' t1 tk', (∀ b o, b ≠ x → h.get? b = some o → h'.get? b = some o) → h'.get? x = some (HandSPX.excO C t1) → Q .next ⟨h', g, dr, tk', os⟩) :
    _root_.PySem.wpAt (model prog w) A (.func body (callEnv fd L fI)) (exec (.Expr (.Call (.Attribute (.Call (.Name "super" p0) [] [] p1) "__init__" p2) args [] p4) p5) (callEnv fd L fI)) Q E ⟨h, g, dr, t, os⟩ := by
  obtain ⟨nm, q, N, bs, bm, sn, sub, ab, col, dd, k0, k1, k2, k3, k5, hC, hbm⟩ := Z.oex.cls
  have hcl := cls_of hC
  have J : InstAt h x (HandSPX.excO C t0) C none := ⟨he, rfl, rfl, trivial⟩
  refine ks_wpAt_Expr_any (ks_wpAt_MethodCall (sup_node I X hn hv J hcl Z.own hg hm hb hmb hfile htop fun h1 e1 k1 => ?_) hcall) hin hsw
  have X1 : K.In h1 := X.keeps k1
  have J1 : InstAt h1 x (HandSPX.excO C t0) C none := ⟨k1 _ _ he, rfl, rfl, trivial⟩
  have hsup := Z.sup
  unfold ks_superIn at hsup
  rw [hcl] at hsup
  refine kxs_getMethod kxs_ValueError e1 (looks_opaque X1 Z.nop) (l₀ := Value.ref C :: bm) (fun A Q E s k q => wpAny_bind ((looks_clsIn X1 hcl) A _ E s k (wpAny_pure q))) rfl X1 hsup (J1.type.andThen (looks_subIn X1 Z.ve)) (ks_ne X1 J1 hcl) (by decide) ?_
  have k2 : ∀ b o, h.get? b = some o → (h1.push (kxs_mw "ValueError.__init__" x)).get? b = some o := fun b o e => Heap.get?_push_of_some _ (k1 b o e)
  have hu : (h1.push (kxs_mw "ValueError.__init__" x)).get? h1.objs.size = some (kxs_mw "ValueError.__init__" x) := Heap.get?_push_at rfl rfl
  refine kxs_callWith (i := "ValueError.__init__") (x := x) hpl (hev _ _ _ _ (hn.keeps k2) ⟨hu, ?_⟩)
  exact call_mw (k2 _ _ (X _ _ hC)) (k2 _ _ he) hu hz fun h' t1 k3 e3 => hq h' t1 _ (fun b o hb ho => k3 b o hb (k2 b o ho)) e3
end
end Mach
/-! Mach11: the __init__ of an own exception run, the exception made. -/
namespace Mach
open PySem PySem.W PySem.Calls PySem.Spec PyProof.Rows

section
variable {prog : Program} {w : World} {A : Around} {R : Result → Shared → Prop} {K : Frag} {C fI x : Addr} {se v : Str} {file : Str} {fd : FuncData} {mg mb : Str → Option Value} {body : List Stmt}

theorem mcall_sup {o : Expr} {m : Str} {p2 p4 : Pos} {args : List Expr} {env : Env} (hl : (p2.endLine == p4.line) = true) (hf : methodCallForm (args.length + 0) (backTo p4 (starEach args env)) [] = true) :
    eval (.Call (.Attribute o m p2) args [] p4) env = (do
      let ov ← attributeBase o m env (eval o env)
      standAt p2.atName
      let (f, first) ← holding [ov] (getMethod ov m (L2.plainOf o env))
      callWith p4 f first (backTo p4 (starEach args env)) []) := by
  rw [arm_eval_Call]
  refine congrArg (fun k => attributeBase o m env (eval o env) >>= k) (funext fun ov => ?_)
  exact congrArg (fun k : Sem Value => standAt p2.atName >>= fun _ => k) (L2.mcall_line (kws := []) hf hl)
theorem ini_run1 {s : Shared} {args : Args} {u : Value} {t0 : Addr} (I : Ini file K C fI se (some v) fd) (hbd : fd.body = .stmts body) (B : IniB body (some (v, v)) se) (hvl : fd.scope.names.lookup v = some .local) (hvd : (v == ("__debug__" : Str)) = false) (hsv : se ≠ v)
    (Z : XcK K C) (hno : findIn K (.ref C) v = some none) (X : K.In s.heap) (lim : s.heap.NoLimit) (hg : s.heap.Ns mainGlobals mg) (hm : mg "super" = none) (hb : s.heap.Ns builtinsNs mb) (hmb : mb "super" = some (.type "super"))
    (hfile : ((prog.main.file : Str) == file) = true) (htop : (prog.main.scope.names.lookup ("super" : Str)).isSome = false) (hin : ∀ L, interactive (callEnv fd L fI) = false) (room : A.depth < recursionLimit) (hx : s.heap.get? x = some (HandSPX.excO C t0)) (hkx : K.lookup x = none) (hbind : BindsTo s fd args [(se, .ref x), (v, u)])
    (hq : ∀ h' tk' dx t1, (∀ b o, b ≠ x → s.heap.get? b = some o → h'.get? b = some o) → s.heap.objs.size ≤ dx → dx ≠ x → h'.get? x = some { cls := .ref C, dict := some dx, data := .fields #[.ref t1, .none, .none, .none, .bool false, .none] } →
      h'.Ns1 dx (fun y => if y = v then some u else none) → R (.ok (.ret .none)) { s with heap := h', toks := tk' }) : codeAny (model prog w) A (.call (.ref fI) args) R s := by
  obtain ⟨oc, od, osl, hf⟩ := I.fn
  refine ks_codeAny_call_defAt (fd := fd) (body := body) (binds := [(se, .ref x), (v, u)]) room (X _ _ hf) rfl lim (codeRec_of X I.code) hbd hbind I.nocell (fun y hy => ?_) (fun h0 hns k => ?_) I.co I.gen I.kind
  · simp only [List.mem_cons, List.not_mem_nil, or_false] at hy
    rcases hy with rfl | rfl
    · exact I.self
    · exact hvl
  obtain ⟨hp, gs, dr, tk, os⟩ := s
  have hL : hp.objs.size ≠ x := fun z => by
    have := Heap.lt_size hx
    rw [z] at this
    exact absurd this (Nat.lt_irrefl _)
  have mse : ([(se, Value.ref x), (v, u)] : List (Str × Value)).reverse.lookup se = some (.ref x) := by
    have e : (se == v) = false := by simpa using hsv
    simp [List.lookup, e]
  have mv : ([(se, Value.ref x), (v, u)] : List (Str × Value)).reverse.lookup v = some u := by simp [List.lookup]
  cases B with
  | one _ _ p0 p1 p2 p3 p4 p5 p6 p7 p8 p9 hl =>
    refine ks_wpAt_execs_cons ?_
    refine sup_stmt (us := [u]) I Z (X.keeps k) hns mse (k _ _ hx) hL (hg.keeps k) hm (hb.keeps k) hmb hfile htop rfl (fun h1 t1 uu Q1 n1 q1 => ?_) (by rw [sizeLine_eq]; exact (show 1 ≤ 16777216 by decide)) (mcall_sup hl rfl) rfl (hin _) ?_
    · refine evalArgs_plain ?_
      exact spliced_more (ldc I.kind hvl n1 mv (spliced_none q1) hvd)
    intro h1 t1 tk1 k1 e1
    have n1 : h1.Ns hp.objs.size (fun y => ([(se, Value.ref x), (v, u)] : List (Str × Value)).reverse.lookup y) := by
      obtain ⟨oL, es, ep, q1, q2⟩ := hns
      exact ⟨oL, es, ep, k1 _ _ hL q1, q2⟩
    refine ks_wpAt_execs_cons (ks_wpAt_Assign_Attr (wpAt_of_wpAny (ldc I.kind hvl n1 mv ?_ hvd)) rfl)
    refine ldc I.kind I.self n1 mse ?_ I.dbg
    have X1 : K.In h1 := fun b o e => k1 b o (fun z => by rw [z, hkx] at e; cases e) (k _ _ (X _ _ e))
    obtain ⟨nm, q, N, bs, bm, sn, sub, ab, col, dd, k0, k1', k2, k3, k5, hC, hbm⟩ := Z.oex.cls
    have hcl := cls_of hC
    refine set_plain X1 (ox := HandSPX.excO C t1) (od := none) ⟨e1, rfl, rfl, trivial⟩ Z.oex.sa ?_
    refine HandSPX.exc_osa X1 e1 hcl (show HandSPX.refsVE (.ref C :: bm) = true from hbm) rfl hno (fun h' tk' dx k' dn dne hx' hn' => ?_)
    have hz : hp.objs.size ≤ h1.objs.size := by
      have q : ∃ o, h1.get? hp.objs.size = some o := by
        obtain ⟨oL, es, ep, q1, q2⟩ := n1
        exact ⟨oL, q1⟩
      obtain ⟨o, q⟩ := q
      exact Nat.le_of_lt (Heap.lt_size q)
    exact wpAt_of_wpAny (wpAny_pure (hq h' tk' dx t1 (fun b o hb ho => k' b o hb (k1 b o hb (k b o ho))) (Nat.le_trans hz dn) dne hx' hn'))
theorem ini_run0 {s : Shared} {args : Args} {t0 : Addr} (I : Ini file K C fI se none fd) (hbd : fd.body = .stmts body) (B : IniB body none se)
    (Z : XcK K C) (X : K.In s.heap) (lim : s.heap.NoLimit) (hg : s.heap.Ns mainGlobals mg) (hm : mg "super" = none) (hb : s.heap.Ns builtinsNs mb) (hmb : mb "super" = some (.type "super"))
    (hfile : ((prog.main.file : Str) == file) = true) (htop : (prog.main.scope.names.lookup ("super" : Str)).isSome = false) (hin : ∀ L, interactive (callEnv fd L fI) = false) (room : A.depth < recursionLimit) (hx : s.heap.get? x = some (HandSPX.excO C t0)) (hbind : BindsTo s fd args [(se, .ref x)])
    (hq : ∀ h' tk' t1, (∀ b o, b ≠ x → s.heap.get? b = some o → h'.get? b = some o) → h'.get? x = some (HandSPX.excO C t1) → R (.ok (.ret .none)) { s with heap := h', toks := tk' }) : codeAny (model prog w) A (.call (.ref fI) args) R s := by
  obtain ⟨oc, od, osl, hf⟩ := I.fn
  refine ks_codeAny_call_defAt (fd := fd) (body := body) (binds := [(se, .ref x)]) room (X _ _ hf) rfl lim (codeRec_of X I.code) hbd hbind I.nocell (fun y hy => ?_) (fun h0 hns k => ?_) I.co I.gen I.kind
  · rw [List.mem_singleton] at hy
    subst hy
    exact I.self
  obtain ⟨hp, gs, dr, tk, os⟩ := s
  have hL : hp.objs.size ≠ x := fun z => by
    have := Heap.lt_size hx
    rw [z] at this
    exact absurd this (Nat.lt_irrefl _)
  have mse : ([(se, Value.ref x)] : List (Str × Value)).reverse.lookup se = some (.ref x) := by simp [List.lookup]
  cases B with
  | none _ p0 p1 p2 p4 p5 hl =>
    refine ks_wpAt_execs_cons ?_
    refine sup_stmt (us := []) I Z (X.keeps k) hns mse (k _ _ hx) hL (hg.keeps k) hm (hb.keeps k) hmb hfile htop rfl (fun h1 t1 uu Q1 n1 q1 => evalArgs_empty q1) (Nat.zero_le _) (mcall_sup hl rfl) rfl (hin _) ?_
    intro h1 t1 tk1 k1 e1
    exact wpAt_of_wpAny (wpAny_pure (hq h1 tk1 t1 (fun b o hb ho => k1 b o hb (k b o ho)) e1))
end
end Mach
namespace Mach
open PySem PySem.W PySem.Calls PySem.Spec PySem.HandSPX
section
variable {bas nid iid : String} {tlB tl bases subs : List Value} {nam qn : Str} {Cl Na : Addr} {hasd abst : Bool} {slt : List Str} {coll : Option Bool} {dct : Option Addr} {s0 s1 s2 s3 s5 : Option Value} {us : List Value} {kw : List (Str × Value)}
variable {hp : Heap} {gs : Array GenState} {dw : Drawn} {tk : Nat} {ost : OsState}
/-- new may be asked with keywords too -/
theorem ckNewK {M : Model} {A : Around} {E : Value → Shared → Prop} {Q : Unit → Shared → Prop} (F : ExcBaseFacts bas nid iid tlB) (htl : ∀ T : String, tl.contains (.type T) = tlB.contains (.type T))
    (hcl : hp.get? Cl = some (excClassObj nam qn Cl Na bases tl hasd slt subs abst coll dct s0 s1 s2 s3 s5 nid)) (hend : Q () ⟨hp, gs, dw, tk, ost⟩) : wpAny M A (checkBuiltinCall nid ⟨.ref Cl :: us, kw⟩) Q E ⟨hp, gs, dw, tk, ost⟩ := by
  have hb : (Value.ref Cl :: tl).contains (.type bas) = true := by rw [List.contains_cons, htl, F.hasB, Bool.or_true]
  have hno := F.noStar
  simp only [checkBuiltinCall, F.newKind, F.newSplit, F.newRow]; repeat (first | refine wpAny_loadPart_at hcl ?_ | (refine wpAny_isSubtype_exc hcl ?_; rw [hb]) | refine wpAny_staticBase_exc hcl ?_ | refine wpAny_madeBy_exc hcl ?_ | simp only [bne_self_eq_false, Bool.false_eq_true, if_false] | wp_step)
  exact hend
variable {prog : Program} {w : World} {A : Around} {R : Result → Shared → Prop} {fI : Addr}
/-- the object, by new with keywords: it bears the positional ones alone -/
theorem newK (F : ExcBaseFacts bas nid iid tlB) (htl : ∀ T : String, tl.contains (.type T) = tlB.contains (.type T)) (hcl : hp.get? Cl = some (excClassObj nam qn Cl Na bases tl hasd slt subs abst coll dct s0 s1 s2 s3 s5 nid)) (hus : us.length ≤ sizeLine)
    (hend : R (.ok (.ret (.ref (hp.objs.size + 1)))) ⟨(hp.push (W.kdv_tup us)).push (excO Cl hp.objs.size), gs, dw, tk, ost⟩) : codeAny (model prog w) A (.builtin nid ⟨.ref Cl :: us, kw⟩) R ⟨hp, gs, dw, tk, ost⟩ := by
  have hb : (Value.ref Cl :: tl).contains (.type bas) = true := by rw [List.contains_cons, htl, F.hasB, Bool.or_true]
  have hna : (Value.ref Cl :: tl).contains (.type "AttributeError") = false := by rw [List.contains_cons, htl, F.noAttr]; rfl
  have hnn : (Value.ref Cl :: tl).contains (.type "NameError") = false := by rw [List.contains_cons, htl, F.noName]; rfl
  have hen := F.ends
  refine codeAny_builtinAt F.entry (?_ : wpAt _ _ _ (Builtin.«BaseException.__new__» _) _ _ _); unfold Builtin.«BaseException.__new__»; refine wpAt_bind ?_
  show wpAt (model prog w) _ _ (stack >>= _) _ _ _
  refine wpAt_bind (wpAt_stack fun _ _ => wpAt_of_wpAny ?_)
  wp_walk
  refine wpAt_of_wpAny ?_; rw [F.owner]; repeat (first | with_reducible refine wpAny_madeHere_exc F.canon hcl ?_ | with_reducible refine wpAny_loadPart_at hcl ?_ | (with_reducible refine wpAny_isSubtype_exc hcl ?_; first | rw [hb] | rw [hna] | rw [hnn]) | wp_step)
  show R _ _; rw [Heap.size_push]; exact hend
theorem tcK {E : Value → Shared → Prop} {Q : Fin → Shared → Prop} (F : ExcBaseFacts bas nid iid tlB) (htl : ∀ T : String, tl.contains (.type T) = tlB.contains (.type T)) (hcl : hp.get? Cl = some (excClassObj nam qn Cl Na bases tl hasd slt subs abst coll dct s0 s1 s2 s3 s5 nid))
    (hin : W.Looks (model prog w) hp (typeLookup (.ref Cl) "__init__") (some (.ref fI))) (hbi : ∀ self, W.Looks (model prog w) hp (bindSpecial (.ref fI) self) (.ref fI, [self])) (hus : us.length ≤ sizeLine)
    (hend : codeAny (model prog w) A (.call (.ref fI) ⟨.ref (hp.objs.size + 1) :: us, kw⟩) (fun r s' => match r with | .ok (.ret v) => v = .none ∧ Q (.done (.ret (.ref (hp.objs.size + 1)))) s' | .ok _ => False | .error x => E x s')
      ⟨(hp.push (W.kdv_tup us)).push (excO Cl hp.objs.size), gs, dw, tk, ost⟩) : wpAny (model prog w) A (Builtin.«type.__call__» ⟨.ref Cl :: us, kw⟩) Q E ⟨hp, gs, dw, tk, ost⟩ := by
  have up : ∀ b o, hp.get? b = some o → ((hp.push (W.kdv_tup us)).push (excO Cl hp.objs.size)).get? b = some o := fun b o e => Heap.get?_push_of_some _ (Heap.get?_push_of_some _ e)
  have self1 : ((hp.push (W.kdv_tup us)).push (excO Cl hp.objs.size)).get? (hp.objs.size + 1) = some (excO Cl hp.objs.size) := by heap_get
  have own1 : (Value.ref Cl :: tl).contains (.ref Cl) = true := by simp
  have hcl1 := up _ _ hcl
  have hin1 := hin.keeps up
  have hbi1 := (hbi (.ref (hp.objs.size + 1))).keeps up
  repeat (first | with_reducible refine wpAny_loadPart_at hcl ?_ | with_reducible refine wpAny_madeBy_exc hcl ?_ | wp_step)
  refine codeAny_call_builtin_code (Code.quiet_builtin _ F.quiet) (ckNewK F htl hcl (newK F htl hcl hus (?_ : wpAny _ _ _ _ _ _)))
  unfold isInstance
  repeat (first | with_reducible refine wpAny_loadPart_at self1 ?_ | (with_reducible refine wpAny_isSubtype_exc hcl1 ?_; rw [own1]) | wp_step)
  show wpAny _ _ (typeLookup (.ref Cl) _) _ _ _
  refine hin1.at (wpAny_holding (wpAny_bind (hbi1.at (wpAny_bind (wpAny_call (codeAny_mono hend fun r s' y => ?_))))))
  rcases r with x | (v | _ | _ | _) <;> first | exact y | exact y.elim | skip
  obtain ⟨rfl, y⟩ := y
  first | exact wpAny_pure (wpAny_pure y) | (wp_walk; exact y)
theorem callK (F : ExcBaseFacts bas nid iid tlB) (htl : ∀ T : String, tl.contains (.type T) = tlB.contains (.type T)) (hcl : hp.get? Cl = some (excClassObj nam qn Cl Na bases tl hasd slt subs abst coll dct s0 s1 s2 s3 s5 nid))
    (hin : W.Looks (model prog w) hp (typeLookup (.ref Cl) "__init__") (some (.ref fI))) (hbi : ∀ self, W.Looks (model prog w) hp (bindSpecial (.ref fI) self) (.ref fI, [self])) (hus : us.length ≤ sizeLine)
    (hend : codeAny (model prog w) (A.under (.builtin "type.__call__" ⟨.ref Cl :: us, kw⟩)) (.call (.ref fI) ⟨.ref (hp.objs.size + 1) :: us, kw⟩) (W.InitBack (hp.objs.size + 1) R) ⟨(hp.push (W.kdv_tup us)).push (excO Cl hp.objs.size), gs, dw, tk, ost⟩) :
    codeAny (model prog w) A (.call (.ref Cl) ⟨us, kw⟩) R ⟨hp, gs, dw, tk, ost⟩ := by
  have look := tc_lookup
  have bnd := tc_bind (.ref Cl)
  have ty : (⟨hp, gs, dw, tk, ost⟩ : Shared).TypeIs (.ref Cl) "type" := ⟨_, hcl, rfl⟩
  refine codeAny_of_tree (?_ : wpAny _ _ (callAny (.ref Cl) _) _ _ _)
  repeat (any_goals (first | assumption | with_reducible refine wpAny_loadPart_at hcl ?_ | wp_step))
  refine ⟨rfl, codeAny_call_builtin_at (Code.quiet_builtin _ (by decide +kernel)) entry_typeCall (wpAny_check_type_call_sub hcl (tcK F htl hcl hin hbi hus (codeAny_mono hend fun r s' y => ?_)))⟩
  rcases r with x | (v | _ | _ | _) <;> exact y
end
/-- what is known of an own exception class -/
structure ExH (prog : Program) (K : Frag) (C : Addr) (fld : Option Str) : Prop where
  Z : XcK K C
  ini : ∃ fI fd se body file, findIn K (.ref C) "__init__" = some (some (.ref fI)) ∧ typeIn K (.ref fI) = some (.type "function") ∧ Ini file K C fI se fld fd ∧ fd.body = .stmts body ∧ IniB body (fld.map fun v => (v, v)) se ∧
    ((prog.main.file : Str) == file) = true ∧ (∀ L, interactive (callEnv fd L fI) = false) ∧
    (∀ v, fld = some v → fd.scope.names.lookup v = some .local ∧ (v == ("__debug__" : Str)) = false ∧ se ≠ v ∧ findIn K (.ref C) v = some none ∧ ∀ s a u, BindsTo s fd ⟨[a, u], []⟩ [(se, a), (v, u)] ∧ BindsTo s fd ⟨[a], [(v, u)]⟩ [(se, a), (v, u)]) ∧
    (fld = none → ∀ s a, BindsTo s fd ⟨[a], []⟩ [(se, a)])
  ga : findIn K (.ref C) "__getattribute__" = some (some (.builtin "BaseException.__getattribute__"))
  gg : findIn K (.ref C) "__getattr__" = some none
  hdC : hasDictIn K C = true
  clC : (clsIn K C).isSome = true
  ha : findIn K (.ref C) "__class__" = some (some (.builtin "object.__class__"))
  hn : specialIn K (.builtin "object.__class__") "__get__" = some (some (.builtin "getset_descriptor.__get__"))
  ht : takesIn K (.builtin "object.__class__") = some true
  hm : mroIn K C (.type "object") = some true
  tyV : kitOne K (.ref C) (.type "ValueError") = some true
end Mach
/-! Mach4: the machine is sound: expressions. -/
namespace Mach
open PySem PySem.Spec PyProof.Rows L2

/-- what a def of the machine promises -/
def spOf (G : Gx) (n : Nat) (F : List W → Mu → Res W) : Sp := fun vs H Q E => vs.length = n ∧ ∃ rho m ws, RelMu G rho H m ∧ RelWs G rho H ws vs ∧ OkR G E (RelW G) Q rho H (F ws m)
/-- as FnOk, where no repr is under way -/
structure FnG (P : Program) (w : World) (K : PySem.W.Frag) (mg : Str → Option Value) (base : Heap) (k : Nat) (f : Addr) (fd : FuncData) (ps : List Str) (sp : Sp) : Prop where
  run : ∀ (A : Around) (outer : List Env) (s : Shared) (H : Hp) (args : Args) (us : List Value) (vs : List V) (Q : VK) (E : XK), Room k A → A.guards = some [] → Env0 P w K mg base A outer s H →
    BindsTo s fd args (ps.zip us) → Vals vs us → sp vs H Q E → codeAny (model P w) A (.call (.ref f) args) (CR (L2.CX P w) outer P w H s Q E) s

/-- what is known of the program behind the top -/
structure Hyp (P : Pg) (G : Gx) (call : Str → List W → Mu → Res W) (d : Nat) (prog : Program) (w : World) (mg : Str → Option Value) (base : Heap) : Prop where
  fn : ∀ f i, P.fn f = some i → ∃ a fd, mg f = some (.ref a) ∧ PySem.W.keepIn G.K (.ref a) = true ∧ Binds G.K fd i.params [] ∧ FnG prog w G.K mg base d a fd i.params (spOf G i.params.length (call f))
  free : ∀ x, P.free x = true → mg x = none
  sys : ∃ o, G.K.lookup sysModules = some o
  exc : ∀ x fld, P.exc x = some fld → ∃ C, G.ca x = some C ∧ mg x = some (.ref C) ∧ ExH prog G.K C fld
  exi : ∀ x fx y fy Cx Cy, P.exc x = some fx → P.exc y = some fy → G.ca x = some Cx → G.ca y = some Cy → PySem.W.kitOne G.K (.ref Cx) (.ref Cy) = some (x == y)
  giv : P.giv = true → ∃ B, mg "GivenError" = some (.ref B) ∧ ∀ x fx Cx, P.exc x = some fx → G.ca x = some Cx → PySem.W.kitOne G.K (.ref Cx) (.ref B) = some true
  sup : (∃ x fx, P.exc x = some fx) → mg "super" = none ∧ (prog.main.scope.names.lookup ("super" : Str)).isSome = false
  con : ∀ x wv, P.con x = some wv → ∃ v u, mg x = some u ∧ RelV v u ∧ ∀ rho H, RelW G rho H wv v

/-- where an expression stands: X fits c -/
structure Ctx (P : Pg) (G : Gx) (call : Str → List W → Mu → Res W) (d : Nat) (E : L2.St → XK) (X : Cx) (c : Cs) : Prop where
  K : G.K = X.K
  sc : X.env.scope = c.sc
  N : X.N = c.names
  nd : c.names.Nodup
  calm : X.calm = true
  units : UnitsOk X
  guards : X.A.guards = some []
  room : Room d X.A
  own : PassesOwn (model X.prog X.w) X.A X.env X.xe
  pass : ∀ (pins : List (Addr × Obj)) (st : L2.St) (H : Hp) (s : Shared) (e : Value) (s' : Shared), Inv X pins st H s → L2.CX X.prog X.w X.stack H s (E st) e s' → X.xe e s'
  fnb : c.blk = false → ∀ x, X.fn x = true
  hyp : Hyp P G call d X.prog X.w X.mg X.base

section
variable {P : Pg} {G : Gx} {call : Str → List W → Mu → Res W} {d : Nat} {E : L2.St → XK} {X : Cx} {c : Cs}

/-! ### names -/
theorem place_get {x : Str} : ∀ {l : List Str} {k i : Nat}, place x l k = some i → k ≤ i ∧ l[i - k]? = some x
  | [], _, _, h => by cases h
  | y :: r, k, i, h => by
    unfold place at h
    split at h
    · rename_i e
      cases h
      exact ⟨Nat.le_refl _, by simp [e]⟩
    · obtain ⟨h1, h2⟩ := place_get h
      refine ⟨by omega, ?_⟩
      rw [show i - k = (i - (k + 1)) + 1 by omega]
      simpa using h2
theorem Ctx.slot (C : Ctx P G call d E X c) {x : Str} {i : Nat} (h : place x c.names 0 = some i) : X.N[i]? = some x := by
  rw [C.N]
  exact (place_get h).2
theorem vis_ok (C : Ctx P G call d E X c) {x : Str} (h : visB c x = true) : Vis X.env.scope x := by
  unfold Vis
  rw [C.sc]
  unfold visB at h
  split at h
  · rename_i e; exact .inl e
  · rename_i e; exact .inr (.inl e)
  · rename_i e; exact .inr (.inr e)
  · cases h
theorem gl_ok (C : Ctx P G call d E X c) {x : Str} (h : glB c x = true) : Gl X x := by
  unfold Gl Env.kindOf
  rw [C.sc]
  unfold glB at h
  split at h
  · rename_i e; exact e
  · cases h
theorem plain_ok {x : Str} (h : plainN x = true) : (x == ("__debug__" : Str)) = false ∧ (x == ("__classdict__" : Str)) = false ∧ x ≠ "__name__" := by
  unfold plainN at h
  simp only [Bool.and_eq_true, Bool.not_eq_true'] at h
  refine ⟨h.1.1, h.1.2, fun e => ?_⟩
  have := h.2
  rw [e] at this
  simp at this
theorem pe_mvar (C : Ctx P G call d E X c) {x : Str} {i : Nat} {pos : Pos} (hv : visB c x = true) (hp : plainN x = true) (hi : place x c.names 0 = some i) : PE X (.Name x pos) (tE G E (mvar i)) := by
  refine PE.imp (pe_var (C.slot hi) (vis_ok C hv) (plain_ok hp).1 (plain_ok hp).2.1) fun s H Q h => ?_
  obtain ⟨rho, m, e, rm, rs, ok⟩ := h
  unfold mvar at ok
  split at ok
  · rename_i w hw
    obtain ⟨v, h1, h2⟩ := rs.2 i w hw
    exact ⟨v, h1, okw rm ok h2⟩
  · exact ok.elim
theorem pe_mcon (C : Ctx P G call d E X c) {x : Str} {w : W} {pos : Pos} (hv : glB c x = true) (hp : plainN x = true) (hi : P.con x = some w) : PE X (.Name x pos) (tE G E (mpure w)) := by
  obtain ⟨v, u, h1, h2, h3⟩ := C.hyp.con x w hi
  refine PE.imp (pe_glob (gl_ok C hv) h1 h2 (plain_ok hp).1) fun s H Q h => ?_
  obtain ⟨rho, m, e, rm, rs, ok⟩ := h
  exact okw rm ok (h3 rho H)
theorem pe_const {k : Const} {j : Nat} {pos : Pos} : PE X (.Constant k j pos) (tE G E (constM k)) := by
  have fin : ∀ {w : W} {v : V} {s : L2.St} {H : Hp} {Q : VK}, (∀ rho H, RelW G rho H w v) → tE G E (mpure w) s H Q → Q v H := fun hr h => by
    obtain ⟨rho, m, e, rm, rs, ok⟩ := h
    exact okw rm ok (hr _ _)
  cases k with
  | none => exact PE.imp pe_non fun s H Q h => fin (w := .non) (v := .non) (fun _ _ => rfl) h
  | bool b => exact PE.imp pe_bl fun s H Q h => fin (w := .bl b) (v := .bl b) (fun _ _ => rfl) h
  | int i => exact PE.imp pe_int fun s H Q h => fin (w := .int i) (v := .int i) (fun _ _ => rfl) h
  | str z => exact PE.imp pe_str fun s H Q h => fin (w := .str z) (v := .str z) (fun _ _ => rfl) h
  | _ => exact PE.no

/-! ### operators -/
theorem tOp_of {f : W → W → Mu → Res W} {A B : M W} {s : L2.St} {H : Hp} {Q : VK} (h : tE G E (mop2 f A B) s H Q) : tOp (r2C G f) (tE G E A) (tE G E B) s H Q := by
  obtain ⟨rho, m, e, rm, rs, ok⟩ := h
  refine bindR (S := RelW G) (K := fun x => mbind B fun y => mval (f x y)) rm rs ok fun r1 m1 H1 a x f1 rm1 rs1 ra ok1 => ?_
  refine bindR (S := RelW G) (K := fun y => mval (f a y)) rm1 rs1 ok1 fun r2 m2 H2 b y f2 rm2 rs2 rb ok2 => ?_
  exact ⟨r2, m2, a, b, rm2, RelW.mono f2 _ _ ra, rb, OkR.calm' (x := f a b m2) ok2⟩
theorem tUn_of {f : W → Mu → Res W} {A : M W} {s : L2.St} {H : Hp} {Q : VK} (h : tE G E (mop1 f A) s H Q) : tUn (r1C G f) (tE G E A) s H Q := by
  obtain ⟨rho, m, e, rm, rs, ok⟩ := h
  refine bindR (S := RelW G) (K := fun x => mval (f x)) rm rs ok fun r1 m1 H1 a x f1 rm1 rs1 ra ok1 => ?_
  exact ⟨r1, m1, a, rm1, ra, OkR.calm' (x := f a m1) ok1⟩
theorem pe_mop (C : Ctx P G call d E X c) {a b : Expr} {A B : M W} {op : Operator} {pos : Pos} (ha : PE X a (tE G E A)) (hb : PE X b (tE G E B)) : PE X (.BinOp a op b pos) (tE G E (mop2 (binM op) A B)) :=
  PE.imp (pe_op (OpR.calm (op_binM (E := fun _ _ _ => False) C.K op)) ha hb) fun _ _ _ h => tOp_of h
theorem un_negM : UnR X (unaryOp .USub) (r1M G (fun _ _ _ => False) negM) := by
  rintro pins s st H x v Q I rx ⟨rho, m, a, rm, ra, ok⟩
  cases a with
  | int i => cases ra; exact un_neg pins s st H _ v Q I rx ⟨i, rfl, okI' rm ok⟩
  | _ => exact ok.elim
theorem pe_mneg {a : Expr} {A : M W} {pos : Pos} (ha : PE X a (tE G E A)) : PE X (.UnaryOp .USub a pos) (tE G E (mop1 negM A)) :=
  PE.imp (pe_un (UnR.calm un_negM) ha) fun _ _ _ h => tUn_of h
theorem pe_mnot (C : Ctx P G call d E X c) {a : Expr} {A : M W} {pos : Pos} (ha : PE X a (tE G E A)) : PE X (.UnaryOp .Not a pos) (tE G E (mop1 notM A)) := by
  refine PE.imp (pe_notT ha) fun s H Q h => ?_
  obtain ⟨rho, m, e, rm, rs, ok⟩ := h
  refine bindR (S := RelW G) (K := fun x => mval (notM x)) rm rs ok fun r1 m1 H1 a x f1 rm1 rs1 ra ok1 => ?_
  have ok1 : OkR G (E s) (RelW G) Q r1 H1 (calmR (match truM m1 a with
    | some k => okB m1 (!k)
    | none => .no)) := ok1
  cases ht : truM m1 a with
  | none => rw [ht] at ok1; exact ok1.elim
  | some k => rw [ht] at ok1; exact ⟨k, truM_ok C.K rm1 ra ht, okB' rm1 ok1⟩
theorem pe_mcmp (C : Ctx P G call d E X c) {a b : Expr} {A B : M W} {op : CmpOp} {pos : Pos} (ha : PE X a (tE G E A)) (hb : PE X b (tE G E B)) (hs : isSet b = false) : PE X (.Compare a [op] [b] pos) (tE G E (mop2 (cmpM op) A B)) := by
  have hm : behindInMarks op b = false := by
    cases b <;> first | rfl | cases hs
  exact PE.imp (pe_cmpR (OpR.calm (op_cmpM (E := fun _ _ _ => False) C.K C.units op)) ha hb hm) fun _ _ _ h => tOp_of h
theorem pe_mix (C : Ctx P G call d E X c) {a b : Expr} {A B : M W} {pos : Pos} (ha : PE X a (tE G E A)) (hb : PE X b (tE G E B)) (hs : isSlice b = false) : PE X (.Subscript a b pos) (tE G E (mop2 subM' A B)) := by
  have hp : PlainIx b := by
    cases b <;> first | exact fun _ _ => rfl | cases hs
  exact PE.imp (pe_ix (IxR.calm (ix_M (E := fun _ _ _ => False) C.K)) ha hb hp) fun _ _ _ h => tOp_of h

/-! ### rows of expressions, displays -/
theorem star_ok {e : Expr} {es : List Expr} {env : Env} (h : noStar e = true) : starEach (e :: es) env = (false, eval e env) :: starEach es env := by
  cases e <;> first | rfl | cases h
theorem pa_mall {f : Expr → M W} (hf : ∀ e, PE X e (tE G E (f e))) : ∀ (es : List Expr), es.all noStar = true → PA X es (tA G E (mAll f es))
  | [], _ => PA.imp pa_nil fun s H Q h => by
    obtain ⟨rho, m, e, rm, rs, ok⟩ := h
    exact ok rho H [] (Fr.refl _ _) rm RelWs.nil
  | e :: es, h => by
    rw [List.all_cons, Bool.and_eq_true] at h
    refine PA.imp (pa_cons (hf e) (pa_mall hf es h.2) (star_ok h.1)) fun s H Q hq => ?_
    obtain ⟨rho, m, ev, rm, rs, ok⟩ := hq
    refine bindR (S := RelWs G) (K := fun y => mbind (mAll f es) fun ys => mpure (y :: ys)) rm rs ok fun r1 m1 H1 a x f1 rm1 rs1 ra ok1 => ?_
    refine bindR (S := RelWs G) (K := fun ys => mpure (a :: ys)) rm1 rs1 ok1 fun r2 m2 H2 b y f2 rm2 rs2 rb ok2 => ?_
    exact ok2 r2 H2 (x :: y) (Fr.refl _ _) rm2 (RelWs.cons (RelW.mono f2 _ _ ra) rb)
theorem mAll_len {α β : Type} {f : α → M β} : ∀ {xs : List α} {e : Ev} {m : Mu} {ys : List β} {m' : Mu}, mAll f xs e m = .ok ys m' → ys.length = xs.length
  | [], e, m, ys, m', h => by cases h; rfl
  | x :: xs, e, m, ys, m', h => by
    have h : (f x e m).bind (fun y m1 => (mAll f xs e m1).bind fun ys m2 => .ok (y :: ys) m2) = .ok ys m' := h
    cases h1 : f x e m with
    | ok y m1 =>
      rw [h1] at h
      have h : (mAll f xs e m1).bind (fun ys m2 => .ok (y :: ys) m2) = .ok ys m' := h
      cases h2 : mAll f xs e m1 with
      | ok zs m2 =>
        rw [h2] at h
        cases h
        simp [mAll_len h2]
      | err _ _ _ => rw [h2] at h; cases h
      | no => rw [h2] at h; cases h
    | err _ _ _ => rw [h1] at h; cases h
    | no => rw [h1] at h; cases h
theorem bindA {f : Expr → M W} {es : List Expr} {γ δ : Type} {S : List Addr → Hp → γ → δ → Prop} {K : List W → M γ} {s : L2.St} {H : Hp} {Q : δ → Hp → Prop} {rho : List Addr} {m : Mu} {e : Ev} (rm : RelMu G rho H m) (rs : RelSt G rho H e s)
    (ok : OkR G (E s) S Q rho H (mbind (mAll f es) K e m)) {Q1 : List V → Hp → Prop}
    (k : ∀ r1 m1 H1 a b, a.length = es.length → Fr rho H r1 H1 → RelMu G r1 H1 m1 → RelSt G r1 H1 e s → RelWs G r1 H1 a b → OkR G (E s) S Q r1 H1 (K a e m1) → Q1 b H1) : tA G E (mAll f es) s H Q1 := by
  refine ⟨rho, m, e, rm, rs, ?_⟩
  have ok : OkR G (E s) S Q rho H ((mAll f es e m).bind fun a m' => K a e m') := ok
  cases hF : mAll f es e m with
  | ok a m1 =>
    rw [hF] at ok
    intro r1 H1 b f1 rm1 rb
    exact k r1 m1 H1 a b (mAll_len hF) f1 rm1 (rs.mono f1) rb (OkR.later f1 ok)
  | err c fs m1 => rw [hF] at ok; exact ok
  | no => rw [hF] at ok; exact ok
theorem pe_mtup {f : Expr → M W} (hf : ∀ e, PE X e (tE G E (f e))) {es : List Expr} {k : Nat} {pos : Pos} (h : es.all noStar = true) (hz : sizeOk es.length = true) : PE X (.Tuple es k pos) (tE G E (mbind (mAll f es) fun ws => mpure (.tup ws))) := by
  refine PE.imp (pe_tup (pa_mall hf es h)) fun s H Q hq => ?_
  obtain ⟨rho, m, ev, rm, rs, ok⟩ := hq
  refine bindA (S := RelW G) (K := fun ws => mpure (.tup ws)) rm rs ok fun r1 m1 H1 a b hl f1 rm1 rs1 ra ok1 => ?_
  exact ⟨by rw [← ra.length, hl]; exact size_le hz, fun p hp => okT rm1 ok1 ra hp⟩
theorem pe_mlst {f : Expr → M W} (hf : ∀ e, PE X e (tE G E (f e))) {es : List Expr} {pos : Pos} (h : es.all noStar = true) (hz : sizeOk es.length = true) : PE X (.List es pos) (tE G E (mbind (mAll f es) fun ws => mval (alloc (.lst ws)))) := by
  refine PE.imp (pe_lst (pa_mall hf es h)) fun s H Q hq => ?_
  obtain ⟨rho, m, ev, rm, rs, ok⟩ := hq
  refine bindA (S := RelW G) (K := fun ws => mval (alloc (.lst ws))) rm rs ok fun r1 m1 H1 a b hl f1 rm1 rs1 ra ok1 => ?_
  exact ⟨by rw [← ra.length, hl]; exact size_le hz, fun p hp => okL (E := fun _ _ _ => False) rm1 (OkR.calm (x := alloc (.lst a) m1) ok1) ra hp⟩
end
end Mach
/-! Mach5: the machine is sound: and, or, if, dicts, tests, built-ins, loops. -/
namespace Mach
open PySem PySem.Spec PyProof.Rows L2
section
variable {P : Pg} {G : Gx} {call : Str → List W → Mu → Res W} {d : Nat} {E : L2.St → XK} {X : Cx} {c : Cs}

theorem pe_mand (C : Ctx P G call d E X c) {f : Expr → M W} (hf : ∀ e, PE X e (tE G E (f e))) {pos : Pos} : ∀ vs : List Expr, PE X (.BoolOp .And vs pos) (tE G E (boolM true (vs.map f)))
  | [] => PE.no
  | [a] => pe_one (hf a)
  | a :: b :: r => by
    refine PE.imp (pe_andT (hf a) (pe_mand C hf (b :: r))) fun s H Q h => ?_
    obtain ⟨rho, m, e, rm, rs, ok⟩ := h
    refine bindR (S := RelW G) (K := fun w => fun e m => match truM m w with
      | some k => if k = true then boolM true (f b :: r.map f) e m else .ok w m
      | none => .no) rm rs ok fun r1 m1 H1 w x f1 rm1 rs1 ra ok1 => ?_
    cases ht : truM m1 w with
    | none => simp only [ht] at ok1; exact ok1.elim
    | some k =>
      simp only [ht] at ok1
      refine ⟨k, truM_ok C.K rm1 ra ht, ?_⟩
      cases k with
      | true => exact iteT ⟨r1, m1, e, rm1, rs1, ok1⟩
      | false => exact iteF (okw rm1 ok1 ra)
theorem pe_mor (C : Ctx P G call d E X c) {f : Expr → M W} (hf : ∀ e, PE X e (tE G E (f e))) {pos : Pos} : ∀ vs : List Expr, PE X (.BoolOp .Or vs pos) (tE G E (boolM false (vs.map f)))
  | [] => PE.no
  | [a] => pe_one (hf a)
  | a :: b :: r => by
    refine PE.imp (pe_orT (hf a) (pe_mor C hf (b :: r))) fun s H Q h => ?_
    obtain ⟨rho, m, e, rm, rs, ok⟩ := h
    refine bindR (S := RelW G) (K := fun w => fun e m => match truM m w with
      | some k => if k = false then boolM false (f b :: r.map f) e m else .ok w m
      | none => .no) rm rs ok fun r1 m1 H1 w x f1 rm1 rs1 ra ok1 => ?_
    cases ht : truM m1 w with
    | none => simp only [ht] at ok1; exact ok1.elim
    | some k =>
      simp only [ht] at ok1
      refine ⟨k, truM_ok C.K rm1 ra ht, ?_⟩
      cases k with
      | true => exact iteT (okw rm1 ok1 ra)
      | false => exact iteF ⟨r1, m1, e, rm1, rs1, ok1⟩
theorem tIf_of {α β : Type} {R : List Addr → Hp → α → β → Prop} {t : M Bool} {A B : M α} {s : L2.St} {H : Hp} {Q : β → Hp → Prop} (h : tR G E R (mif t A B) s H Q) : tT G E t s H fun k H1 => if k = true then tR G E R A s H1 Q else tR G E R B s H1 Q := by
  obtain ⟨rho, m, e, rm, rs, ok⟩ := h
  refine bindR (S := R) (K := fun k => if k = true then A else B) rm rs ok fun r1 m1 H1 k x f1 rm1 rs1 ra ok1 => ?_
  subst ra
  cases k with
  | true => exact iteT ⟨r1, m1, e, rm1, rs1, ok1⟩
  | false => exact iteF ⟨r1, m1, e, rm1, rs1, ok1⟩
theorem pe_mif {t a b : Expr} {T : M Bool} {A B : M W} {pos : Pos} (ht : PT X t (tT G E T)) (ha : PE X a (tE G E A)) (hb : PE X b (tE G E B)) : PE X (.IfExp t a b pos) (tE G E (mif T A B)) :=
  PE.imp (pe_ifExp ht ha hb) fun _ _ _ h => tIf_of h

/-! ### tests -/
theorem tru_of (C : Ctx P G call d E X c) {A : M W} {s : L2.St} {H : Hp} {Q : Bool → Hp → Prop} (h : tT G E (mtru A) s H Q) : tE G E A s H fun x H' => ∃ k, TruV X.K x H' k ∧ Q k H' := by
  obtain ⟨rho, m, e, rm, rs, ok⟩ := h
  refine bindR (S := fun _ _ a b => a = b) (K := fun w => mval fun m => match truM m w with
    | some k => .ok k m
    | none => .no) rm rs ok fun r1 m1 H1 w x f1 rm1 rs1 ra ok1 => ?_
  have ok1 : OkR G (E s) (fun _ _ a b => a = b) Q r1 H1 (calmR (match truM m1 w with
    | some k => .ok k m1
    | none => .no)) := ok1
  cases ht : truM m1 w with
  | none => rw [ht] at ok1; exact ok1.elim
  | some k => rw [ht] at ok1; exact ⟨k, truM_ok C.K rm1 ra ht, ok1 r1 H1 k (Fr.refl _ _) rm1 rfl⟩
theorem cmpM_bl (op : CmpOp) (a b : W) (m : Mu) : cmpM op a b m = .no ∨ ∃ k, cmpM op a b m = okB m k := by
  have key : ∀ o : Option Bool, ofB m o = .no ∨ ∃ k, ofB m o = okB m k := fun o => by
    cases o with
    | none => exact .inl rfl
    | some k => exact .inr ⟨k, rfl⟩
  cases op <;> first | exact key _ | exact .inl rfl
theorem pt_mcmp (C : Ctx P G call d E X c) {a b : Expr} {A B : M W} {op : CmpOp} {pos : Pos} (ha : PE X a (tE G E A)) (hb : PE X b (tE G E B)) (hs : isSet b = false) : PT X (.Compare a [op] [b] pos) (tT G E (mtru (mop2 (cmpM op) A B))) := by
  have hm : behindInMarks op b = false := by
    cases b <;> first | rfl | cases hs
  refine PT.imp (pt_cmpR (OpR.calm (op_cmpM (E := fun _ _ _ => False) C.K C.units op)) ha hb hm) fun s H Q h => ?_
  obtain ⟨rho, m, e, rm, rs, ok⟩ := h
  have ok : OkR G (E s) (fun _ _ a b => a = b) Q rho H (mbind A (fun x => mbind B fun y => mbind (mval (cmpM op x y)) fun w => mval fun m => match truM m w with
    | some k => .ok k m
    | none => .no) e m) := by
    have e1 : mtru (mop2 (cmpM op) A B) = mbind A (fun x => mbind B fun y => mbind (mval (cmpM op x y)) fun w => mval fun m => match truM m w with
        | some k => .ok k m
        | none => .no) := by
      unfold mtru mop2
      rw [mbind_assoc]
      congr 1
      funext x
      rw [mbind_assoc]
      try rfl
    rw [← e1]; exact ok
  refine bindR (S := fun _ _ a b => a = b) (K := fun x => mbind B fun y => mbind (mval (cmpM op x y)) fun w => mval fun m => match truM m w with
    | some k => .ok k m
    | none => .no) rm rs ok fun r1 m1 H1 x v f1 rm1 rs1 ra ok1 => ?_
  refine bindR (S := fun _ _ a b => a = b) (K := fun y => mbind (mval (cmpM op x y)) fun w => mval fun m => match truM m w with
    | some k => .ok k m
    | none => .no) rm1 rs1 ok1 fun r2 m2 H2 y u f2 rm2 rs2 rb ok2 => ?_
  refine ⟨r2, m2, x, y, rm2, RelW.mono f2 _ _ ra, rb, ?_⟩
  have ok2 : OkR G (E s) (fun _ _ a b => a = b) Q r2 H2 ((calmR (cmpM op x y m2)).bind fun w m => calmR (match truM m w with
    | some k => .ok k m
    | none => .no)) := ok2
  rcases cmpM_bl op x y m2 with e1 | ⟨k, e1⟩
  · rw [e1] at ok2; exact ok2.elim
  · rw [e1] at ok2
    show OkR G _ (RelW G) _ r2 H2 (calmR (cmpM op x y m2))
    rw [e1]
    intro r' H' z f' rm' rz
    cases rz
    exact ⟨k, rfl, ok2 r' H' k f' rm' rfl⟩
theorem pt_mnot {a : Expr} {A : M Bool} {pos : Pos} (ha : PT X a (tT G E A)) : PT X (.UnaryOp .Not a pos) (tT G E (mbind A fun k => mpure (!k))) := by
  refine PT.imp (pt_not ha) fun s H Q h => ?_
  obtain ⟨rho, m, e, rm, rs, ok⟩ := h
  refine bindR (S := fun _ _ a b => a = b) (K := fun k => mpure (!k)) rm rs ok fun r1 m1 H1 k x f1 rm1 rs1 ra ok1 => ?_
  subst ra
  exact ok1 r1 H1 _ (Fr.refl _ _) rm1 rfl
theorem mpure_of {α β : Type} {R : List Addr → Hp → α → β → Prop} {a : α} {b : β} {s : L2.St} {H : Hp} {Q : β → Hp → Prop} (h : tR G E R (mpure a) s H Q) (hr : ∀ rho H, R rho H a b) : Q b H := by
  obtain ⟨rho, m, e, rm, rs, ok⟩ := h
  exact ok rho H b (Fr.refl _ _) rm (hr _ _)
theorem pt_mand {a b : Expr} {A B : M Bool} {pos : Pos} (ha : PT X a (tT G E A)) (hb : PT X b (tT G E B)) : PT X (.BoolOp .And [a, b] pos) (tT G E (mif A B (mpure false))) := by
  refine PT.imp (PW.pt (pw_and ha (pw_and1 hb))) fun s H Q h => ?_
  obtain ⟨rho, m, e, rm, rs, ok⟩ := tIf_of h
  refine ⟨rho, m, e, rm, rs, ?_⟩
  cases hA : A e m with
  | ok k m1 =>
    rw [hA] at ok
    intro r1 H1 k' f1 rm1 hk
    have q := ok r1 H1 k' f1 rm1 hk
    cases k' with
    | true => rw [if_pos rfl] at q ⊢; exact q
    | false => rw [if_neg Bool.false_ne_true] at q ⊢; exact mpure_of q fun _ _ => rfl
  | err _ _ _ => rw [hA] at ok; exact ok
  | no => rw [hA] at ok; exact ok
theorem pt_mor {a b : Expr} {A B : M Bool} {pos : Pos} (ha : PT X a (tT G E A)) (hb : PT X b (tT G E B)) : PT X (.BoolOp .Or [a, b] pos) (tT G E (mif A (mpure true) B)) := by
  refine PT.imp (PW.pt (pw_or ha (pw_or1 hb))) fun s H Q h => ?_
  obtain ⟨rho, m, e, rm, rs, ok⟩ := tIf_of h
  refine ⟨rho, m, e, rm, rs, ?_⟩
  cases hA : A e m with
  | ok k m1 =>
    rw [hA] at ok
    intro r1 H1 k' f1 rm1 hk
    have q := ok r1 H1 k' f1 rm1 hk
    cases k' with
    | true => rw [if_pos rfl] at q ⊢; exact mpure_of q fun _ _ => rfl
    | false => rw [if_neg Bool.false_ne_true] at q ⊢; exact q
  | err _ _ _ => rw [hA] at ok; exact ok
  | no => rw [hA] at ok; exact ok

/-! ### a dict display -/
theorem merge_nd : ∀ (kvs acc : List (Key × V)), (acc ++ kvs).map (·.1) |>.Nodup → mergeK acc kvs = acc ++ kvs
  | [], acc, _ => by simp [mergeK]
  | p :: r, acc, h => by
    show mergeK (putK acc p.1 p.2) r = _
    have hn : (acc.any fun kv => decide (kv.1 = p.1)) = false := by
      rw [List.any_eq_false]
      intro q hq
      simp only [decide_eq_true_eq]
      intro e
      rw [List.map_append, List.nodup_append] at h
      exact h.2.2 q.1 (List.mem_map_of_mem hq) p.1 (by simp) e
    unfold putK
    rw [hn, if_neg Bool.false_ne_true, merge_nd r (acc ++ [(p.1, p.2)]) (by simpa using h)]
    simp
theorem relK_zip {rho : List Addr} {H : Hp} : ∀ {ks : List Str} {ws : List W} {vs : List V}, ks.length = ws.length → RelWs G rho H ws vs → RelK G rho H ((ks.zip ws).map fun p => (Sum.inr p.1, p.2)) ((ks.zip vs).map fun p => (Sum.inr p.1, p.2))
  | [], ws, vs, _, _ => rfl
  | k :: ks, [], vs, h, _ => by cases h
  | k :: ks, w :: ws, vs, h, r => by
    unfold RelWs at r
    obtain ⟨v, r', rfl, a, b⟩ := r
    show RelK G rho H ((Sum.inr k, w) :: (ks.zip ws).map fun p => (Sum.inr p.1, p.2)) ((Sum.inr k, v) :: (ks.zip r').map fun p => (Sum.inr p.1, p.2))
    unfold RelK
    exact ⟨v, _, rfl, a, relK_zip (by simpa using h) b⟩
/-- a new dict -/
theorem okD {kvs : List (Key × W)} {vs : List (Key × V)} {Q : VK} {rho : List Addr} {H : Hp} {m : Mu} {E : XK} (rm : RelMu G rho H m) (h : OkR G E (RelW G) Q rho H (alloc (.dic kvs) m)) (r : RelK G rho H kvs vs) {p : Addr} (hp : H p = none) : Q (.ref p) (upd H p (.dK vs)) := by
  have f : Fr rho H (rho ++ [p]) (upd H p (.dK vs)) := fr_new hp _ (.inr rfl)
  refine h (rho ++ [p]) _ _ f (rm.push _ hp f (fun a u e => by rw [upd_ne (ne_of_none e hp)]; exact e) ⟨vs, upd_same, RelK.mono f _ _ r⟩) ?_
  unfold RelW
  exact ⟨p, rfl, by rw [← rm.len]; simp⟩
theorem strKeys_eq : ∀ {ks : List (Option Expr)} {ss : List Str}, strKeys ks = some ss → ks.length = ss.length ∧ ks.all (·.isSome) = true
  | [], ss, h => by cases h; exact ⟨rfl, rfl⟩
  | some (.Constant (.str z) j p) :: r, ss, h => by
    have h : (strKeys r).map (z :: ·) = some ss := h
    simp only [Option.map_eq_some_iff] at h
    obtain ⟨t, h1, rfl⟩ := h
    obtain ⟨a, b⟩ := strKeys_eq h1
    exact ⟨by simp [a], by simpa using b⟩
  | none :: r, ss, h => by cases h
  | some e :: r, ss, h => by
    unfold strKeys at h
    split at h
    · rename_i heq; cases heq
    · rename_i z j p r' heq
      simp only [List.cons.injEq, Option.some.injEq] at heq
      obtain ⟨rfl, rfl⟩ := heq
      simp only [Option.map_eq_some_iff] at h
      obtain ⟨t, h1, rfl⟩ := h
      obtain ⟨a, b⟩ := strKeys_eq h1
      exact ⟨by simp [a], by simpa using b⟩
    · cases h
theorem pps_m {f : Expr → M W} (hf : ∀ e, PE X e (tE G E (f e))) {pos : Pos} : ∀ {ks : List (Option Expr)} {ss : List Str} {vs : List Expr}, strKeys ks = some ss → ks.length = vs.length → PPs X pos ks vs ((ss.zip vs).map fun p => (tC (.str p.1), tE G E (f p.2)))
  | [], ss, [], h, _ => by cases h; exact pps_nil
  | [], ss, _ :: _, h, hl => by cases hl
  | _ :: _, ss, [], h, hl => by cases hl
  | none :: r, ss, v :: vs, h, _ => by cases h
  | some e :: r, ss, v :: vs, h, hl => by
    unfold strKeys at h
    split at h
    · rename_i heq; cases heq
    · rename_i z j p r' heq
      simp only [List.cons.injEq, Option.some.injEq] at heq
      obtain ⟨rfl, rfl⟩ := heq
      simp only [Option.map_eq_some_iff] at h
      obtain ⟨t, h1, rfl⟩ := h
      exact pps_cons pe_str (hf v) (pps_m hf h1 (by simpa using hl))
    · cases h
theorem pairs_of {f : Expr → M W} {γ δ : Type} {S : List Addr → Hp → γ → δ → Prop} {Q : δ → Hp → Prop} {s : L2.St} : ∀ {ss : List Str} {vs : List Expr} {K : List W → M γ} {rho : List Addr} {m : Mu} {e : Ev} {H : Hp} {Q1 : List (V × V) → Hp → Prop}, ss.length = vs.length → RelMu G rho H m → RelSt G rho H e s →
    OkR G (E s) S Q rho H (mbind (mAll f vs) K e m) →
    (∀ r1 m1 H1 ws us, ws.length = vs.length → mbind (mAll f vs) K e m = K ws e m1 → Fr rho H r1 H1 → RelMu G r1 H1 m1 → RelSt G r1 H1 e s → RelWs G r1 H1 ws us → OkR G (E s) S Q r1 H1 (K ws e m1) → Q1 (ss.zip us |>.map fun p => (V.str p.1, p.2)) H1) →
    tPairs ((ss.zip vs).map fun p => (tC (.str p.1), tE G E (f p.2))) s H Q1
  | [], [], K, rho, m, e, H, Q1, _, rm, rs, ok, k => k rho m H [] [] rfl rfl (Fr.refl _ _) rm rs RelWs.nil ok
  | [], _ :: _, _, _, _, _, _, _, h, _, _, _, _ => by cases h
  | _ :: _, [], _, _, _, _, _, _, h, _, _, _, _ => by cases h
  | z :: ss, v :: vs, K, rho, m, e, H, Q1, hl, rm, rs, ok, k => by
    show tE G E (f v) s H fun y H2 => tPairs ((ss.zip vs).map fun p => (tC (.str p.1), tE G E (f p.2))) s H2 fun ps H3 => Q1 ((.str z, y) :: ps) H3
    have e1 : mbind (mAll f (v :: vs)) K = mbind (f v) (fun y => mbind (mAll f vs) fun ys => K (y :: ys)) := by
      show mbind (mbind (f v) fun y => mbind (mAll f vs) fun ys => mpure (y :: ys)) K = _
      rw [mbind_assoc]
      congr 1
      funext y
      rw [mbind_assoc]
      rfl
    have ok : OkR G (E s) S Q rho H (mbind (f v) (fun y => mbind (mAll f vs) fun ys => K (y :: ys)) e m) := by
      rw [← e1]; exact ok
    refine bindR' (S := S) (K := fun y => mbind (mAll f vs) fun ys => K (y :: ys)) rm rs ok fun r1 m1 H1 w y hF f1 rm1 rs1 ra ok1 => ?_
    refine pairs_of (K := fun ys => K (w :: ys)) (by simpa using hl) rm1 rs1 ok1 fun r2 m2 H2 ws us hw he f2 rm2 rs2 rws ok2 => ?_
    refine k r2 m2 H2 (w :: ws) (y :: us) (by simp [hw]) ?_ (f1.trans f2) rm2 rs2 (RelWs.cons (RelW.mono f2 _ _ ra) rws) ok2
    rw [e1, ← he]
    unfold mbind
    rw [hF]
    rfl
theorem pe_mdict {f : Expr → M W} (hf : ∀ e, PE X e (tE G E (f e))) {ks : List (Option Expr)} {vs : List Expr} {ss : List Str} {pos : Pos} (hk : strKeys ks = some ss) (hl : ks.length = vs.length) (h15 : ks.length ≤ 15) : PE X (.Dict ks vs pos) (tE G E (mbind (mAll f vs) fun ws => mval (dictM ss ws))) := by
  obtain ⟨h1, h2⟩ := strKeys_eq hk
  cases ks with
  | nil =>
    cases vs with
    | cons _ _ => cases hl
    | nil =>
      cases hk
      refine PE.imp pe_dnewK fun s H Q h => ?_
      obtain ⟨rho, m, e, rm, rs, ok⟩ := h
      have ok : OkR G (E s) (RelW G) Q rho H (calmR (alloc (.dic []) m)) := ok
      exact fun p hp => okD (E := fun _ _ _ => False) rm (OkR.calm ok) (show RelK G rho H [] [] from rfl) hp
  | cons k0 kr =>
    refine PE.imp (pe_disp (pps_m hf hk hl) h2 hl (by simp) h15) fun s H Q h => ?_
    obtain ⟨rho, m, e, rm, rs, ok⟩ := h
    intro p hp
    have f0 : Fr rho H rho (upd H p (.dK [])) := fr_new hp _ (.inl rfl)
    refine pairs_of (S := RelW G) (Q := Q) (K := fun ws => mval (dictM ss ws)) (by rw [← h1]; exact hl) (rm.extra hp) (rs.mono f0) (OkR.later f0 ok) fun r1 m1 H1 ws us hw he f1 rm1 rs1 rws _ => ?_
    rw [he] at ok
    have hpr : p ∉ rho := rm.fresh hp
    obtain ⟨hp1, hn1⟩ := f1.keep p _ hpr upd_same
    refine ⟨hp1, (ss.zip us).map (fun q : Str × V => ((Sum.inr q.1 : Key), q.2)), by rw [List.map_map]; rfl, ?_, ?_⟩
    · rw [List.length_map, List.length_zip, ← rws.length, hw, ← hl, ← h1]; omega
    · have ok1 : OkR G (E s) (RelW G) Q rho H (calmR (if decide (ss.length = ws.length) && decide (ss.Nodup) && decide (ss.length ≤ 15) then alloc (.dic ((ss.zip ws).map fun p => (Sum.inr p.1, p.2))) m1 else .no)) := ok
      split at ok1
      · rename_i hc
        simp only [Bool.and_eq_true, decide_eq_true_eq] at hc
        have hmap : ((ss.zip us).map fun q : Str × V => ((Sum.inr q.1 : Key), q.2)).map (·.1) = ss.map Sum.inr := by
          have h3 : (ss.zip us).map (·.1) = ss := List.map_fst_zip (by rw [← rws.length, ← hc.1.1]; exact Nat.le_refl _)
          calc ((ss.zip us).map fun q : Str × V => ((Sum.inr q.1 : Key), q.2)).map (·.1) = ((ss.zip us).map (·.1)).map Sum.inr := by rw [List.map_map, List.map_map]; rfl
            _ = ss.map Sum.inr := by rw [h3]
        have hnd : ((([] : List (Key × V)) ++ (ss.zip us).map fun q : Str × V => ((Sum.inr q.1 : Key), q.2)).map (·.1)).Nodup := by
          rw [List.nil_append, hmap]
          exact List.Pairwise.map _ (fun a b h e => h (Sum.inr.inj e)) hc.1.2
        rw [merge_nd _ [] hnd, List.nil_append]
        have ok2 := OkR.calm (E' := fun _ _ _ => False) ok1
        have f01 := f0.trans f1
        have fv : Fv r1 H1 (r1 ++ [p]) (upd H1 p (.dK ((ss.zip us).map fun q : Str × V => ((Sum.inr q.1 : Key), q.2)))) :=
          ⟨List.prefix_append _ _, fun a xs h => by
            rw [upd_ne (fun z => by rw [z, hp1] at h; cases h)]; exact h, fun a o u h => by
            rw [upd_ne (fun z => by rw [z, hp1] at h; cases h)]; exact h⟩
        refine ok2 (r1 ++ [p]) _ _ ⟨⟨f01.pre.trans (List.prefix_append _ _), fun a xs h => fv.tup a xs (f01.tup a xs h), fun a o u h => fv.frz a o u (f01.frz a o u h)⟩, fun a o n h => ?_⟩ (rm1.push' _ hn1 fv (fun a ha => upd_ne fun z => hn1 (z ▸ ha)) (fun d vs e => ?_) ⟨_, upd_same, RelK.monoV fv _ _ (relK_zip hc.1.1 rws)⟩) ?_
        · obtain ⟨q1, q2⟩ := f01.keep a o n h
          have hap : a ≠ p := ne_of_none h hp
          exact ⟨by rw [upd_ne hap]; exact q1, by rw [List.mem_append, List.mem_singleton]; exact fun z => z.elim q2 hap⟩
        · rw [upd_ne (fun z => by rw [z, hp1] at e; cases e)]; exact e
        · unfold RelW
          exact ⟨p, rfl, by rw [← rm1.len]; simp⟩
      · exact ok1.elim
end
end Mach
/-! Mach6: the machine is sound: built-in functions, calls of defs. -/
namespace Mach
open PySem PySem.Spec PyProof.Rows L2
section
variable {P : Pg} {G : Gx} {call : Str → List W → Mu → Res W} {d : Nat} {E : L2.St → XK} {X : Cx} {c : Cs}
theorem relWs1 {rho : List Addr} {H : Hp} {w : W} {vs : List V} (h : RelWs G rho H [w] vs) : ∃ v, vs = [v] ∧ RelW G rho H w v := by
  unfold RelWs at h
  obtain ⟨v, r, rfl, a, b⟩ := h
  cases b
  exact ⟨v, rfl, a⟩
theorem relWs2 {rho : List Addr} {H : Hp} {w u : W} {vs : List V} (h : RelWs G rho H [w, u] vs) : ∃ v z, vs = [v, z] ∧ RelW G rho H w v ∧ RelW G rho H u z := by
  unfold RelWs at h
  obtain ⟨v, r, rfl, a, b⟩ := h
  obtain ⟨z, rfl, q⟩ := relWs1 b
  exact ⟨v, z, rfl, a, q⟩
theorem call_lenM (hK : G.K = X.K) : CallR X (.builtin "len") (rnM G (fun _ _ _ => False) lenM) := by
  rintro pins s st H xs us Q I rv ⟨rho, m, as, rm, ra, ok⟩
  unfold lenM at ok
  split at ok
  · rename_i z
    obtain ⟨v, rfl, q⟩ := relWs1 ra
    cases q
    split at ok
    · rename_i hz
      exact call_len pins s st H _ us Q I rv ⟨_, z.length, rfl, ⟨size_le hz, rfl⟩, okI' rm ok⟩
    · exact ok.elim
  · rename_i ws
    obtain ⟨v, rfl, q⟩ := relWs1 ra
    unfold RelW at q
    obtain ⟨a, vs, rfl, sq, r⟩ := q
    exact call_len pins s st H _ us Q I rv ⟨_, ws.length, rfl, .inr ⟨vs, hK ▸ sq, r.length⟩, okI' rm ok⟩
  · rename_i p
    obtain ⟨v, rfl, q⟩ := relWs1 ra
    unfold RelW at q
    obtain ⟨a, rfl, ep⟩ := q
    split at ok
    · rename_i ws hw
      obtain ⟨vs, sq, r⟩ := rm.seq ep hw
      exact call_len pins s st H _ us Q I rv ⟨_, ws.length, rfl, .inl ⟨vs, hK ▸ sq, r.length⟩, okI' rm ok⟩
    · exact ok.elim
  · exact ok.elim
theorem call_absM : CallR X (.builtin "abs") (rnM G (fun _ _ _ => False) absM) := by
  rintro pins s st H xs us Q I rv ⟨rho, m, as, rm, ra, ok⟩
  unfold absM at ok
  split at ok
  · rename_i i
    obtain ⟨v, rfl, q⟩ := relWs1 ra
    cases q
    exact call_abs pins s st H _ us Q I rv ⟨i, rfl, okI' rm ok⟩
  · exact ok.elim
theorem call_maxM (hc : X.calm = true) : CallR X (.builtin "max") (rnM G (fun _ _ _ => False) maxM) := by
  rintro pins s st H xs us Q I rv ⟨rho, m, as, rm, ra, ok⟩
  unfold maxM at ok
  split at ok
  · rename_i i j
    obtain ⟨v, z, rfl, q1, q2⟩ := relWs2 ra
    cases q1; cases q2
    exact call_max2 hc pins s st H _ us Q I rv ⟨i, j, rfl, okI' rm ok⟩
  · exact ok.elim
theorem call_minM (hc : X.calm = true) : CallR X (.builtin "min") (rnM G (fun _ _ _ => False) minM) := by
  rintro pins s st H xs us Q I rv ⟨rho, m, as, rm, ra, ok⟩
  unfold minM at ok
  split at ok
  · rename_i i j
    obtain ⟨v, z, rfl, q1, q2⟩ := relWs2 ra
    cases q1; cases q2
    exact call_min2 hc pins s st H _ us Q I rv ⟨i, j, rfl, okI' rm ok⟩
  · exact ok.elim
theorem call_intM : CallR X (.type "int") (rnM G (fun _ _ _ => False) intM) := by
  rintro pins s st H xs us Q I rv ⟨rho, m, as, rm, ra, ok⟩
  unfold intM at ok
  split at ok
  · rename_i i
    obtain ⟨v, rfl, q⟩ := relWs1 ra
    cases q
    exact call_int1 pins s st H _ us Q I rv (.inl ⟨i, rfl, okI' rm ok⟩)
  · rename_i k
    obtain ⟨v, rfl, q⟩ := relWs1 ra
    cases q
    exact call_int1 pins s st H _ us Q I rv (.inr ⟨k, rfl, okI' rm ok⟩)
  · exact ok.elim
theorem allB_rel {rho : List Addr} {H : Hp} : ∀ {xs : List W} {bs : List Bool} {vs : List V}, allB xs = some bs → RelWs G rho H xs vs → vs = bs.map V.bl
  | [], bs, vs, h, r => by cases h; cases r; rfl
  | x :: xs, bs, vs, h, r => by
    cases x with
    | bl b =>
      have h : (allB xs).map (b :: ·) = some bs := h
      simp only [Option.map_eq_some_iff] at h
      obtain ⟨t, h1, rfl⟩ := h
      unfold RelWs at r
      obtain ⟨v, r', rfl, a, b'⟩ := r
      cases a
      rw [allB_rel h1 b']
      rfl
    | _ => cases h
theorem call_allM (hK : G.K = X.K) (hc : X.calm = true) : CallR X (.builtin "all") (rnM G (fun _ _ _ => False) allM) := by
  rintro pins s st H xs us Q I rv ⟨rho, m, as, rm, ra, ok⟩
  unfold allM at ok
  split at ok
  · rename_i p
    obtain ⟨v, rfl, q⟩ := relWs1 ra
    unfold RelW at q
    obtain ⟨a, rfl, ep⟩ := q
    split at ok
    · rename_i bs hb
      obtain ⟨ws, h1, h2⟩ := Option.bind_eq_some_iff.mp hb
      obtain ⟨vs, sq, r⟩ := rm.seq ep h1
      have e := allB_rel h2 r
      subst e
      exact cr_all hc pins s st H _ us Q I rv ⟨a, bs, rfl, hK ▸ sq, okB' rm ok⟩
    · exact ok.elim
  · exact ok.elim
theorem call_anyM (hK : G.K = X.K) (hc : X.calm = true) : CallR X (.builtin "any") (rnM G (fun _ _ _ => False) anyM) := by
  rintro pins s st H xs us Q I rv ⟨rho, m, as, rm, ra, ok⟩
  unfold anyM at ok
  split at ok
  · rename_i p
    obtain ⟨v, rfl, q⟩ := relWs1 ra
    unfold RelW at q
    obtain ⟨a, rfl, ep⟩ := q
    split at ok
    · rename_i bs hb
      obtain ⟨ws, h1, h2⟩ := Option.bind_eq_some_iff.mp hb
      obtain ⟨vs, sq, r⟩ := rm.seq ep h1
      have e := allB_rel h2 r
      subst e
      exact cr_any hc pins s st H _ us Q I rv ⟨a, bs, rfl, hK ▸ sq, okB' rm ok⟩
    · exact ok.elim
  · exact ok.elim

/-! ### repr -/
section
variable {rho : List Addr} {H : Hp} {m : Mu} {pins : List (Addr × Obj)} {st : L2.St} {s : Shared}
theorem reads_all (hn : H sysModules = none) {n : Nat} (ih : ∀ (w : W) (v : V) (u : Value) (d : PyData), toD m n w = some d → RelW G rho H w v → RelV v u → ∃ as, Reads s.heap u d as ∧ sysModules ∉ as) :
    ∀ (xs : List W) (vs : List V) (us : List Value) (ds : List PyData), optAll (toD m n) xs = some ds → RelWs G rho H xs vs → Vals vs us → ∃ as, ReadsAll s.heap us ds as ∧ sysModules ∉ as
  | [], vs, us, ds, h, r, rv => by cases h; cases r; cases rv; exact ⟨[], .nil, by simp⟩
  | x :: xs, vs, us, ds, h, r, rv => by
    obtain ⟨y, ys, h1, h2, rfl⟩ := optAll_cons h
    unfold RelWs at r
    obtain ⟨v, r', rfl, ra, rb⟩ := r
    cases rv with
    | cons rv1 rv2 =>
      obtain ⟨as, q1, n1⟩ := ih x v _ y h1 ra rv1
      obtain ⟨bs, q2, n2⟩ := reads_all hn ih xs r' _ ys h2 rb rv2
      exact ⟨as ++ bs, .cons q1 q2, by rw [List.mem_append]; exact fun z => z.elim n1 n2⟩
theorem reads_kv (hn : H sysModules = none) {n : Nat} (ih : ∀ (w : W) (v : V) (u : Value) (d : PyData), toD m n w = some d → RelW G rho H w v → RelV v u → ∃ as, Reads s.heap u d as ∧ sysModules ∉ as) :
    ∀ (xs : List (Key × W)) (vs : List (Key × V)) (us : List (Key × Value)) (ds : List (PyData × PyData)), optAll (fun p => (toD m n p.2).map fun d => (keyD p.1, d)) xs = some ds → RelK G rho H xs vs → KV vs us →
      ∃ bs, ReadsAll s.heap (us.map (·.2)) (ds.map (·.2)) bs ∧ sysModules ∉ bs ∧ ds.map (·.1) = us.map (fun p => keyD p.1)
  | [], vs, us, ds, h, r, rv => by cases h; cases r; cases rv; exact ⟨[], .nil, by simp, rfl⟩
  | (k, x) :: xs, vs, us, ds, h, r, rv => by
    obtain ⟨y, ys, h1, h2, rfl⟩ := optAll_cons h
    simp only [Option.map_eq_some_iff] at h1
    obtain ⟨dd, h1, rfl⟩ := h1
    unfold RelK at r
    obtain ⟨v, r', rfl, ra, rb⟩ := r
    cases rv with
    | @cons _ b _ _ rv1 rv2 =>
      obtain ⟨b1, b2⟩ := b
      obtain ⟨e1, e2⟩ := rv1
      obtain ⟨as, q1, n1⟩ := ih x v _ dd h1 ra e2
      obtain ⟨bs, q2, n2, q3⟩ := reads_kv hn ih xs r' _ ys h2 rb rv2
      refine ⟨as ++ bs, .cons q1 q2, by rw [List.mem_append]; exact fun z => z.elim n1 n2, ?_⟩
      have e1 : k = b1 := e1
      subst e1
      simp [q3]
theorem reads_keys {pr : Program} {w : World} {hh : Heap} : ∀ {es : List DictEntry} {us : List (Key × Value)}, Pairs (mixKind pr w) es us → ReadsAll hh (es.map (·.key)) (us.map fun p => keyD p.1) [] ∧ es.map (·.val) = us.map (·.2)
  | _, _, .nil => ⟨.nil, rfl⟩
  | _, _, .cons (e := e) (kv := kv) h1 h2 h3 => by
    obtain ⟨q, q'⟩ := reads_keys (hh := hh) h3
    have q1 : Reads hh e.key (keyD kv.1) [] := by
      rcases keyIs_shape h1 with ⟨i, t, e1, e2⟩ | ⟨z, t, e1, e2⟩
      · rw [e1, e2]; exact .int i t
      · rw [e1, e2]; exact .str z t
    exact ⟨.cons (as := []) (bs := []) q1 q, by simp [h2, q']⟩
theorem reads_of (hK : G.K = X.K) (I : Inv X pins st H s) (hn : H sysModules = none) (rm : RelMu G rho H m) : ∀ (n : Nat) (w : W) (v : V) (u : Value) (d : PyData), toD m n w = some d → RelW G rho H w v → RelV v u → ∃ as, Reads s.heap u d as ∧ sysModules ∉ as
  | 0, w, v, u, d, h, _, _ => by simp [toD] at h
  | n + 1, .non, v, u, d, h, r, rv => by cases r; cases rv; simp [toD] at h; subst h; exact ⟨[], .none, by simp⟩
  | n + 1, .bl b, v, u, d, h, r, rv => by cases r; cases rv; simp [toD] at h; subst h; exact ⟨[], .bool b, by simp⟩
  | n + 1, .int i, v, u, d, h, r, rv => by cases r; obtain ⟨t, rfl⟩ := rv; simp [toD] at h; subst h; exact ⟨[], .int i t, by simp⟩
  | n + 1, .str i, v, u, d, h, r, rv => by cases r; obtain ⟨t, rfl⟩ := rv; simp [toD] at h; subst h; exact ⟨[], .str i t, by simp⟩
  | n + 1, .tup xs, v, u, d, h, r, rv => by
    unfold RelW at r
    obtain ⟨a, vs, rfl, sq, rs⟩ := r
    cases (show u = Value.ref a from rv)
    unfold toD at h
    simp only [Option.map_eq_some_iff] at h
    obtain ⟨ds, e, rfl⟩ := h
    obtain ⟨its, rvs, ⟨o, h1, h2, k, h3⟩, _⟩ := I.tuple (hK ▸ sq)
    obtain ⟨as, q, nq⟩ := reads_all hn (reads_of hK I hn rm n) xs vs its ds e rs rvs
    exact ⟨as, .tuple h1 h2 h3 (by simpa using q), nq⟩
  | n + 1, .ref k, v, u, d, h, r, rv => by
    unfold RelW at r
    obtain ⟨a, rfl, ea⟩ := r
    cases (show u = Value.ref a from rv)
    have ha : a ≠ sysModules := fun z => by
      obtain ⟨u, q⟩ := rm.there ea
      rw [z, hn] at q
      cases q
    unfold toD at h
    cases e0 : m[k]? with
    | none => rw [e0] at h; cases h
    | some o =>
      rw [e0] at h
      have key : ∀ (xs : List W) (vs : List V) (its : List Value) (nn : Nat), RelWs G rho H xs vs → Vals vs its → s.heap.get? a = some { cls := .type "list", data := .seq its.toArray nn } → (optAll (toD m n) xs).map PyData.list = some d → ∃ as, Reads s.heap (.ref a) d as ∧ sysModules ∉ as := by
        intro xs vs its nn rs rvs hg h
        simp only [Option.map_eq_some_iff] at h
        obtain ⟨ds, e, rfl⟩ := h
        obtain ⟨as, q, nq⟩ := reads_all hn (reads_of hK I hn rm n) xs vs its ds e rs rvs
        exact ⟨a :: as, .list hg rfl rfl (by simpa using q), by rw [List.mem_cons]; exact fun z => z.elim (fun z => ha z.symm) nq⟩
      cases o with
      | lst xs =>
        obtain ⟨vs, h1, rs⟩ := rm.lst ea e0
        obtain ⟨_, its, nn, rvs, hg⟩ := (show ObjOk X.prog X.w H s.heap a (.lst vs) from I.hok a _ h1)
        exact key xs vs its nn rs rvs hg h
      | ro xs =>
        obtain ⟨ob, vs, h1, rs⟩ := rm.ro ea e0
        obtain ⟨_, _, its, nn, rvs, hg⟩ := (show ObjOk X.prog X.w H s.heap a (.frz ob (.lst vs)) from I.hok a _ h1)
        exact key xs vs its nn rs rvs hg h
      | dic kvs =>
        obtain ⟨vs, h1, rs⟩ := rm.dic ea e0
        simp only [Option.map_eq_some_iff] at h
        obtain ⟨ds, e, rfl⟩ := h
        obtain ⟨_, _, us, rk, ob, es, ep, hg, hx, hd, _, hp, _⟩ := dk_of I.hok h1
        obtain ⟨bs, q, nq, hk⟩ := reads_kv hn (reads_of hK I hn rm n) kvs vs us ds e rs rk
        obtain ⟨q1, q2⟩ := reads_keys (hh := s.heap) hp
        refine ⟨a :: [] ++ bs, .dict (as := []) hg hx.1 hd (by rw [hk]; exact q1) (by rw [q2]; exact q), ?_⟩
        rw [List.mem_append, List.mem_singleton]
        exact fun z => z.elim (fun z => ha z.symm) nq
      | ins _ _ => cases h
      | exc _ _ => cases h
end
theorem call_reprM (C : Ctx P G call d E X c) : CallR X (.builtin "repr") (rnM G (fun _ _ _ => False) reprM) := by
  rintro pins s st H xs us Q I rv ⟨rho, m, as, rm, ra, ok⟩
  have hn : H sysModules = none := by
    obtain ⟨o, ho⟩ := C.hyp.sys
    rw [C.K] at ho
    exact (I.bs _ _ (I.ok.mod.kin _ _ ho)).2
  unfold reprM at ok
  split at ok
  · rename_i w
    obtain ⟨v, rfl, q⟩ := relWs1 ra
    split at ok
    · rename_i dd hd
      split at ok
      · rename_i hz
        rw [Bool.and_eq_true] at hz
        obtain ⟨u, rfl, ru⟩ := vals1 rv
        obtain ⟨bs, hr, hs⟩ := reads_of C.K I hn rm dFuel w v u dd hd q ru
        have hdp : dd.depth ≤ 63 := depth_of m dFuel w dd hd
        have hu : X.A.units + 150 < cLine := C.units
        have fin : ∀ (h' : Heap) (tk tk' : Nat), (∀ b o, s.heap.get? b = some o → h'.get? b = some o) → EP X pins st Q (.str dd.shown tk) { s with heap := h', toks := tk' } := fun h' tk tk' k =>
          ⟨.str dd.shown, H, I.kept k, ⟨tk, rfl⟩, okw rm ok rfl⟩
        have hgt : X.A.guards = some [] := C.guards
        have hsz : dd.shown.length ≤ sizeLine := size_le hz.2
        have hsh : dd.showable = true := hz.1
        cases hr with
        | none => exact call_repr_gives (typeIs_none s) F.slot_NoneType_repr F.entry_NoneType_repr (F.args_NoneType_repr_1 _) gives_none_repr (fin s.heap _ _ fun _ _ e => e) rfl (by decide)
        | bool b => exact call_repr_gives (PySem.typeIs_bool s b) F.slot_bool_repr F.entry_bool_repr (F.args_bool_repr_1 _) (gives_bool_repr b) (fin s.heap _ _ fun _ _ e => e) rfl (by cases b <;> decide)
        | int i t => exact call_repr_gives (typeIs_int s i t) F.slot_int_repr F.entry_int_repr (F.args_int_repr_1 _) (gives_int_repr i t (by simpa [PyData.showable] using hsh)) (fin s.heap _ _ fun _ _ e => e) rfl (int_text_fits (by simpa [PyData.showable] using hsh))
        | str x t => exact call_repr_gives (typeIs_str s x t) F.slot_str_repr F.entry_str_repr (F.args_str_repr_1 _) (gives_str_repr x t) (fin s.heap _ _ fun _ _ e => e) rfl hsz
        | list h1 h2 h3 h4 => exact repr_of_reads' (.list h1 h2 h3 h4) hsh (fun _ => hs) hgt (by omega) (fun _ _ e => e) (fun h' u tk k => fin h' u tk k) hsz
        | tuple h1 h2 h3 h4 => exact repr_of_reads' (.tuple h1 h2 h3 h4) hsh (fun _ => hs) hgt (by omega) (fun _ _ e => e) (fun h' u tk k => fin h' u tk k) hsz
        | dict h1 h2 h3 h4 h5 => exact repr_of_reads' (.dict h1 h2 h3 h4 h5) hsh (fun _ => hs) hgt (by omega) (fun _ _ e => e) (fun h' u tk k => fin h' u tk k) hsz
      · exact ok.elim
    · exact ok.elim
  · exact ok.elim
/-! ### a built-in's call -/
theorem pe_mblt0 (C : Ctx P G call d E X c) {f : Str} {id : String} {F : List W → Mu → Res W} {g : Expr → M W} (hf : ∀ e, PE X e (tE G E (g e))) {args : List Expr} {p pos : Pos} (hc : CallR X (.builtin id) (rnM G (fun _ _ _ => False) F)) (hgl : glB c f = true) (hp : plainN f = true) (hfr : P.free f = true) (hst : args.all noStar = true)
    (hv : bootBuiltins f = some (.builtin id)) (h0 : ∀ m, F [] m = .no) : PE X (.Call (.Name f p) args [] pos) (tE G E (mbind (mAll g args) fun ws => mval (F ws))) := by
  cases args with
  | nil =>
    refine ⟨fun pins s st H Q I h => ?_⟩
    obtain ⟨rho, m, e, rm, rs, ok⟩ := h
    have ok : OkR G (E st) (RelW G) Q rho H (calmR (F [] m)) := ok
    rw [h0] at ok
    exact ok.elim
  | cons a as =>
    have hst' := hst
    rw [List.all_cons, Bool.and_eq_true] at hst'
    have hpl : (backTo pos (starEach as X.env)).any (·.1) = false := by
      clear hst
      have : ∀ l : List Expr, l.all noStar = true → (backTo pos (starEach l X.env)).any (·.1) = false := by
        intro l
        induction l with
        | nil => intro _; rfl
        | cons x l ih =>
          intro h
          rw [List.all_cons, Bool.and_eq_true] at h
          rw [star_ok h.1]
          show (false || (backTo pos (starEach l X.env)).any (·.1)) = false
          rw [ih h.2]; rfl
      exact this as hst'.2
    refine PE.imp (pe_callB (CallR.calm hc) (gl_ok C hgl) (C.hyp.free f hfr) hv (pa_mall hf (a :: as) hst) (plain_ok hp).2.2 (plain_ok hp).1 (star_ok hst'.1) hpl) fun s H Q h => ?_
    obtain ⟨rho, m, e, rm, rs, ok⟩ := h
    refine bindR (S := RelW G) (K := fun ws => mval (F ws)) rm rs ok fun r1 m1 H1 ws vs f1 rm1 rs1 ra ok1 => ?_
    exact ⟨r1, m1, ws, rm1, ra, OkR.calm' (x := F ws m1) ok1⟩
theorem no_star (env : Env) (pos : Pos) : ∀ l : List Expr, l.all noStar = true → (backTo pos (starEach l env)).any (·.1) = false
  | [], _ => rfl
  | x :: l, h => by
    rw [List.all_cons, Bool.and_eq_true] at h
    rw [star_ok h.1]
    show (false || (backTo pos (starEach l env)).any (·.1)) = false
    rw [no_star env pos l h.2]; rfl
theorem pe_mint (C : Ctx P G call d E X c) {g : Expr → M W} (hf : ∀ e, PE X e (tE G E (g e))) {args : List Expr} {p pos : Pos} (hgl : glB c "int" = true) (hp : plainN "int" = true) (hfr : P.free "int" = true) (hst : args.all noStar = true) :
    PE X (.Call (.Name "int" p) args [] pos) (tE G E (mbind (mAll g args) fun ws => mval (intM ws))) := by
  cases args with
  | nil =>
    refine ⟨fun pins s st H Q I h => ?_⟩
    obtain ⟨rho, m, e, rm, rs, ok⟩ := h
    have ok : OkR G (E st) (RelW G) Q rho H (calmR .no) := ok
    exact ok.elim
  | cons a as =>
    have hst' := hst
    rw [List.all_cons, Bool.and_eq_true] at hst'
    refine PE.imp (pe_callTy (CallR.calm (call_intM (G := G))) (gl_ok C hgl) (C.hyp.free _ hfr) PyProof.Rows.boot_int (pa_mall hf (a :: as) hst) (plain_ok hp).2.2 (plain_ok hp).1 (star_ok hst'.1) (no_star _ _ as hst'.2)) fun s H Q h => ?_
    obtain ⟨rho, m, e, rm, rs, ok⟩ := h
    refine bindR (S := RelW G) (K := fun ws => mval (intM ws)) rm rs ok fun r1 m1 H1 ws vs f1 rm1 rs1 ra ok1 => ?_
    exact ⟨r1, m1, ws, rm1, ra, OkR.calm' (x := intM ws m1) ok1⟩
theorem pe_mblt (C : Ctx P G call d E X c) {f : Str} {g : Expr → M W} (hf : ∀ e, PE X e (tE G E (g e))) {args : List Expr} {p pos : Pos} (hgl : glB c f = true) (hp : plainN f = true) (hfr : P.free f = true) (hkn : knownB f = true) (hst : args.all noStar = true) :
    PE X (.Call (.Name f p) args [] pos) (tE G E (mbind (mAll g args) fun ws => mval (bltM f ws))) := by
  unfold bltM
  by_cases h1 : f = "len"
  · subst h1; simp only [if_true]; exact pe_mblt0 C hf (call_lenM C.K) hgl hp hfr hst boot_len fun _ => rfl
  by_cases h2 : f = "abs"
  · subst h2; simp only [if_neg h1, if_true]; exact pe_mblt0 C hf call_absM hgl hp hfr hst PyProof.Rows.boot_abs fun _ => rfl
  by_cases h3 : f = "max"
  · subst h3; simp only [if_neg h1, if_neg h2, if_true]; exact pe_mblt0 C hf (call_maxM C.calm) hgl hp hfr hst PyProof.Rows.boot_max fun _ => rfl
  by_cases h4 : f = "min"
  · subst h4; simp only [if_neg h1, if_neg h2, if_neg h3, if_true]; exact pe_mblt0 C hf (call_minM C.calm) hgl hp hfr hst PyProof.Rows.boot_min fun _ => rfl
  by_cases h5 : f = "int"
  · subst h5; simp only [if_neg h1, if_neg h2, if_neg h3, if_neg h4, if_true]; exact pe_mint C hf hgl hp hfr hst
  by_cases h6 : f = "all"
  · subst h6; simp only [if_neg h1, if_neg h2, if_neg h3, if_neg h4, if_neg h5, if_true]; exact pe_mblt0 C hf (call_allM C.K C.calm) hgl hp hfr hst PyProof.Rows.boot_all fun _ => rfl
  by_cases h7 : f = "any"
  · subst h7; simp only [if_neg h1, if_neg h2, if_neg h3, if_neg h4, if_neg h5, if_neg h6, if_true]; exact pe_mblt0 C hf (call_anyM C.K C.calm) hgl hp hfr hst PyProof.Rows.boot_any fun _ => rfl
  by_cases h8 : f = "repr"
  · subst h8; simp only [if_neg h1, if_neg h2, if_neg h3, if_neg h4, if_neg h5, if_neg h6, if_neg h7, if_true]; exact pe_mblt0 C hf (call_reprM C) hgl hp hfr hst PyProof.Rows.boot_repr fun _ => rfl
  simp only [knownB, h1, h2, h3, h4, h5, h6, h7, h8, decide_false, Bool.or_self, Bool.false_eq_true] at hkn
/-! ### a def's call -/
theorem run_fnG {pins : List (Addr × Obj)} {st : L2.St} {H : Hp} {s : Shared} {Q : VK} {us : List Value} {vs : List V} {f : Addr} {fd : FuncData} {ps : List Str} {sp : Sp} (C : Ctx P G call d E X c) (F : FnG X.prog X.w X.K X.mg X.base d f fd ps sp) (hb : Binds X.K fd ps [])
    (I : Inv X pins st H s) (r : Vals vs us) (hl : vs.length = ps.length) (h : sp vs H Q (E st)) : wpAny (model X.prog X.w) X.A (PySem.call (.ref f) us) (EP X pins st Q) X.xe s := by
  have hb' := hb s us I.kIn (by rw [List.append_nil, ← r.length]; exact hl)
  rw [List.append_nil] at hb'
  refine wpAny_call (codeAny_mono (F.run X.A X.stack s H ⟨us, []⟩ us vs Q (E st) C.room C.guards I.env0 hb' r h) fun rr s' hq => ?_)
  cases rr with
  | error er => exact C.pass pins st H s er s' I hq
  | ok fl => cases fl with
    | ret u => exact I.after hq
    | next => exact False.elim hq
    | brk => exact False.elim hq
    | cont => exact False.elim hq
theorem pe_mfn (C : Ctx P G call d E X c) {f : Str} {i : FnI} {g : Expr → M W} (hf : ∀ e, PE X e (tE G E (g e))) {args : List Expr} {p pos : Pos} (hgl : glB c f = true) (hp : plainN f = true) (hi : P.fn f = some i) (hl : args.length = i.params.length) (hst : args.all noStar = true) :
    PE X (.Call (.Name f p) args [] pos) (tE G E (mbind (mAll g args) fun ws => fun _ m => call f ws m)) := by
  obtain ⟨a, fd, h1, h2, h3, h4⟩ := C.hyp.fn f i hi
  rw [C.K] at h2 h3 h4
  refine ⟨fun pins s st H Q I h => ?_⟩
  refine wpAny_Call_Name_kw (ld_glob I (gl_ok C hgl) h1 ?_ (plain_ok hp).1)
  obtain ⟨rho, m, e, rm, rs, ok⟩ := h
  cases args with
  | nil =>
    have ok : OkR G (E st) (RelW G) Q rho H (call f [] m) := ok
    exact PySem.W.callWith_K0 I.kIn h2 (run_fnG (us := []) (vs := []) C h4 h3 I .nil hl ⟨hl, rho, m, [], rm, RelWs.nil, ok⟩)
  | cons e0 es =>
    have hst' := hst
    rw [List.all_cons, Bool.and_eq_true] at hst'
    have hA : tA G E (mAll g (e0 :: es)) st H fun vs H1 => vs.length = i.params.length ∧ spOf G i.params.length (call f) vs H1 Q (E st) :=
      bindA (S := RelW G) (K := fun ws => fun _ m => call f ws m) rm rs ok fun r1 m1 H1 ws vs hw f1 rm1 rs1 ra ok1 => by
        have hz : vs.length = i.params.length := by rw [← ra.length, hw]; exact hl
        exact ⟨hz, hz, r1, m1, ws, rm1, ra, ok1⟩
    refine PySem.W.callWith_K (h₀ := X.base) I.ok.mod.kin h2 (thn ((pa_mall hf (e0 :: es) hst).run pos pins s st H _ I hA) fun us s1 ⟨vs, H1, I1, rv, hz, q⟩ => ⟨I1.kIn, ?_⟩) (star_ok hst'.1) (no_star _ _ es hst'.2)
    exact run_fnG C h4 h3 I1 rv hz q
end
end Mach
/-! Mach7: the machine is sound: targets, what is walked, comprehensions, statements. -/
namespace Mach
open PySem PySem.Spec PyProof.Rows L2

/-- a target's reading -/
def tG (G : Gx) (F : W → Ev → Option Ev) (S : List Nat) : TG := fun v st H Q => ∃ rho m e w e', RelMu G rho H m ∧ RelSt G rho H e st ∧ RelW G rho H w v ∧ F w e = some e' ∧
  ∀ st', RelSt G rho H e' st' → (∀ i : Nat, i ∉ S → st'[i]? = st[i]?) → st'.length = st.length → Q st' H
theorem PG.imp {X : Cx} {e : Expr} {t t' : TG} (h : PG X e t) (k : ∀ v s H Q, t' v s H Q → t v s H Q) : PG X e t' := ⟨fun pins s st H v u Q I r q => h.run pins s st H v u Q I r (k _ _ _ _ q)⟩
def tgsL (f : Expr → TG) : List Expr → TGs
  | [] => gNil
  | e :: es => gCons (f e) (tgsL f es)
section
variable {P : Pg} {G : Gx} {call : Str → List W → Mu → Res W} {d : Nat} {E : L2.St → XK} {X : Cx} {c : Cs}
theorem RelSt.set {rho : List Addr} {H : Hp} {e : Ev} {st : L2.St} {w : W} {v : V} (h : RelSt G rho H e st) (r : RelW G rho H w v) (i : Nat) : RelSt G rho H (e.set i (some w)) (st.set i (some v)) := by
  refine ⟨by simp [h.1], fun j w' q => ?_⟩
  by_cases hj : j = i
  · subst hj
    have hl : j < e.length := by
      rcases Nat.lt_or_ge j e.length with z | z
      · exact z
      · rw [List.getElem?_eq_none (by simpa using z)] at q; cases q
    rw [List.getElem?_set_self hl] at q
    cases q
    exact ⟨v, List.getElem?_set_self (by rw [← h.1]; exact hl), r⟩
  · rw [List.getElem?_set_ne (Ne.symm hj)] at q ⊢
    exact h.2 j w' q
theorem each_ok {e : Expr} {es : List Expr} {env : Env} (h : noStar e = true) : assignEach (e :: es) env = (false, assign e env) :: assignEach es env := by
  cases e <;> first | rfl | cases h
theorem each_len {env : Env} : ∀ {es : List Expr}, es.all noStar = true → (assignEach es env).length = es.length ∧ (assignEach es env).findIdx? (·.1) = none
  | [], _ => ⟨rfl, rfl⟩
  | e :: es, h => by
    rw [List.all_cons, Bool.and_eq_true] at h
    obtain ⟨a, b⟩ := each_len (env := env) h.2
    rw [each_ok h.1]
    refine ⟨by simp [a], ?_⟩
    rw [List.findIdx?_cons]
    simp [b]
theorem pgs_L {f : Expr → TG} (hf : ∀ e, PG X e (f e)) : ∀ {es : List Expr}, es.all noStar = true → PGs X es (tgsL f es)
  | [], _ => pgs_nil
  | e :: es, h => by
    rw [List.all_cons, Bool.and_eq_true] at h
    exact pgs_cons (hf e) (pgs_L hf h.2) (by rw [each_ok h.1]; rfl)
theorem chain_of {r : Rc} {c : Cs} {rho : List Addr} {H : Hp} {m : Mu} (rm : RelMu G rho H m) : ∀ {es : List Expr} {ws : List W} {vs : List V} {st : L2.St} {e e' : Ev} {Q : L2.St → Hp → Prop}, RelSt G rho H e st → RelWs G rho H ws vs → stepA.go r c es ws e = some e' →
    (∀ st', RelSt G rho H e' st' → (∀ i : Nat, i ∉ tgS.go c es → st'[i]? = st[i]?) → st'.length = st.length → Q st' H) → tgsL (fun t => tG G (r.A c t) (tgS c t)) es vs st H Q
  | [], [], vs, st, e, e', Q, rs, rw_, h, k => by
    cases h; cases rw_
    exact ⟨rfl, k st rs (fun _ _ => rfl) rfl⟩
  | [], _ :: _, _, _, _, _, _, _, _, h, _ => by simp [stepA.go] at h
  | _ :: _, [], _, _, _, _, _, _, _, h, _ => by simp [stepA.go] at h
  | t :: ts, w :: ws, vs, st, e, e', Q, rs, rw_, h, k => by
    unfold RelWs at rw_
    obtain ⟨v, r', rfl, ra, rb⟩ := rw_
    have h : (r.A c t w e).bind (fun e' => stepA.go r c ts ws e') = some e' := h
    obtain ⟨e1, h1, h2⟩ := Option.bind_eq_some_iff.mp h
    refine ⟨v, r', rfl, rho, m, e, w, e1, rm, rs, ra, h1, fun st1 rs1 ag1 hl1 => ?_⟩
    refine chain_of rm rs1 rb h2 fun st2 rs2 ag2 hl2 => k st2 rs2 (fun i hi => ?_) (hl2.trans hl1)
    have hi : i ∉ tgS c t ++ tgS.go c ts := hi
    rw [List.mem_append] at hi
    exact (ag2 i fun z => hi (.inr z)).trans (ag1 i fun z => hi (.inl z))
theorem pg_step (C : Ctx P G call d E X c) {r : Rc} (ih : ∀ e, PG X e (tG G (r.A c e) (tgS c e))) (tg : Expr) : PG X tg (tG G (stepA r c tg) (tgS c tg)) := by
  have no : ∀ {F : W → Ev → Option Ev} {S : List Nat} {tg : Expr}, (∀ w e, F w e = none) → PG X tg (tG G F S) := fun {F S tg} hn => ⟨fun pins s st H v u Q I r q => by
    obtain ⟨rho, m, e, w, e', _, _, _, h, _⟩ := q
    rw [hn] at h
    cases h⟩
  cases tg with
  | Name x pos =>
    by_cases ha : asgB c x = true
    · cases hp : place x c.names 0 with
      | none => exact no fun w e => by simp [stepA, ha, hp]
      | some i =>
        have hx : L2.Loc X.env.scope x ∧ (X.fn x = true ∨ X.env.scope.names.lookup x = some .local) := by
          unfold L2.Loc
          rw [C.sc]
          have ha := ha
          unfold asgB at ha
          split at ha
          · rename_i e; exact ⟨.inl e, .inr e⟩
          · rename_i e
            exact ⟨.inr e, .inl (C.fnb (by simpa using ha) x)⟩
          · cases ha
        refine PG.imp (pg_name (by rw [C.N]; exact C.nd) (C.slot hp) hx.1 hx.2) fun v st H Q h => ?_
        obtain ⟨rho, m, e, w, e', rm, rs, ra, h, k⟩ := h
        have h : some (e.set i (some w)) = some e' := by simpa [stepA, ha, hp] using h
        cases h
        refine k _ (rs.set ra i) (fun j hj => ?_) (by simp)
        have hj : j ∉ (place x c.names 0).toList := hj
        rw [hp] at hj
        rw [List.getElem?_set_ne (fun z => hj (by simp [z]))]
    · exact no fun w e => by simp [stepA, ha]
  | Tuple es k pos =>
    by_cases hs : es.all noStar = true
    · obtain ⟨h1, h2⟩ := each_len (env := X.env) hs
      refine PG.imp (pg_tup C.calm (pgs_L ih hs) h1 h2) fun v st H Q h => ?_
      obtain ⟨rho, m, e, w, e', rm, rs, ra, h, k⟩ := h
      cases w with
      | tup ws =>
        have h : (if decide (es.length = ws.length) && es.all noStar then stepA.go r c es ws e else none) = some e' := h
        split at h
        · rename_i hc
          rw [Bool.and_eq_true, decide_eq_true_eq] at hc
          unfold RelW at ra
          obtain ⟨a, vs, rfl, sq, rws⟩ := ra
          exact ⟨a, vs, rfl, C.K ▸ sq, by rw [← rws.length]; exact hc.1.symm, chain_of rm rs rws h k⟩
        · cases h
      | _ => cases h
    · exact no fun w e => by
        cases w with
        | tup ws => simp [stepA, hs]
        | _ => rfl
  | _ => exact no fun w e => by cases w <;> rfl

/-! ### what is walked -/
def ItOk (G : Gx) (rho : List Addr) (H : Hp) (it : Itr) (J : It) : Prop := ∀ rho' H' m (i : Nat), Fr rho H rho' H' → RelMu G rho' H' m →
  match nextI it i m with
  | none => True
  | some none => J.stop i H'
  | some (some w) => J.go i H' ∧ ∀ x H2, J.yld i H' x H2 → Fr rho' H' rho' H2 ∧ RelMu G rho' H2 m ∧ RelW G rho' H2 w x
abbrev tI (G : Gx) (E : L2.St → XK) (F : M Itr) : TI := tR G E (ItOk G) F
theorem PI.imp {X : Cx} {tg iter : Expr} {t t' : TI} (h : PI X tg iter t) (k : ∀ s H Q, t' s H Q → t s H Q) : PI X tg iter t' := ⟨fun pins s st H R I q => h.run pins s st H R I (k _ _ _ q)⟩
theorem PI.or {X : Cx} {tg iter : Expr} {t t' : TI} (h : PI X tg iter t) (h' : PI X tg iter t') : PI X tg iter (fun s H Q => t s H Q ∨ t' s H Q) :=
  ⟨fun pins s st H R I q => q.elim (h.run pins s st H R I) (h'.run pins s st H R I)⟩
theorem PI.no {X : Cx} {tg iter : Expr} : PI X tg iter (tI G E mno) := ⟨fun _ _ _ _ _ _ h => by obtain ⟨_, _, _, _, _, q⟩ := h; exact q.elim⟩
theorem itok_tup (hK : G.K = X.K) {rho : List Addr} {H : Hp} {a : Addr} {xs : List W} {vs : List V} (sq : SqT G.K H a vs) (r : RelWs G rho H xs vs) : ItOk G rho H (.seq xs) (Itt X.K a) := by
  intro rho' H' m i f rm
  have sq' : SqT X.K H' a vs := hK ▸ f.toFv.sqt sq
  have r' := RelWs.mono f _ _ r
  show (match some xs[i]? with | none => True | some none => _ | some (some w) => _)
  cases hx : xs[i]? with
  | none =>
    have : xs.length ≤ i := List.getElem?_eq_none_iff.mp hx
    exact ⟨vs, sq', by rw [← r.length]; exact this⟩
  | some w =>
    obtain ⟨v, q1, q2⟩ := r'.get hx
    refine ⟨⟨vs, v, sq', q1⟩, fun x H2 y => ?_⟩
    obtain ⟨rfl, y⟩ := y
    have e := y vs sq'
    rw [q1] at e
    cases e
    exact ⟨Fr.refl _ _, rm, q2⟩
theorem itok_lst (hK : G.K = X.K) {rho : List Addr} {H : Hp} {a : Addr} {p : Nat} (e : rho[p]? = some a) : ItOk G rho H (.lst p) (Itl X.K a) := by
  intro rho' H' m i f rm
  show (match (seqM m p).map (fun xs => xs[i]?) with | none => True | some none => _ | some (some w) => _)
  cases hs : seqM m p with
  | none => exact True.intro
  | some xs =>
    obtain ⟨vs, sq, r⟩ := rm.seq (pre_get f.pre e) hs
    rw [hK] at sq
    show (match some xs[i]? with | none => True | some none => _ | some (some w) => _)
    cases hx : xs[i]? with
    | none =>
      have : xs.length ≤ i := List.getElem?_eq_none_iff.mp hx
      exact ⟨vs, sq, by rw [← r.length]; exact this⟩
    | some w =>
      obtain ⟨v, q1, q2⟩ := r.get hx
      refine ⟨⟨vs, v, sq, q1⟩, fun x H2 y => ?_⟩
      obtain ⟨rfl, y⟩ := y
      have e := y vs sq
      rw [q1] at e
      cases e
      exact ⟨Fr.refl _ _, rm, q2⟩
theorem itok_enum (hK : G.K = X.K) {rho : List Addr} {H : Hp} {a : Addr} {p : Nat} (e : rho[p]? = some a) : ItOk G rho H (.enum p) (Ite X.K a) := by
  intro rho' H' m i f rm
  show (match (seqM m p).map (fun xs => xs[i]?.map fun w => W.tup [.int i, w]) with | none => True | some none => _ | some (some w) => _)
  cases hs : seqM m p with
  | none => exact True.intro
  | some xs =>
    obtain ⟨vs, sq, r⟩ := rm.seq (pre_get f.pre e) hs
    rw [hK] at sq
    show (match some (xs[i]?.map fun w => W.tup [.int i, w]) with | none => True | some none => _ | some (some w) => _)
    cases hx : xs[i]? with
    | none =>
      have : xs.length ≤ i := List.getElem?_eq_none_iff.mp hx
      exact ⟨vs, sq, by rw [← r.length]; exact this⟩
    | some w =>
      obtain ⟨v, q1, q2⟩ := r.get hx
      refine ⟨⟨vs, v, sq, q1⟩, fun x H2 y => ?_⟩
      obtain ⟨T, z, rfl, hT, rfl, y⟩ := y
      have e := y vs sq
      rw [q1] at e
      cases e
      have fr : Fr rho' H' rho' (upd H' T (.tup [.int (i : Nat), v])) := fr_new hT _ (.inl rfl)
      refine ⟨fr, rm.extra hT, ?_⟩
      unfold RelW
      exact ⟨T, _, rfl, .inl (.inl upd_same), RelWs.cons rfl (RelWs.cons (RelW.mono fr _ _ q2) RelWs.nil)⟩
theorem itok_rng {rho : List Addr} {H : Hp} {n : Nat} : ItOk G rho H (.seq ((List.range n).map fun i => .int (i : Nat))) (L2.Itr 0 n) := by
  intro rho' H' m i f rm
  show (match some ((List.range n).map fun i => W.int (i : Nat))[i]? with | none => True | some none => _ | some (some w) => _)
  rcases Nat.lt_or_ge i n with h | h
  · have e : ((List.range n).map fun i => W.int (i : Nat))[i]? = some (.int (i : Nat)) := by simp [h]
    rw [e]
    refine ⟨h, fun x H2 y => ?_⟩
    obtain ⟨rfl, rfl⟩ := y
    refine ⟨Fr.refl _ _, rm, ?_⟩
    show V.int (0 + (i : Int)) = V.int (i : Int)
    rw [Int.zero_add]
  · have e : ((List.range n).map fun i => W.int (i : Nat))[i]? = none := by simp [h]
    rw [e]
    exact h
theorem iter_of (C : Ctx P G call d E X c) {A : M W} {tg e : Expr} (he : PE X e (tE G E A)) : PI X tg e (tI G E (mbind A fun w => fun _ m => match w with
      | .ref p => (match seqM m p with
        | some _ => .ok (.lst p) m
        | none => .no)
      | .tup xs => .ok (.seq xs) m
      | _ => .no)) := by
  refine PI.imp (PI.or (pi_list he) (pi_tup he)) fun s H R h => ?_
  obtain ⟨rho, m, ev, rm, rs, ok⟩ := h
  have ok : OkR G (E s) (ItOk G) R rho H ((A ev m).bind fun w m => match w with
      | .ref p => (match seqM m p with
        | some _ => .ok (.lst p) m
        | none => .no)
      | .tup xs => .ok (.seq xs) m
      | _ => .no) := ok
  cases hA : A ev m with
  | no => rw [hA] at ok; exact ok.elim
  | err cc fs m1 => rw [hA] at ok; exact .inl ⟨rho, m, ev, rm, rs, by rw [hA]; exact ok⟩
  | ok w m1 =>
    rw [hA] at ok
    cases w with
    | ref p =>
      have ok : OkR G (E s) (ItOk G) R rho H (match seqM m1 p with
        | some _ => .ok (.lst p) m1
        | none => .no) := ok
      cases hs : seqM m1 p with
      | none => rw [hs] at ok; exact ok.elim
      | some xs =>
        rw [hs] at ok
        refine .inl ⟨rho, m, ev, rm, rs, ?_⟩
        rw [hA]
        intro r1 H1 b f1 rm1 rb
        unfold RelW at rb
        obtain ⟨a, rfl, ea⟩ := rb
        obtain ⟨vs, sq, _⟩ := rm1.seq ea hs
        exact ⟨a, rfl, ⟨vs, C.K ▸ sq⟩, ok r1 H1 _ f1 rm1 (itok_lst C.K ea)⟩
    | tup xs =>
      refine .inr ⟨rho, m, ev, rm, rs, ?_⟩
      rw [hA]
      intro r1 H1 b f1 rm1 rb
      unfold RelW at rb
      obtain ⟨a, vs, rfl, sq, rws⟩ := rb
      exact ⟨a, rfl, ⟨vs, C.K ▸ sq⟩, ok r1 H1 _ f1 rm1 (itok_tup C.K sq rws)⟩
    | _ => exact ok.elim
theorem pi_step (C : Ctx P G call d E X c) {r : Rc} (ih : ∀ e, PE X e (tE G E (r.E c e))) (tg iter : Expr) : PI X tg iter (tI G E (iterM P r c (isTup tg) iter)) := by
  have gen : isSet iter = false → PI X tg iter (tI G E (if isSet iter then mno else mbind (r.E c iter) fun w => fun _ m => match w with
      | .ref p => (match seqM m p with
        | some _ => .ok (.lst p) m
        | none => .no)
      | .tup xs => .ok (.seq xs) m
      | _ => .no)) := fun h => by
    rw [h, if_neg Bool.false_ne_true]
    exact iter_of C (ih iter)
  have gen' : PI X tg iter (tI G E (if isSet iter then mno else mbind (r.E c iter) fun w => fun _ m => match w with
      | .ref p => (match seqM m p with
        | some _ => .ok (.lst p) m
        | none => .no)
      | .tup xs => .ok (.seq xs) m
      | _ => .no)) := by
    by_cases h : isSet iter = true
    · rw [if_pos h]; exact PI.no
    · exact gen (by simpa using h)
  unfold iterM
  split
  · rename_i f p a pos
    split
    · rename_i hc
      simp only [Bool.and_eq_true, decide_eq_true_eq] at hc
      obtain ⟨⟨⟨h1, h2⟩, h3⟩, rfl⟩ := hc
      refine PI.imp (pi_range1 (gl_ok C h1) (C.hyp.free _ h2) (pa_mall ih [a] (by simp [h3])) (star_ok h3)) fun s H R h => ?_
      obtain ⟨rho, m, ev, rm, rs, ok⟩ := h
      have ok : OkR G (E s) (ItOk G) R rho H ((r.E c a ev m).bind fun w m => (match w with
        | .int j => if decide (0 ≤ j) && decide (j ≤ 1000000) then mpure (.seq ((List.range j.toNat).map fun i => .int (i : Nat))) else mno
        | _ => mno : M Itr) ev m) := ok
      refine ⟨rho, m, ev, rm, rs, ?_⟩
      show OkR G (E s) (RelWs G) _ rho H ((r.E c a ev m).bind fun y m1 => Res.bind (Res.ok [] m1) fun ys m2 => Res.ok (y :: ys) m2)
      cases hA : r.E c a ev m with
      | no => rw [hA] at ok; exact ok.elim
      | err cc fs m1 => rw [hA] at ok; exact ok
      | ok w m1 =>
        rw [hA] at ok
        intro r1 H1 b f1 rm1 rb
        obtain ⟨v, rfl, rv⟩ := relWs1 rb
        cases w with
        | int j =>
          cases rv
          have ok : OkR G (E s) (ItOk G) R rho H ((if decide (0 ≤ j) && decide (j ≤ 1000000) then mpure (.seq ((List.range j.toNat).map fun i => .int (i : Nat))) else mno : M Itr) ev m1) := ok
          split at ok
          · rename_i hj
            simp only [Bool.and_eq_true, decide_eq_true_eq] at hj
            exact ⟨j, rfl, by omega, by omega, ok r1 H1 _ f1 rm1 itok_rng⟩
          · exact ok.elim
        | _ => exact ok.elim
    · split
      · rename_i hc
        simp only [Bool.and_eq_true, decide_eq_true_eq] at hc
        obtain ⟨⟨⟨⟨h1, h2⟩, h3⟩, rfl⟩, h4⟩ := hc
        cases tg with
        | Tuple elts kk tpos =>
          refine PI.imp (pi_enum (gl_ok C h1) (C.hyp.free _ h2) (pa_mall ih [a] (by simp [h3])) (star_ok h3)) fun s H R h => ?_
          obtain ⟨rho, m, ev, rm, rs, ok⟩ := h
          have ok : OkR G (E s) (ItOk G) R rho H ((r.E c a ev m).bind fun w m => match w with
            | .ref p => (match seqM m p with
              | some _ => .ok (.enum p) m
              | none => .no)
            | _ => .no) := ok
          refine ⟨rho, m, ev, rm, rs, ?_⟩
          show OkR G (E s) (RelWs G) _ rho H ((r.E c a ev m).bind fun y m1 => Res.bind (Res.ok [] m1) fun ys m2 => Res.ok (y :: ys) m2)
          cases hA : r.E c a ev m with
          | no => rw [hA] at ok; exact ok.elim
          | err cc fs m1 => rw [hA] at ok; exact ok
          | ok w m1 =>
            rw [hA] at ok
            intro r1 H1 b f1 rm1 rb
            obtain ⟨v, rfl, rv⟩ := relWs1 rb
            cases w with
            | ref q =>
              have ok : OkR G (E s) (ItOk G) R rho H (match seqM m1 q with
                | some _ => .ok (.enum q) m1
                | none => .no) := ok
              cases hs : seqM m1 q with
              | none => rw [hs] at ok; exact ok.elim
              | some xs =>
                rw [hs] at ok
                unfold RelW at rv
                obtain ⟨aa, rfl, ea⟩ := rv
                obtain ⟨vs, sq, _⟩ := rm1.seq ea hs
                exact ⟨aa, vs, rfl, C.K ▸ sq, ok r1 H1 _ f1 rm1 (itok_enum C.K ea)⟩
            | _ => exact ok.elim
        | _ => cases h4
      · exact PI.no
  · exact gen'

/-! ### statements -/
section
variable (G E)
def OkS (D : Ends) (rho : List Addr) (H : Hp) : RS → Prop
  | .ok (.nx e) m => ∀ rho' H' s', Fr rho H rho' H' → RelMu G rho' H' m → RelSt G rho' H' e s' → D.nx s' H'
  | .ok (.rt w) m => ∀ rho' H' v, Fr rho H rho' H' → RelMu G rho' H' m → RelW G rho' H' w v → D.rt v H'
  | .ok (.bk e) m => ∀ rho' H' s', Fr rho H rho' H' → RelMu G rho' H' m → RelSt G rho' H' e s' → D.bk s' H'
  | .ok (.ct e) m => ∀ rho' H' s', Fr rho H rho' H' → RelMu G rho' H' m → RelSt G rho' H' e s' → D.ct s' H'
  | .ok (.er e c fs) m => ∀ rho' H' s', Fr rho H rho' H' → RelMu G rho' H' m → RelSt G rho' H' e s' → ErrOk G (E s') rho' H' c fs m
  | .no => False
def tS (F : MS) : TS := fun D s H => ∃ rho m e, RelMu G rho H m ∧ RelSt G rho H e s ∧ OkS G E D rho H (F e m)
end
theorem OkS.later {D : Ends} {r1 r2 : List Addr} {H1 H2 : Hp} (f : Fr r1 H1 r2 H2) : ∀ {x : RS}, OkS G E D r1 H1 x → OkS G E D r2 H2 x
  | .ok (.nx e) m, h => fun r' H' b f' => h r' H' b (f.trans f')
  | .ok (.rt e) m, h => fun r' H' b f' => h r' H' b (f.trans f')
  | .ok (.bk e) m, h => fun r' H' b f' => h r' H' b (f.trans f')
  | .ok (.ct e) m, h => fun r' H' b f' => h r' H' b (f.trans f')
  | .ok (.er e c fs) m, h => fun r' H' b f' => h r' H' b (f.trans f')
  | .no, h => h
theorem PS.no {st : Stmt} : PS X st (tS G E sNo) := ⟨fun _ _ _ _ _ _ h => by obtain ⟨_, _, _, _, _, q⟩ := h; exact q.elim⟩
/-- an expression ahead of what follows -/
theorem sE_of {α β : Type} {R : List Addr → Hp → α → β → Prop} {F : M α} {K : α → MS} {s : L2.St} {H : Hp} {D : Ends} {rho : List Addr} {m : Mu} {e : Ev} (rm : RelMu G rho H m) (rs : RelSt G rho H e s)
    (ok : OkS G E D rho H (sE F K e m)) {Q1 : β → Hp → Prop} (k : ∀ r1 m1 H1 a b, F e m = .ok a m1 → Fr rho H r1 H1 → RelMu G r1 H1 m1 → RelSt G r1 H1 e s → R r1 H1 a b → OkS G E D r1 H1 (K a e m1) → Q1 b H1) : tR G E R F s H Q1 := by
  refine ⟨rho, m, e, rm, rs, ?_⟩
  have ok : OkS G E D rho H (match F e m with
    | .ok a m' => K a e m'
    | .err c fs m' => .ok (.er e c fs) m'
    | .no => .no) := ok
  cases hF : F e m with
  | ok a m1 =>
    rw [hF] at ok
    intro r1 H1 b f1 rm1 rb
    exact k r1 m1 H1 a b hF f1 rm1 (rs.mono f1) rb (OkS.later f1 ok)
  | err c fs m1 =>
    rw [hF] at ok
    intro r' H' C d vs f' rm' hc hd hf
    exact ok r' H' s f' rm' (rs.mono f') r' H' C d vs (Fr.refl _ _) rm' hc hd hf
  | no => rw [hF] at ok; exact ok
theorem pss_m {f : Stmt → MS} (hf : ∀ st, PS X st (tS G E (f st))) : ∀ sts : List Stmt, PSs X sts (tS G E (sAll f sts))
  | [] => PSs.imp pss_nil fun D s H h => by
    obtain ⟨rho, m, e, rm, rs, ok⟩ := h
    exact ok rho H s (Fr.refl _ _) rm rs
  | st :: r => by
    refine PSs.imp (pss_cons (hf st) (pss_m hf r)) fun D s H h => ?_
    obtain ⟨rho, m, e, rm, rs, ok⟩ := h
    refine ⟨rho, m, e, rm, rs, ?_⟩
    have ok : OkS G E D rho H (match f st e m with
      | .ok (.nx e') m' => sAll f r e' m'
      | r => r) := ok
    cases hF : f st e m with
    | no => rw [hF] at ok; exact ok
    | ok fl m1 =>
      rw [hF] at ok
      cases fl with
      | nx e1 =>
        intro r1 H1 s1 f1 rm1 rs1
        exact ⟨r1, m1, e1, rm1, rs1, OkS.later f1 ok⟩
      | rt w => exact ok
      | bk e1 => exact ok
      | ct e1 => exact ok
      | er e1 c fs => exact ok
end
end Mach
/-! Mach8: the machine is sound: loops and comprehensions. -/
namespace Mach
open PySem PySem.Spec PyProof.Rows L2
section
variable {P : Pg} {G : Gx} {call : Str → List W → Mu → Res W} {d : Nat} {E : L2.St → XK} {X : Cx} {c : Cs}
theorem fold_ok {iter : Expr} {env : Env} (h : isSet iter = false) : ∀ x, foldedSetIterable iter env x = pure x := by
  intro x
  cases iter <;> first | rfl | cases h
theorem itn_set {r : Rc} {pairs : Bool} {iter : Expr} (h : isSet iter = true) : iterM P r c pairs iter = mno := by
  cases iter <;> first | rfl | cases h
theorem ps_mfor (C : Ctx P G call d E X c) {tg iter : Expr} {body : List Stmt} {I : M Itr} {B : MS} {A : W → Ev → Option Ev} {S : List Nat} {pos : Pos} (hi : PI X tg iter (tI G E I)) (hg : PG X tg (tG G A S)) (hb : PSs X body (tS G E B)) (hs : isSet iter = false) :
    PS X (.For tg iter body [] pos) (tS G E (sE I fun it => forS it A B lids 0)) := by
  refine PS.imp (ps_for C.own C.calm hi hg hb (fold_ok hs)) fun D s H h => ?_
  obtain ⟨rho, m, e, rm, rs, ok⟩ := h
  refine sE_of (R := ItOk G) rm rs ok fun r1 m1 H1 it J _ f1 rm1 rs1 hit ok1 => ?_
  refine ⟨fun i n st Hh => ∃ rho' m' e', Fr r1 H1 rho' Hh ∧ RelMu G rho' Hh m' ∧ RelSt G rho' Hh e' st ∧ OkS G E D rho' Hh (forS it A B n i e' m'), ⟨lids, r1, m1, e, Fr.refl _ _, rm1, rs1, ok1⟩, ?_⟩
  rintro i n st Hh ⟨rho', m', e', f', rm', rs', ok'⟩
  cases n with
  | zero => exact ok'.elim
  | succ n =>
    have q := hit rho' Hh m' i f' rm'
    have ok' : OkS G E D rho' Hh (match nextI it i m' with
      | none => .no
      | some none => .ok (.nx e') m'
      | some (some w) => match A w e' with
        | none => .no
        | some e1 => match B e1 m' with
          | .ok (.nx e2) m2 => forS it A B n (i + 1) e2 m2
          | .ok (.ct e2) m2 => forS it A B n (i + 1) e2 m2
          | .ok (.bk e2) m2 => .ok (.nx e2) m2
          | .ok (.rt w') m2 => .ok (.rt w') m2
          | .ok (.er e2 c fs) m2 => .ok (.er e2 c fs) m2
          | .no => .no) := ok'
    cases hn : nextI it i m' with
    | none => rw [hn] at ok'; exact ok'.elim
    | some o =>
      rw [hn] at ok' q
      cases o with
      | none => exact .inl ⟨q, ok' rho' Hh st (Fr.refl _ _) rm' rs'⟩
      | some w =>
        obtain ⟨q1, q2⟩ := q
        refine .inr ⟨q1, fun st2 H2 => ∃ rho2 m2 e2, Fr r1 H1 rho2 H2 ∧ RelMu G rho2 H2 m2 ∧ RelSt G rho2 H2 e2 st2 ∧ OkS G E D rho2 H2 (forS it A B n (i + 1) e2 m2), ?_, ?_⟩
        · rintro st2 H2 ⟨rho2, m2, e2, a1, a2, a3, a4⟩
          exact ⟨n, Nat.lt_succ_self _, rho2, m2, e2, a1, a2, a3, a4⟩
        · intro x H2 hy
          obtain ⟨fr, rmx, rx⟩ := q2 x H2 hy
          have ok' : OkS G E D rho' Hh (match A w e' with
            | none => .no
            | some e1 => match B e1 m' with
              | .ok (.nx e2) m2 => forS it A B n (i + 1) e2 m2
              | .ok (.ct e2) m2 => forS it A B n (i + 1) e2 m2
              | .ok (.bk e2) m2 => .ok (.nx e2) m2
              | .ok (.rt w') m2 => .ok (.rt w') m2
              | .ok (.er e2 c fs) m2 => .ok (.er e2 c fs) m2
              | .no => .no) := ok'
          cases hA : A w e' with
          | none => rw [hA] at ok'; exact ok'.elim
          | some e1 =>
            rw [hA] at ok'
            refine ⟨rho', m', e', w, e1, rmx, rs'.mono fr, rx, hA, fun st3 rs3 _ _ => ?_⟩
            refine ⟨rho', m', e1, rmx, rs3, ?_⟩
            have ok' := OkS.later fr ok'
            cases hB : B e1 m' with
            | no => simp only [hB] at ok'; exact ok'.elim
            | ok fl m2 =>
              simp only [hB] at ok'
              cases fl with
              | nx e2 => intro r4 H4 s4 f4 rm4 rs4; exact ⟨r4, m2, e2, (f'.trans fr).trans f4, rm4, rs4, OkS.later f4 ok'⟩
              | ct e2 => intro r4 H4 s4 f4 rm4 rs4; exact ⟨r4, m2, e2, (f'.trans fr).trans f4, rm4, rs4, OkS.later f4 ok'⟩
              | bk e2 => exact ok'
              | rt w' => exact ok'
              | er e2 cc fs => exact ok'

/-! ### comprehensions -/
theorem wipe_rel {rho : List Addr} {H : Hp} : ∀ {vs : List Nat} {e : Ev} {st : L2.St}, RelSt G rho H e st → RelSt G rho H (wipeE e vs) (wipe st vs)
  | [], _, _, h => h
  | v :: vs, e, st, h => by
    have q := wipe_rel (vs := vs) h
    unfold wipeE wipe
    refine ⟨by simp [q.1], fun i w hw => ?_⟩
    by_cases hi : i = v
    · subst hi
      rw [List.getElem?_set] at hw
      split at hw
      · split at hw <;> cases hw
      · rename_i h'; exact absurd rfl h'
    · rw [List.getElem?_set_ne (Ne.symm hi)] at hw ⊢
      exact q.2 i w hw
theorem wipe_get : ∀ (vs : List Nat) (x : L2.St) (i : Nat), (wipe x vs)[i]? = if i ∈ vs then (x[i]?).map (fun _ => none) else x[i]?
  | [], x, i => by simp [wipe]
  | v :: vs, x, i => by
    unfold wipe
    by_cases hv : i = v
    · subst hv
      rw [List.getElem?_set, if_pos rfl]
      simp only [List.mem_cons, true_or, if_true]
      rw [wipe_length]
      by_cases hx : i < x.length
      · rw [if_pos hx, List.getElem?_eq_getElem hx]; rfl
      · rw [if_neg hx, List.getElem?_eq_none (by omega)]; rfl
    · rw [List.getElem?_set_ne (Ne.symm hv), wipe_get vs x i]
      simp [hv]
theorem wipe_agree {vs : List Nat} {a b : L2.St} (hl : a.length = b.length) (h : ∀ i : Nat, i ∉ vs → a[i]? = b[i]?) : wipe a vs = wipe b vs := by
  apply List.ext_getElem?
  intro i
  rw [wipe_get, wipe_get]
  by_cases hi : i ∈ vs
  · rw [if_pos hi, if_pos hi]
    by_cases hx : i < a.length
    · rw [List.getElem?_eq_getElem hx, List.getElem?_eq_getElem (by omega)]; rfl
    · rw [List.getElem?_eq_none (by omega), List.getElem?_eq_none (by omega)]
  · rw [if_neg hi, if_neg hi, h i hi]
theorem lc_of {it : Itr} {J : It} {A : W → Ev → Option Ev} {S vs : List Nat} {T : M Bool} {L : M W} {s : L2.St} {e : Ev} {rho0 : List Addr} {H0 : Hp} {m0 : Mu} {Q : VK} {E1 : XK}
    (hS : ∀ i ∈ S, i ∈ vs) (rs : RelSt G rho0 H0 e s) (rm0 : RelMu G rho0 H0 m0) (hit : ItOk G rho0 H0 it J)
    (ok : OkR G E1 (RelW G) Q rho0 H0 ((compM it A T L (wipeE e vs) lids 0 [] m0).bind fun ws m' => alloc (.lst ws) m')) :
    ∀ D, H0 D = none → ∃ W : Nat → Nat → Hp → Prop, (∃ m, W 0 m (upd H0 D (.lst []))) ∧ ∀ i n H, W i n H →
      (J.stop i H ∧ Q (.ref D) H) ∨ (J.go i H ∧ ∃ Nx : Hp → Prop, (∀ H', Nx H' → ∃ m', m' < n ∧ W (i + 1) m' H') ∧ ∀ x H', J.yld i H x H' → tG G A S x (wipe s vs) H' fun s2 H2 => wipe s2 vs = wipe s vs ∧ tT G (fun _ _ _ _ => False) (mcalm T) s2 H2 fun b H3 =>
        if b = true then tE G (fun _ _ _ _ => False) (mcalm L) s2 H3 fun y H4 => ∃ acc, H4 D = some (.lst acc) ∧ acc.length < sizeLine ∧ Nx (upd H4 D (.lst (acc ++ [y]))) else Nx H3) := by
  intro D hD
  have f0 : Fr rho0 H0 rho0 (upd H0 D (.lst [])) := fr_new hD _ (.inl rfl)
  refine ⟨fun i n H => ∃ rho m acc vacc, Fr rho0 H0 rho H ∧ RelMu G rho H m ∧ D ∉ rho ∧ H D = some (.lst vacc) ∧ RelWs G rho H acc vacc ∧ OkR G E1 (RelW G) Q rho0 H0 ((compM it A T L (wipeE e vs) n i acc m).bind fun ws m' => alloc (.lst ws) m'),
    ⟨lids, rho0, m0, [], [], f0, rm0.extra hD, rm0.fresh hD, upd_same, RelWs.nil, ok⟩, ?_⟩
  rintro i n H ⟨rho, m, acc, vacc, f, rm, hDr, hDH, racc, ok1⟩
  cases n with
  | zero => exact ok1.elim
  | succ n =>
    have q := hit rho H m i f rm
    have ok1 : OkR G E1 (RelW G) Q rho0 H0 (Res.bind (match nextI it i m with
      | none => .no
      | some none => .ok acc m
      | some (some w) => match A w (wipeE e vs) with
        | none => .no
        | some e1 => match T e1 m with
          | .ok true m1 => (match L e1 m1 with
            | .ok y m2 => if sizeOk (acc.length + 1) then compM it A T L (wipeE e vs) n (i + 1) (acc ++ [y]) m2 else .no
            | _ => .no)
          | .ok false m1 => compM it A T L (wipeE e vs) n (i + 1) acc m1
          | _ => .no) fun ws m' => alloc (.lst ws) m') := ok1
    cases hn : nextI it i m with
    | none => rw [hn] at ok1; exact ok1.elim
    | some o =>
      rw [hn] at ok1 q
      cases o with
      | none =>
        refine .inl ⟨q, ?_⟩
        have ok1 : OkR G E1 (RelW G) Q rho0 H0 (alloc (.lst acc) m) := ok1
        have fv : Fv rho H (rho ++ [D]) H := ⟨List.prefix_append _ _, fun _ _ h => h, fun _ _ _ h => h⟩
        refine ok1 (rho ++ [D]) H _ ⟨⟨f.pre.trans (List.prefix_append _ _), f.tup, f.frz⟩, fun a u n h => ?_⟩ (rm.push' _ hDr fv (fun _ _ => rfl) (fun _ _ e => e) ⟨vacc, hDH, RelWs.monoV fv _ _ racc⟩) ?_
        · obtain ⟨z1, z2⟩ := f.keep a u n h
          exact ⟨z1, by rw [List.mem_append, List.mem_singleton]; exact fun z => z.elim z2 (ne_of_none h hD)⟩
        · unfold RelW
          exact ⟨D, rfl, by rw [← rm.len]; simp⟩
      | some w =>
        obtain ⟨q1, q2⟩ := q
        refine .inr ⟨q1, fun H2 => ∃ rho2 m2 acc2 vacc2, Fr rho0 H0 rho2 H2 ∧ RelMu G rho2 H2 m2 ∧ D ∉ rho2 ∧ H2 D = some (.lst vacc2) ∧ RelWs G rho2 H2 acc2 vacc2 ∧ OkR G E1 (RelW G) Q rho0 H0 ((compM it A T L (wipeE e vs) n (i + 1) acc2 m2).bind fun ws m' => alloc (.lst ws) m'),
          fun H2 h => ⟨n, Nat.lt_succ_self _, h⟩, fun x H2 hy => ?_⟩
        obtain ⟨fr, rmx, rx⟩ := q2 x H2 hy
        have ok1 : OkR G E1 (RelW G) Q rho0 H0 (Res.bind (match A w (wipeE e vs) with
          | none => .no
          | some e1 => match T e1 m with
            | .ok true m1 => (match L e1 m1 with
              | .ok y m2 => if sizeOk (acc.length + 1) then compM it A T L (wipeE e vs) n (i + 1) (acc ++ [y]) m2 else .no
              | _ => .no)
            | .ok false m1 => compM it A T L (wipeE e vs) n (i + 1) acc m1
            | _ => .no) fun ws m' => alloc (.lst ws) m') := ok1
        cases hA : A w (wipeE e vs) with
        | none => rw [hA] at ok1; exact ok1.elim
        | some e1 =>
          rw [hA] at ok1
          have rsx : RelSt G rho H2 (wipeE e vs) (wipe s vs) := (wipe_rel rs).mono (f.trans fr)
          obtain ⟨hDx, _⟩ := fr.keep D _ hDr hDH
          refine ⟨rho, m, _, w, e1, rmx, rsx, rx, hA, fun st3 rs3 ag hl => ?_⟩
          refine ⟨?_, ?_⟩
          · have ew : wipe (wipe s vs) vs = wipe s vs := by
              refine wipe_agree (wipe_length _ _) fun j hj => ?_
              rw [wipe_get, if_neg hj]
            rw [← ew]
            exact wipe_agree hl fun j hj => ag j fun z => hj (hS j z)
          · refine ⟨rho, m, e1, rmx, rs3, ?_⟩
            show OkR G _ _ _ rho H2 (calmR (T e1 m))
            cases hT : T e1 m with
            | no => simp only [hT] at ok1; exact ok1.elim
            | err _ _ _ => simp only [hT] at ok1; exact ok1.elim
            | ok b m1 =>
              simp only [hT] at ok1
              intro r3 H3 b' f3 rm3 hb
              subst hb
              obtain ⟨hD3, hDr3⟩ := f3.keep D _ hDr hDx
              cases b with
              | false =>
                rw [if_neg Bool.false_ne_true]
                exact ⟨r3, m1, acc, vacc, (f.trans fr).trans f3, rm3, hDr3, hD3, RelWs.mono (fr.trans f3) _ _ racc, ok1⟩
              | true =>
                rw [if_pos rfl]
                refine ⟨r3, m1, e1, rm3, rs3.mono f3, ?_⟩
                show OkR G _ _ _ r3 H3 (calmR (L e1 m1))
                have ok1 : OkR G E1 (RelW G) Q rho0 H0 (Res.bind (match L e1 m1 with
                  | .ok y m2 => if sizeOk (acc.length + 1) then compM it A T L (wipeE e vs) n (i + 1) (acc ++ [y]) m2 else .no
                  | _ => .no) fun ws m' => alloc (.lst ws) m') := ok1
                cases hL : L e1 m1 with
                | no => rw [hL] at ok1; exact ok1.elim
                | err _ _ _ => rw [hL] at ok1; exact ok1.elim
                | ok y m2 =>
                  rw [hL] at ok1
                  intro r4 H4 v f4 rm4 rv
                  obtain ⟨hD4, hDr4⟩ := f4.keep D _ hDr3 hD3
                  have ok1 : OkR G E1 (RelW G) Q rho0 H0 (Res.bind (if sizeOk (acc.length + 1) then compM it A T L (wipeE e vs) n (i + 1) (acc ++ [y]) m2 else .no) fun ws m' => alloc (.lst ws) m') := ok1
                  split at ok1
                  · rename_i hz
                    refine ⟨vacc, hD4, by rw [← racc.length]; exact size_lt hz, ?_⟩
                    have f5 : Fr r4 H4 r4 (upd H4 D (.lst (vacc ++ [v]))) → True := fun _ => trivial
                    have fv : Fv r4 H4 r4 (upd H4 D (.lst (vacc ++ [v]))) := ⟨List.prefix_refl _, fun a xs h => by
                      rw [upd_ne (fun z => by rw [z, hD4] at h; cases h)]; exact h, fun a o u h => by
                      rw [upd_ne (fun z => by rw [z, hD4] at h; cases h)]; exact h⟩
                    have f04 := ((f.trans fr).trans f3).trans f4
                    refine ⟨r4, m2, acc ++ [y], vacc ++ [v], ⟨⟨f04.pre, fun a xs h => fv.tup a xs (f04.tup a xs h), fun a o u h => fv.frz a o u (f04.frz a o u h)⟩, fun a o n h => ?_⟩, ?_, hDr4, upd_same, ?_, ok1⟩
                    · obtain ⟨z1, z2⟩ := f04.keep a o n h
                      exact ⟨by rw [upd_ne (ne_of_none h hD)]; exact z1, z2⟩
                    · refine ⟨rm4.len, rm4.nd, fun k b ob e1' e2' => ?_⟩
                      refine RelO.move fv (rm4.at_ k b ob e1' e2') (upd_ne fun z => hDr4 (z ▸ List.mem_of_getElem? e1')) fun C' d' vs' _ e3 => ?_
                      rw [upd_ne (fun z => by rw [z, hD4] at e3; cases e3)]; exact e3
                    · refine RelWs.append (RelWs.monoV fv _ _ (RelWs.mono ((fr.trans f3).trans f4) _ _ racc)) (RelWs.cons (RelW.monoV fv _ _ rv) RelWs.nil)
                  · exact ok1.elim
end
end Mach
/-! Mach9: the machine is sound: a step of the evaluator. -/
namespace Mach
open PySem PySem.Spec PyProof.Rows L2
section
variable {P : Pg} {G : Gx} {call : Str → List W → Mu → Res W} {d : Nat} {E : L2.St → XK} {X : Cx} {c : Cs}

/-- a record of evaluators that is sound -/
structure Sound (P : Pg) (G : Gx) (call : Str → List W → Mu → Res W) (d : Nat) (r : Rc) : Prop where
  E : ∀ (E : L2.St → XK) (X : Cx) (c : Cs), Ctx P G call d E X c → ∀ e, PE X e (tE G E (r.E c e))
  T : ∀ (E : L2.St → XK) (X : Cx) (c : Cs), Ctx P G call d E X c → ∀ e, PT X e (tT G E (r.T c e))
  S : ∀ (E : L2.St → XK) (X : Cx) (c : Cs), Ctx P G call d E X c → ∀ st, PS X st (tS G E (r.S c st))
  A : ∀ (E : L2.St → XK) (X : Cx) (c : Cs), Ctx P G call d E X c → ∀ e, PG X e (tG G (r.A c e) (tgS c e))

theorem Ctx.inner (C : Ctx P G call d E X c) (s : Shared) (H : Hp) (scope : Scope) (cl : List (Str × Addr)) (Cf : Addr) (fp : List Addr) : Ctx P G call d (fun _ _ _ _ => False) (X.blk s H scope (compEnvC scope cl Cf X.env) fp) (inner c scope) where
  K := C.K
  sc := by
    show relabel scope X.env = _
    unfold relabel Env.kindOf
    rw [C.sc]
    rfl
  N := C.N
  nd := C.nd
  calm := C.calm
  units := C.units
  guards := C.guards
  room := C.room
  own := PassesOwn.never
  pass := fun pins st H s e s' I h => passL pins st H s e s' I h
  fnb := fun h => by cases h
  hyp := C.hyp

theorem pe_calm {X : Cx} {e : Expr} {F : M W} (h : PE X e (tE G (fun _ _ _ _ => False) F)) : PE X e (tE G (fun _ _ _ _ => False) (mcalm F)) :=
  PE.imp h fun s H Q q => by
    obtain ⟨rho, m, ev, rm, rs, ok⟩ := q
    exact ⟨rho, m, ev, rm, rs, OkR.calm (x := F ev m) ok⟩
theorem pt_calm {X : Cx} {e : Expr} {F : M Bool} (h : PT X e (tT G (fun _ _ _ _ => False) F)) : PT X e (tT G (fun _ _ _ _ => False) (mcalm F)) :=
  PT.imp h fun s H Q q => by
    obtain ⟨rho, m, ev, rm, rs, ok⟩ := q
    exact ⟨rho, m, ev, rm, rs, OkR.calm (x := F ev m) ok⟩
theorem pts_m {r : Rc} (R : Sound P G call d r) {E : L2.St → XK} {X : Cx} {c : Cs} (C : Ctx P G call d E X c) (hE : E = fun _ _ _ _ => False) : ∀ ifs : List Expr, PTs X ifs (tT G E (mcalm (testsM r c ifs)))
  | [] => ⟨fun pins s st H Q I h => by
    refine pts_nil.run pins s st H Q I ?_
    obtain ⟨rho, m, ev, rm, rs, ok⟩ := h
    exact ok rho H true (Fr.refl _ _) rm rfl⟩
  | [t] => by
    subst hE
    exact pts_one (pt_calm (R.T _ X c C t))
  | a :: b :: l => ⟨fun pins s st H Q I h => by
    obtain ⟨rho, m, ev, rm, rs, ok⟩ := h
    exact ok.elim⟩
theorem pe_mlc {r : Rc} (R : Sound P G call d r) (C : Ctx P G call d E X c) {elt tg iter : Expr} {ifs : List Expr} {scope : Scope} {pos : Pos}
    (hb : blkC c.names c.sc scope (ownOf c scope) = true) (hS : (tgS (inner c scope) tg).all (fun i => ((ownOf c scope).map (·.2)).contains i) = true) (hset : isSet iter = false) :
    PE X (.ListComp elt [⟨tg, iter, ifs, 0⟩] scope pos) (tLc (tI G E (iterM P r c (isTup tg) iter)) (tG G (r.A (inner c scope) tg) (tgS (inner c scope) tg)) (tT G (fun _ _ _ _ => False) (mcalm (testsM r (inner c scope) ifs))) (tE G (fun _ _ _ _ => False) (mcalm (r.E (inner c scope) elt))) ((ownOf c scope).map (·.2))) :=
  pe_lc C.calm (by rw [C.N]; exact C.nd) (pi_step C (R.E E X c C) tg iter) (by rw [C.N, C.sc]; exact blkOk_by hb)
    (fun s H Cf cl fp => R.A _ _ _ (C.inner s H scope cl Cf fp) tg)
    (fun s H Cf cl fp => pts_m R (C.inner s H scope cl Cf fp) rfl ifs)
    (fun s H Cf cl fp => pe_calm (R.E _ _ _ (C.inner s H scope cl Cf fp) elt)) (fold_ok hset)
theorem lc_imp {r : Rc} {elt tg iter : Expr} {ifs : List Expr} {scope : Scope} {s : L2.St} {H : Hp} {Q : VK} (hS : (tgS (inner c scope) tg).all (fun i => ((ownOf c scope).map (·.2)).contains i) = true) (h : tE G E (lcM P r c elt tg iter ifs scope) s H Q) :
    tLc (tI G E (iterM P r c (isTup tg) iter)) (tG G (r.A (inner c scope) tg) (tgS (inner c scope) tg)) (tT G (fun _ _ _ _ => False) (mcalm (testsM r (inner c scope) ifs))) (tE G (fun _ _ _ _ => False) (mcalm (r.E (inner c scope) elt))) ((ownOf c scope).map (·.2)) s H Q := by
  obtain ⟨rho, m, e, rm, rs, ok⟩ := h
  refine bindR (S := RelW G) (R := ItOk G) (K := fun it => fun e m =>
    (compM it (r.A (inner c scope) tg) (testsM r (inner c scope) ifs) (r.E (inner c scope) elt) (wipeE e ((ownOf c scope).map (·.2))) lids 0 [] m).bind fun ws m' => alloc (.lst ws) m') rm rs ok fun r1 m1 H1 it J f1 rm1 rs1 hit ok1 => ?_
  refine lc_of (fun i hi => ?_) rs1 rm1 hit ok1
  have q := List.all_eq_true.mp hS i hi
  simpa using q
theorem iter_set {r : Rc} {pairs : Bool} {iter : Expr} (h : isSet iter = true) : iterM P r c pairs iter = mno := by
  cases iter <;> first | rfl | cases h
theorem pe_mcomp {r : Rc} (R : Sound P G call d r) (C : Ctx P G call d E X c) {elt tg iter : Expr} {ifs : List Expr} {scope : Scope} {pos : Pos}
    (hb : blkC c.names c.sc scope (ownOf c scope) = true) (hS : (tgS (inner c scope) tg).all (fun i => ((ownOf c scope).map (·.2)).contains i) = true) :
    PE X (.ListComp elt [⟨tg, iter, ifs, 0⟩] scope pos) (tE G E (lcM P r c elt tg iter ifs scope)) := by
  by_cases hset : isSet iter = true
  · unfold lcM
    rw [iter_set hset]
    exact PE.imp PE.no fun s H Q h => h
  · exact PE.imp (pe_mlc R C hb hS (by simpa using hset)) fun s H Q h => lc_imp hS h
/-- name = [..] -/
theorem ps_mcomp {r : Rc} (R : Sound P G call d r) (C : Ctx P G call d E X c) {y : Str} {i : Nat} {elt tg iter : Expr} {ifs : List Expr} {scope : Scope} {py pos spos : Pos}
    (hb : blkC c.names c.sc scope (ownOf c scope) = true) (hS : (tgS (inner c scope) tg).all (fun i => ((ownOf c scope).map (·.2)).contains i) = true) (ha : asgB c y = true) (hi : place y c.names 0 = some i) :
    PS X (.Assign [.Name y py] (.ListComp elt [⟨tg, iter, ifs, 0⟩] scope pos) spos) (tS G E (sE (lcM P r c elt tg iter ifs scope) fun w => sSet fun e => some (e.set i (some w)))) := by
  by_cases hset : isSet iter = true
  · unfold lcM
    rw [iter_set hset]
    exact PS.imp PS.no fun D s H h => h
  · have hx : L2.Loc X.env.scope y ∧ (X.fn y = true ∨ X.env.scope.names.lookup y = some .local) := by
      unfold L2.Loc
      rw [C.sc]
      have ha := ha
      unfold asgB at ha
      split at ha
      · rename_i e; exact ⟨.inl e, .inr e⟩
      · rename_i e
        exact ⟨.inr e, .inl (C.fnb (by simpa using ha) y)⟩
      · cases ha
    have fin : ∀ {D : Ends} {s : L2.St} {H : Hp}, tS G E (sE (lcM P r c elt tg iter ifs scope) fun w => sSet fun e => some (e.set i (some w))) D s H →
        tAsg (tLc (tI G E (iterM P r c (isTup tg) iter)) (tG G (r.A (inner c scope) tg) (tgS (inner c scope) tg)) (tT G (fun _ _ _ _ => False) (mcalm (testsM r (inner c scope) ifs))) (tE G (fun _ _ _ _ => False) (mcalm (r.E (inner c scope) elt))) ((ownOf c scope).map (·.2))) (gName i) D s H := by
      intro D s H h
      obtain ⟨rho, m, e, rm, rs, ok⟩ := h
      refine lc_imp hS ?_
      exact sE_of (R := RelW G) rm rs ok fun r1 m1 H1 w v _ f1 rm1 rs1 rv ok1 => ok1 r1 H1 _ (Fr.refl _ _) rm1 (rs1.set rv i)
    have hv := pe_mlc (pos := pos) (elt := elt) (ifs := ifs) R C hb hS (by simpa using hset)
    by_cases hsw : swapsWith (.ListComp elt [⟨tg, iter, ifs, 0⟩] scope pos) (some (.Name y py)) spos.line X.env = pure true
    · have hloc : X.env.scope.names.lookup y = some .local := by
        have q : (X.env.blockKind == .function && X.env.kindOf y == some .local && py.line == pos.line && !(scope.names.any fun (n, k) => n == y && (k == .local || k == .cell))) = true := by
          have e1 : swapsWith (.ListComp elt [⟨tg, iter, ifs, 0⟩] scope pos) (some (.Name y py)) spos.line X.env = pure (X.env.blockKind == .function && X.env.kindOf y == some .local && py.line == pos.line && !(scope.names.any fun (n, k) => n == y && (k == .local || k == .cell))) := rfl
          rw [e1] at hsw
          injection hsw
        simp only [Bool.and_eq_true, beq_iff_eq] at q
        exact q.1.1.2
      exact PS.imp (ps_setLc (i := i) C.calm (by rw [C.N]; exact C.nd) (C.slot hi) hloc hsw (pi_step C (R.E E X c C) tg iter) (by rw [C.N, C.sc]; exact blkOk_by hb)
        (fun s H Cf cl fp => R.A _ _ _ (C.inner s H scope cl Cf fp) tg)
        (fun s H Cf cl fp => pts_m R (C.inner s H scope cl Cf fp) rfl ifs)
        (fun s H Cf cl fp => pe_calm (R.E _ _ _ (C.inner s H scope cl Cf fp) elt)) (fold_ok (by simpa using hset))) fun D s H h => fin h
    · have hsf : swapsWith (.ListComp elt [⟨tg, iter, ifs, 0⟩] scope pos) (some (.Name y py)) spos.line X.env = pure false := by
        have e1 : swapsWith (.ListComp elt [⟨tg, iter, ifs, 0⟩] scope pos) (some (.Name y py)) spos.line X.env = pure (X.env.blockKind == .function && X.env.kindOf y == some .local && py.line == pos.line && !(scope.names.any fun (n, k) => n == y && (k == .local || k == .cell))) := rfl
        rw [e1] at hsw ⊢
        cases hb : (X.env.blockKind == .function && X.env.kindOf y == some .local && py.line == pos.line && !(scope.names.any fun (n, k) => n == y && (k == .local || k == .cell))) with
        | true => rw [hb] at hsw; exact absurd rfl hsw
        | false => rfl
      exact PS.imp (ps_set (i := i) (by rw [C.N]; exact C.nd) (C.slot hi) hx.1 hv hsf hx.2) fun D s H h => fin h
end
end Mach
/-! Mach13: the machine is sound: own exceptions. -/
namespace Mach
open PySem PySem.Spec PyProof.Rows L2
section
variable {P : Pg} {G : Gx} {call : Str → List W → Mu → Res W} {d : Nat} {E : L2.St → XK} {X : Cx} {c : Cs}

/-- two new things laid, all else kept -/
theorem laid2 {pins : List (Addr × Obj)} {st : L2.St} {H H' : Hp} {hp h' : Heap} {g : Array GenState} {dr : Drawn} {tk tk' : Nat} {os : OsState} (I : Inv X pins st H ⟨hp, g, dr, tk, os⟩) (k : ∀ b o, hp.get? b = some o → h'.get? b = some o)
    (hold : ∀ b o, hp.get? b = some o → H' b = H b) (hin : ∀ b, H b ≠ none → H' b = H b) (hnew : ∀ b o, H' b = some o → H b = none → ObjOk X.prog X.w H' h' b o) :
    Inv X pins st H' ⟨h', g, dr, tk', os⟩ := by
  have keepS : ∀ {b : Addr} {o : HO}, H b = some o → H' b = some o := fun {b o} e => (hin b (by rw [e]; exact fun z => nomatch z)).trans e
  have U : Un X.fs [] H H' hp h' := {
    keep := fun b o q n _ _ => k b o q
    slot := fun b o q n _ _ => ⟨o.slots, k b o q⟩
    free := fun b o q n _ => (hold b o q).trans n
    there := fun b o q _ => ⟨o, k b o q⟩
    tups := fun b xs q => keepS q
    frzs := fun b o v q => keepS q
    tbls := fun b ps q => ⟨#[], by rw [keepS q]; simp⟩ }
  refine I.un (t' := tk') U fun b o q => ?_
  cases hb : H b with
  | none => exact hnew b o q hb
  | some o' =>
    have e : o' = o := by
      have := keepS hb
      rw [q] at this
      exact (Option.some.inj this).symm
    subst e
    exact (I.hok b o' hb).stay (fun c v hc z => k c v z) (fun c hc => keepS hc) (fun c xs hc => keepS hc)

/-- an own exception made: its word called -/
theorem mk_run1 {pins : List (Addr × Obj)} {st : L2.St} {H : Hp} {s : Shared} {Q : VK} {C : Addr} {v : Str} {y : V} {u : Value} {us : List Value} {kw : List (Str × Value)} (Z : ExH X.prog X.K C (some v)) (hr : X.A.depth + 1 < recursionLimit)
    (hmg : X.mg "super" = none) (htop : (X.prog.main.scope.names.lookup ("super" : Str)).isSome = false) (hus : (us = [u] ∧ kw = []) ∨ (us = [] ∧ kw = [(v, u)])) (I : Inv X pins st H s) (ry : RelV y u)
    (h : ∀ x dx, H x = none → H dx = none → dx ≠ x → Q (.ref x) (upd (upd H dx (exd dx [(v, y)])) x (exo x C (some dx)))) :
    wpAny (model X.prog X.w) X.A (PySem.call (.ref C) us kw) (EP X pins st Q) X.xe s := by
  obtain ⟨fI, fd, se, body, file, iC, tI, Ii, hbd, B, hfile, hin, hsome, _⟩ := Z.ini
  obtain ⟨hvl, hvd, hsv, hno, hbi⟩ := hsome v rfl
  obtain ⟨nm, q, N, bs, bm, sn, sub, ab, col, dd, k0, k1, k2, k3, k5, hC, hbm⟩ := Z.Z.oex.cls
  obtain ⟨mb, hb1, hb2⟩ := I.mod.blt
  obtain ⟨hp, gs, dr, tk, os⟩ := s
  have upw : ∀ b o, hp.get? b = some o → ((hp.push (PySem.W.kdv_tup us)).push (PySem.HandSPX.excO C hp.objs.size)).get? b = some o := fun b o e => Heap.get?_push_of_some _ (Heap.get?_push_of_some _ e)
  have self1 : ((hp.push (PySem.W.kdv_tup us)).push (PySem.HandSPX.excO C hp.objs.size)).get? (hp.objs.size + 1) = some (PySem.HandSPX.excO C hp.objs.size) := by heap_get
  have hz : us.length ≤ sizeLine := by
    rw [sizeLine_eq]
    rcases hus with ⟨rfl, _⟩ | ⟨rfl, _⟩
    · exact (show 1 ≤ 16777216 by decide)
    · exact Nat.zero_le _
  have bk : ∀ b o, X.base.get? b = some o → hp.get? b = some o := I.bk
  have hkx : X.K.lookup (hp.objs.size + 1) = none := by
    cases e : X.K.lookup (hp.objs.size + 1) with
    | none => rfl
    | some o => exact absurd (Heap.lt_size (I.kIn _ _ e)) (Nat.not_lt.mpr (Nat.le_succ _))
  refine wpAny_call (callK F.excBase_ValueError (fun Y => PySem.HandSPX.refsVE_contains Y bm hbm) (I.kIn _ _ hC) (PySem.W.looks_findIn I.kIn iC) (fun self => PySem.W.bind_fn I.kIn self tI) hz ?_)
  refine ini_run1 (x := hp.objs.size + 1) (u := u) (mg := X.mg) (mb := mb) Ii hbd B hvl hvd hsv Z.Z hno (fun b o e => upw b o (I.kIn b o e)) (I.mod.nolimit.keeps fun b o e => upw b o (bk b o e)) (I.mod.glob.keeps fun b o e => upw b o (bk b o e)) hmg
    (hb1.keeps fun b o e => upw b o (bk b o e)) ((hb2 _ (by decide)).trans PyProof.Rows.Boot.«super») hfile htop hin ?_ self1 hkx ?_ ?_
  · have e : (X.A.under (.builtin "type.__call__" ⟨.ref C :: us, kw⟩)).depth = X.A.depth + 1 := make_depth
    rw [e]
    exact hr
  · rcases hus with ⟨rfl, rfl⟩ | ⟨rfl, rfl⟩
    · exact (hbi _ _ _).1
    · exact (hbi _ _ _).2
  intro h' tk' dx t1 kq dn dne hx' hn'
  refine ⟨rfl, ?_⟩
  have hsz : hp.objs.size ≤ dx := Nat.le_trans (by rw [Heap.size_push, Heap.size_push]; omega) dn
  have k' : ∀ b o, hp.get? b = some o → h'.get? b = some o := fun b o e => kq b o (Nat.ne_of_lt (Nat.lt_succ_of_lt (Heap.lt_size e))) (upw b o e)
  have nx : H (hp.objs.size + 1) = none := I.hok.fresh (Nat.le_succ _)
  have nd : H dx = none := I.hok.fresh hsz
  refine ⟨.ref (hp.objs.size + 1), _, laid2 I k' (fun b o e => ?_) (fun b n => ?_) (fun b o e n => ?_), rfl, h (hp.objs.size + 1) dx nx nd dne⟩
  · rw [upd_ne (Nat.ne_of_lt (Nat.lt_succ_of_lt (Heap.lt_size e))), upd_ne (Nat.ne_of_lt (Nat.lt_of_lt_of_le (Heap.lt_size e) hsz))]
  · rw [upd_ne (fun z : b = hp.objs.size + 1 => n (by rw [z]; exact nx)), upd_ne (fun z : b = dx => n (by rw [z]; exact nd))]
  · by_cases hb : b = hp.objs.size + 1
    · subst hb
      rw [upd_same] at e
      cases e
      exact exo_ok hx'
    · rw [upd_ne hb] at e
      by_cases hd : b = dx
      · subst hd
        rw [upd_same] at e
        cases e
        exact exd_ok hn' (relO_put (fs := []) ry fun g => True.intro)
      · rw [upd_ne hd, n] at e
        cases e
theorem mk_run0 {pins : List (Addr × Obj)} {st : L2.St} {H : Hp} {s : Shared} {Q : VK} {C : Addr} (Z : ExH X.prog X.K C none) (hr : X.A.depth + 1 < recursionLimit)
    (hmg : X.mg "super" = none) (htop : (X.prog.main.scope.names.lookup ("super" : Str)).isSome = false) (I : Inv X pins st H s)
    (h : ∀ x, H x = none → Q (.ref x) (upd H x (exo x C none))) :
    wpAny (model X.prog X.w) X.A (PySem.call (.ref C) []) (EP X pins st Q) X.xe s := by
  obtain ⟨fI, fd, se, body, file, iC, tI, Ii, hbd, B, hfile, hin, _, hbi⟩ := Z.ini
  obtain ⟨nm, q, N, bs, bm, sn, sub, ab, col, dd, k0, k1, k2, k3, k5, hC, hbm⟩ := Z.Z.oex.cls
  obtain ⟨mb, hb1, hb2⟩ := I.mod.blt
  obtain ⟨hp, gs, dr, tk, os⟩ := s
  have upw : ∀ b o, hp.get? b = some o → ((hp.push (PySem.W.kdv_tup [])).push (PySem.HandSPX.excO C hp.objs.size)).get? b = some o := fun b o e => Heap.get?_push_of_some _ (Heap.get?_push_of_some _ e)
  have self1 : ((hp.push (PySem.W.kdv_tup [])).push (PySem.HandSPX.excO C hp.objs.size)).get? (hp.objs.size + 1) = some (PySem.HandSPX.excO C hp.objs.size) := by heap_get
  have bk : ∀ b o, X.base.get? b = some o → hp.get? b = some o := I.bk
  refine wpAny_call (callK F.excBase_ValueError (fun Y => PySem.HandSPX.refsVE_contains Y bm hbm) (I.kIn _ _ hC) (PySem.W.looks_findIn I.kIn iC) (fun self => PySem.W.bind_fn I.kIn self tI) (Nat.zero_le _) ?_)
  refine ini_run0 (x := hp.objs.size + 1) (mg := X.mg) (mb := mb) Ii hbd B Z.Z (fun b o e => upw b o (I.kIn b o e)) (I.mod.nolimit.keeps fun b o e => upw b o (bk b o e)) (I.mod.glob.keeps fun b o e => upw b o (bk b o e)) hmg
    (hb1.keeps fun b o e => upw b o (bk b o e)) ((hb2 _ (by decide)).trans PyProof.Rows.Boot.«super») hfile htop hin ?_ self1 (hbi rfl _ _) ?_
  · have e : (X.A.under (.builtin "type.__call__" ⟨.ref C :: [], []⟩)).depth = X.A.depth + 1 := make_depth
    rw [e]
    exact hr
  intro h' tk' t1 kq hx'
  refine ⟨rfl, ?_⟩
  have k' : ∀ b o, hp.get? b = some o → h'.get? b = some o := fun b o e => kq b o (Nat.ne_of_lt (Nat.lt_succ_of_lt (Heap.lt_size e))) (upw b o e)
  have nx : H (hp.objs.size + 1) = none := I.hok.fresh (Nat.le_succ _)
  refine ⟨.ref (hp.objs.size + 1), _, laid2 I k' (fun b o e => ?_) (fun b n => ?_) (fun b o e n => ?_), rfl, h (hp.objs.size + 1) nx⟩
  · rw [upd_ne (Nat.ne_of_lt (Nat.lt_succ_of_lt (Heap.lt_size e)))]
  · rw [upd_ne (fun z : b = hp.objs.size + 1 => n (by rw [z]; exact nx))]
  · by_cases hb : b = hp.objs.size + 1
    · subst hb
      rw [upd_same] at e
      cases e
      exact exo_ok hx'
    · rw [upd_ne hb, n] at e
      cases e

theorem okE1 {E : XK} {rho : List Addr} {H : Hp} {m : Mu} {f v : Str} {w : W} {y : V} {C : Addr} {Q : VK} (rm : RelMu G rho H m) (hC : G.ca f = some C) (rw' : RelW G rho H w y) (ok : OkR G E (RelW G) Q rho H (alloc (.exc f [(v, w)]) m))
    (x dx : Addr) (nx : H x = none) (nd : H dx = none) (ne : dx ≠ x) : Q (.ref x) (upd (upd H dx (exd dx [(v, y)])) x (exo x C (some dx))) := by
  have n1 : upd H dx (exd dx [(v, y)]) x = none := by rw [upd_ne (Ne.symm ne)]; exact nx
  have f1 : Fr rho H rho (upd H dx (exd dx [(v, y)])) := fr_new nd rho (.inl rfl)
  have f2 : Fr rho (upd H dx (exd dx [(v, y)])) (rho ++ [x]) (upd (upd H dx (exd dx [(v, y)])) x (exo x C (some dx))) := fr_new n1 _ (.inr rfl)
  have f3 := f1.trans f2
  have hk : ∀ a u, H a = some u → upd (upd H dx (exd dx [(v, y)])) x (exo x C (some dx)) a = some u := fun a u e => by
    rw [upd_ne (ne_of_none e nx), upd_ne (ne_of_none e nd)]; exact e
  have ho : RelO G (rho ++ [x]) (upd (upd H dx (exd dx [(v, y)])) x (exo x C (some dx))) x (.exc f [(v, w)]) := by
    refine ⟨C, some dx, hC, upd_same, .inr ⟨dx, [(v, y)], rfl, ?_, y, [], rfl, RelW.mono f3 _ _ rw', rfl⟩⟩
    rw [upd_ne ne, upd_same]
  refine ok _ _ (.ref x) f3 (rm.push _ nx f3 hk ho) ?_
  unfold RelW
  exact ⟨x, rfl, by rw [← rm.len]; simp⟩
theorem okE0 {E : XK} {rho : List Addr} {H : Hp} {m : Mu} {f : Str} {C : Addr} {Q : VK} (rm : RelMu G rho H m) (hC : G.ca f = some C) (ok : OkR G E (RelW G) Q rho H (alloc (.exc f []) m))
    (x : Addr) (nx : H x = none) : Q (.ref x) (upd H x (exo x C none)) := by
  have f3 : Fr rho H (rho ++ [x]) (upd H x (exo x C none)) := fr_new nx _ (.inr rfl)
  have hk : ∀ a u, H a = some u → upd H x (exo x C none) a = some u := fun a u e => by
    rw [upd_ne (ne_of_none e nx)]; exact e
  refine ok _ _ (.ref x) f3 (rm.push _ nx f3 hk ⟨C, none, hC, upd_same, .inl ⟨rfl, rfl⟩⟩) ?_
  unfold RelW
  exact ⟨x, rfl, by rw [← rm.len]; simp⟩
/-- the class called on values -/
theorem run_mexc (C : Ctx P G call d E X c) {f : Str} {fld : Option Str} (hf : P.exc f = some fld) {Cl : Addr} (hm : X.mg f = some (.ref Cl)) {pins : List (Addr × Obj)} {st : L2.St} {H : Hp} {s : Shared} {Q : VK} {us : List Value} {vs : List V} {rho : List Addr} {m : Mu} {ws : List W}
    (I : Inv X pins st H s) (r : Vals vs us) (rm : RelMu G rho H m) (rw' : RelWs G rho H ws vs) (ok : OkR G (E st) (RelW G) Q rho H (calmR (mkExc f fld ws m))) :
    wpAny (model X.prog X.w) X.A (PySem.call (.ref Cl) us) (EP X pins st Q) X.xe s := by
  obtain ⟨Ca, hca, hmg, Z⟩ := C.hyp.exc f fld hf
  rw [hmg] at hm
  cases hm
  rw [C.K] at Z
  have hr : X.A.depth + 1 < recursionLimit := by have := C.room.dp; omega
  obtain ⟨hs1, hs2⟩ := C.hyp.sup ⟨_, _, hf⟩
  unfold mkExc at ok
  split at ok
  · rename_i w
    split at ok
    · rename_i v
      obtain ⟨y, rfl, ry⟩ := relWs1 rw'
      obtain ⟨uu, rfl, ru⟩ := vals1 r
      exact mk_run1 (u := uu) Z hr hs1 hs2 (.inl ⟨rfl, rfl⟩) I ru fun x dx nx nd ne => okE1 rm hca ry (OkR.calm (E' := E st) (x := alloc (.exc f [(v, w)]) m) ok) x dx nx nd ne
    · exact ok.elim
  · split at ok
    · exact ok.elim
    · cases rw'
      cases r
      exact mk_run0 Z hr hs1 hs2 I fun x nx => okE0 rm hca (OkR.calm (E' := E st) (x := alloc (.exc f []) m) ok) x nx
  · exact ok.elim
theorem pe_mexc (C : Ctx P G call d E X c) {f : Str} {fld : Option Str} {g : Expr → M W} (hg : ∀ e, PE X e (tE G E (g e))) {args : List Expr} {p pos : Pos} (hgl : glB c f = true) (hp : plainN f = true) (hf : P.exc f = some fld) (hst : args.all noStar = true) :
    PE X (.Call (.Name f p) args [] pos) (tE G E (mbind (mAll g args) fun ws => mval (mkExc f fld ws))) := by
  obtain ⟨Ca, hca, hmg, Z⟩ := C.hyp.exc f fld hf
  have kC : PySem.W.keepIn X.K (.ref Ca) = true := by rw [← C.K]; exact Z.Z.oex.kC
  refine ⟨fun pins s st H Q I h => ?_⟩
  refine wpAny_Call_Name_kw (ld_glob I (gl_ok C hgl) hmg ?_ (plain_ok hp).1)
  obtain ⟨rho, m, e, rm, rs, ok⟩ := h
  cases args with
  | nil =>
    have ok : OkR G (E st) (RelW G) Q rho H (calmR (mkExc f fld [] m)) := ok
    exact PySem.W.callWith_K0 I.kIn kC (run_mexc (us := []) (vs := []) C hf hmg I .nil rm RelWs.nil ok)
  | cons e0 es =>
    have hst' := hst
    rw [List.all_cons, Bool.and_eq_true] at hst'
    have hA : tA G E (mAll g (e0 :: es)) st H fun vs H1 => ∃ rho m ws, RelMu G rho H1 m ∧ RelWs G rho H1 ws vs ∧ OkR G (E st) (RelW G) Q rho H1 (calmR (mkExc f fld ws m)) :=
      bindA (S := RelW G) (K := fun ws => mval (mkExc f fld ws)) rm rs ok fun r1 m1 H1 ws vs hw f1 rm1 rs1 ra ok1 => ⟨r1, m1, ws, rm1, ra, ok1⟩
    refine PySem.W.callWith_K (h₀ := X.base) I.ok.mod.kin kC (thn ((pa_mall hg (e0 :: es) hst).run pos pins s st H _ I hA) fun us s1 ⟨vs, H1, I1, rv, rho, m, ws, rm, ra, ok⟩ => ⟨I1.kIn, ?_⟩) (star_ok hst'.1) (no_star _ _ es hst'.2)
    exact run_mexc C hf hmg I1 rv rm ra ok
/-- C(p = e) -/
theorem pe_mexk (C : Ctx P G call d E X c) {f v : Str} {e : Expr} {F : M W} (hg : PE X e (tE G E F)) {p kp pos : Pos} (hgl : glB c f = true) (hp : plainN f = true) (hf : P.exc f = some (some v)) :
    PE X (.Call (.Name f p) [] [⟨some v, e, kp⟩] pos) (tE G E (mbind F fun w => mval (mkExc f (some v) [w]))) := by
  obtain ⟨Ca, hca, hmg, Z⟩ := C.hyp.exc f _ hf
  rw [C.K] at Z
  have hr : X.A.depth + 1 < recursionLimit := by have := C.room.dp; omega
  obtain ⟨hs1, hs2⟩ := C.hyp.sup ⟨_, _, hf⟩
  refine ⟨fun pins s st H Q I h => ?_⟩
  refine wpAny_Call_Name_kw (ld_glob I (gl_ok C hgl) hmg ?_ (plain_ok hp).1)
  obtain ⟨rho, m, ev, rm, rs, ok⟩ := h
  refine PySem.W.callWith_KW0 (h₀ := X.base) I.ok.mod.kin Z.Z.oex.kC rfl ?_ rfl
  have hA : tCons (tE G E F) tNil st H fun ys H1 => ∃ y rho m w, ys = [y] ∧ RelMu G rho H1 m ∧ RelW G rho H1 w y ∧ OkR G (E st) (RelW G) Q rho H1 (calmR (mkExc f (some v) [w] m)) :=
    bindR (S := RelW G) (K := fun w => mval (mkExc f (some v) [w])) rm rs ok fun r1 m1 H1 w y f1 rm1 rs1 ra ok1 => ⟨y, r1, m1, w, rfl, rm1, ra, ok1⟩
  refine thn ((pk_cons (nm := some v) (kpos := kp) hg pk_nil).run pos pins s st H _ I hA) fun us s1 ⟨vs, H1, I1, rv, y, rho, m, w, ev, rm, ra, ok⟩ => ⟨I1.kIn, ?_⟩
  subst ev
  obtain ⟨u, rfl, ru⟩ := vals1 rv
  exact mk_run1 (u := u) (us := []) Z hr hs1 hs2 (.inr ⟨rfl, rfl⟩) I1 ru fun x dx nx nd ne => okE1 rm hca ra (OkR.calm (E' := E st) (x := alloc (.exc f [(v, w)]) m) ok) x dx nx nd ne
/-! ### e.f, isinstance -/
theorem abase_ok {e : Expr} {f : Str} {env : Env} {whole : Sem Value} (h : isSuper e = false) : attributeBase e f env whole = whole := by
  cases e with
  | Call g as ks p =>
    cases g with
    | Name x px =>
      cases as with
      | nil => cases ks with
        | nil => cases h
        | cons _ _ => rfl
      | cons _ _ => rfl
    | _ => rfl
  | _ => rfl
theorem relF_lookup {rho : List Addr} {H : Hp} : ∀ {fs : List (Str × W)} {vs : List (Str × V)} {f : Str} {w : W}, RelF G rho H fs vs → fs.lookup f = some w → ∃ v, vs.lookup f = some v ∧ RelW G rho H w v
  | [], _, _, _, _, h => by simp at h
  | (k, x) :: fs, vs, f, w, r, h => by
    unfold RelF at r
    obtain ⟨v, r', rfl, ra, rb⟩ := r
    by_cases hk : f = k
    · subst hk
      simp [List.lookup] at h
      subst h
      exact ⟨v, by simp [List.lookup], ra⟩
    · have e : (f == k) = false := by simpa using hk
      simp [List.lookup, e] at h
      obtain ⟨u, q1, q2⟩ := relF_lookup rb h
      exact ⟨u, by simp [List.lookup, e, q1], q2⟩
theorem pe_mattr (C : Ctx P G call d E X c) {f : Str} {a : Expr} {A : M W} {pos : Pos} (ha : PE X a (tE G E A)) (hs : isSuper a = false) : PE X (.Attribute a f pos) (tE G E (mop1 (attrM P f) A)) := by
  refine ⟨fun pins s st H Q I h => ?_⟩
  have h2 := tUn_of h
  refine attr_of (abase_ok hs) (thn (ha.run pins s st H _ I h2) fun u s1 ⟨x, H1, I1, rx, r1, m1, w, rm, rw', ok⟩ => ?_)
  have ok : OkR G (E st) (RelW G) Q r1 H1 (attrM P f w m1) := OkR.calm (x := attrM P f w m1) ok
  unfold attrM at ok
  split at ok
  · rename_i p
    unfold RelW at rw'
    obtain ⟨ad, rfl, ep⟩ := rw'
    cases (show u = Value.ref ad from rx)
    split at ok
    · rename_i dn fs hd
      split at ok
      · rename_i hdec
        have hex := of_decide_eq_true hdec
        obtain ⟨a', ea', ro⟩ := rm.get hd
        rw [ep] at ea'
        cases ea'
        obtain ⟨Cl, dx, hca, hH, hq⟩ := ro
        obtain ⟨Ca, hca', hmg, Z⟩ := C.hyp.exc _ _ hex
        rw [hca] at hca'
        cases hca'
        rw [C.K] at Z
        obtain ⟨fI, fd, se, body, file, iC, tI, Ii, hbd, B, hfile, hin, hsome, _⟩ := Z.ini
        obtain ⟨hvl, hvd, hsv, hno, hbi⟩ := hsome f rfl
        rcases hq with ⟨rfl, rfl⟩ | ⟨dd, vs, rfl, hd2, rf⟩
        · exact ok.elim
        cases hl : fs.lookup f with
        | none => rw [hl] at ok; exact ok.elim
        | some wv =>
          rw [hl] at ok
          obtain ⟨v, hv, rv⟩ := relF_lookup rf hl
          obtain ⟨t1, hobj⟩ := exo_at I1.hok hH
          obtain ⟨mA, hns, hr⟩ := exd_at I1.hok hd2
          obtain ⟨od, ho, hlk⟩ := lookIn_ns hns
          obtain ⟨u, hu, ru⟩ := RelO.some_of (v := v) (o := mA f) (by rw [← hv]; exact hr f)
          have J : PySem.W.InstAt s1.heap ad _ Cl (some od) := ⟨hobj, rfl, rfl, ho⟩
          exact HandSPX.exc_get I1.kIn J Z.ga Z.gg Z.Z.oex.exC (PySem.W.findObj_own Z.hdC hno rfl (by rw [hlk, hu])) (handed_of ru) ⟨v, H1, I1.tok _, ru, okw rm ok rv⟩
      · exact ok.elim
    · exact ok.elim
  · exact ok.elim

/-- isinstance, the class as a value -/
def rIsM (G : Gx) (P : Pg) (dn : Str) (cv : V) : List V → Hp → VK → Prop := fun xs H Q => ∃ rho m a x, xs = [x, cv] ∧ RelMu G rho H m ∧ RelW G rho H a x ∧ OkR G (fun _ _ _ => False) (RelW G) Q rho H (isM P dn a m)
theorem call_isM (C : Ctx P G call d E X c) {dn : Str} {cv : V} {cval : Value} {b : Str → Bool} (hcv : ∀ u, RelV cv u → u = cval) (hk : ∀ x fx Cx, P.exc x = some fx → G.ca x = some Cx → PySem.W.kitOne X.K (.ref Cx) cval = some (b x))
    (hb : ∀ (p : Nat) (m : Mu) (x : Str) (fs : List (Str × W)), m[p]? = some (.exc x fs) → (P.exc x).isSome = true → isM P dn (.ref p) m = okB m (b x)) : CallR X (.builtin "isinstance") (rIsM G P dn cv) := by
  rintro pins s st H xs us Q I rv ⟨rho, m, a, x, rfl, rm, ra, ok⟩
  cases a with
  | ref p =>
    unfold RelW at ra
    obtain ⟨ad, rfl, ep⟩ := ra
    have ok' := ok
    unfold isM at ok'
    split at ok'
    · rename_i p' hp'
      cases hp'
      split at ok'
      · rename_i dx fs hd
        split at ok'
        · rename_i hsome
          rw [hb p m dx fs hd hsome] at ok
          obtain ⟨fx, hfx⟩ := Option.isSome_iff_exists.mp hsome
          obtain ⟨a', ea', ro⟩ := rm.get hd
          rw [ep] at ea'
          cases ea'
          obtain ⟨Cl, dx', hca, hH, hq⟩ := ro
          obtain ⟨Ca, hca', hmg, Z⟩ := C.hyp.exc _ _ hfx
          rw [hca] at hca'
          cases hca'
          rw [C.K] at Z
          obtain ⟨t1, hobj⟩ := exo_at I.hok hH
          cases rv with
          | cons rx rr =>
            cases rr with
            | cons rt rr =>
              cases rr
              cases (show _ = Value.ref ad from rx)
              have ec := hcv _ rt
              subst ec
              have hkit := hk dx fx Cl hfx hca
              have fin : ∀ tk, EP X pins st Q (.bool (b dx)) { s with toks := tk } := fun tk => ⟨.bl (b dx), H, I.kept (t' := tk) fun _ _ z => z, rfl, okB' rm ok⟩
              have J : ∃ ox od, PySem.W.InstAt s.heap ad ox Cl od := by
                rcases hq with ⟨rfl, _⟩ | ⟨dd, vs, rfl, hd2, _⟩
                · exact ⟨_, none, hobj, rfl, rfl, trivial⟩
                · obtain ⟨mA, hns, hr⟩ := exd_at I.hok hd2
                  obtain ⟨od, ho, hlk⟩ := lookIn_ns hns
                  exact ⟨_, some od, hobj, rfl, rfl, ho⟩
              obtain ⟨ox, od, J⟩ := J
              exact PySem.W.kia_one (PySem.W.kitx_exc Z.clC Z.ga Z.gg Z.Z.oex.exC Z.ha Z.hn Z.ht Z.hm) I.kIn J hkit (fun z => nomatch z) fin
        · exact ok'.elim
      · exact ok'.elim
    · rename_i hne
      exact absurd rfl (hne p)
  | _ => exact ok.elim
theorem pe_mis0 (C : Ctx P G call d E X c) {dn : Str} {a : Expr} {A : M W} {p pd pos : Pos} {cv : V} {cval : Value} {b : Str → Bool} (ha : PE X a (tE G E A)) (hst : noStar a = true) (hgl : glB c "isinstance" = true) (hfr : P.free "isinstance" = true) (hd : PE X (.Name dn pd) (tC cv))
    (hcv : ∀ u, RelV cv u → u = cval) (hk : ∀ x fx Cx, P.exc x = some fx → G.ca x = some Cx → PySem.W.kitOne X.K (.ref Cx) cval = some (b x))
    (hb : ∀ (p : Nat) (m : Mu) (x : Str) (fs : List (Str × W)), m[p]? = some (.exc x fs) → (P.exc x).isSome = true → isM P dn (.ref p) m = okB m (b x)) :
    PE X (.Call (.Name "isinstance" p) [a, .Name dn pd] [] pos) (tE G E (mop1 (isM P dn) A)) := by
  refine PE.imp (pe_callB (call_isM C hcv hk hb) (gl_ok C hgl) (C.hyp.free _ hfr) PyProof.Rows.Boot.isinstance (pa_cons ha (pa_cons hd pa_nil rfl) (star_ok hst)) (by decide) (by decide) (star_ok hst) rfl) fun s H Q h => ?_
  obtain ⟨rho, m, e, rm, rs, ok⟩ := h
  refine bindR (S := RelW G) (K := fun x => mval (isM P dn x)) rm rs ok fun r1 m1 H1 w x f1 rm1 rs1 ra ok1 => ?_
  exact ⟨r1, m1, w, x, rfl, rm1, ra, OkR.calm (x := isM P dn w m1) ok1⟩
theorem pe_mis (C : Ctx P G call d E X c) {dn : Str} {a : Expr} {A : M W} {p pd pos : Pos} (ha : PE X a (tE G E A)) (hst : noStar a = true) (hgl : glB c "isinstance" = true) (hfr : P.free "isinstance" = true)
    (hgd : glB c dn = true) (hpd : plainN dn = true) (hdn : ((P.exc dn).isSome || (decide (dn = "GivenError") && P.giv) || (decide (dn = "ValueError") && P.free dn)) = true) :
    PE X (.Call (.Name "isinstance" p) [a, .Name dn pd] [] pos) (tE G E (mop1 (isM P dn) A)) := by
  by_cases h1 : (P.exc dn).isSome = true
  · obtain ⟨fx, hfx⟩ := Option.isSome_iff_exists.mp h1
    obtain ⟨Ca, hca, hmg, Z⟩ := C.hyp.exc _ _ hfx
    refine pe_mis0 (cv := .ref Ca) (cval := .ref Ca) (b := fun x => x == dn) C ha hst hgl hfr (pe_glob (gl_ok C hgd) hmg rfl (plain_ok hpd).1) (fun u h => h) (fun x fy Cx q1 q2 => ?_) fun q m x fs e1 e2 => ?_
    · rw [← C.K]; exact C.hyp.exi x fy dn fx Cx Ca q1 hfx q2 hca
    · unfold isM; simp only [e1, e2, h1, if_true]
  · have h1' : (P.exc dn).isSome = false := by simpa using h1
    rw [h1', Bool.false_or, Bool.or_eq_true, Bool.and_eq_true, Bool.and_eq_true] at hdn
    rcases hdn with ⟨e, hg⟩ | ⟨e, hf⟩
    · have e := of_decide_eq_true e
      subst e
      obtain ⟨B, hB, hkB⟩ := C.hyp.giv hg
      refine pe_mis0 (cv := .ref B) (cval := .ref B) (b := fun _ => true) C ha hst hgl hfr (pe_glob (gl_ok C hgd) hB rfl (plain_ok hpd).1) (fun u h => h) (fun x fy Cx q1 q2 => ?_) fun q m x fs e1 e2 => ?_
      · rw [← C.K]; exact hkB x fy Cx q1 q2
      · unfold isM; simp only [e1, e2, h1', if_true, Bool.false_eq_true, if_false]
    · have e := of_decide_eq_true e
      subst e
      refine pe_mis0 (cv := .ty "ValueError") (cval := .type "ValueError") (b := fun _ => true) C ha hst hgl hfr (pe_bltn (gl_ok C hgd) (C.hyp.free _ hf) PyProof.Rows.Boot.«ValueError» rfl (plain_ok hpd).2.2 (plain_ok hpd).1) (fun u h => h) (fun x fy Cx q1 q2 => ?_) fun q m x fs e1 e2 => ?_
      · obtain ⟨Ca, hca, hmg, Z⟩ := C.hyp.exc _ _ q1
        rw [q2] at hca
        cases hca
        rw [C.K] at Z
        exact Z.tyV
      · unfold isM; simp only [e1, e2, h1', if_true, Bool.false_eq_true, if_false]
        rw [if_neg (by decide)]
end
end Mach
/-! Mach14: the machine is sound: a step of the evaluator. -/
namespace Mach
open PySem PySem.Spec PyProof.Rows L2
section
variable {P : Pg} {G : Gx} {call : Str → List W → Mu → Res W} {d : Nat} {E : L2.St → XK} {X : Cx} {c : Cs}

theorem pe_step {r : Rc} (R : Sound P G call d r) (C : Ctx P G call d E X c) (e : Expr) : PE X e (tE G E (stepE P call r c e)) := by
  have hf := R.E E X c C
  have hT := R.T E X c C
  unfold stepE
  split
  · exact pe_const
  · rename_i x pos
    split
    · rename_i h
      rw [Bool.and_eq_true] at h
      split
      · rename_i i hi; exact pe_mvar C h.1 h.2 hi
      · exact PE.no
    · split
      · rename_i h
        rw [Bool.and_eq_true] at h
        split
        · rename_i w hw; exact pe_mcon C h.1 h.2 hw
        · exact PE.no
      · exact PE.no
  · exact pe_mop C (hf _) (hf _)
  · exact pe_mneg (hf _)
  · exact pe_mnot C (hf _)
  · exact pe_mand C hf _
  · exact pe_mor C hf _
  · split
    · exact PE.no
    · rename_i h; exact pe_mcmp C (hf _) (hf _) (by simpa using h)
  · exact pe_mif (hT _) (hf _) (hf _)
  · split
    · rename_i h; rw [Bool.and_eq_true] at h; exact pe_mtup hf h.1 h.2
    · exact PE.no
  · split
    · rename_i h; rw [Bool.and_eq_true] at h; exact pe_mlst hf h.1 h.2
    · exact PE.no
  · split
    · rename_i ss hs
      split
      · rename_i h; rw [Bool.and_eq_true] at h; exact pe_mdict hf hs (of_decide_eq_true h.1) (of_decide_eq_true h.2)
      · exact PE.no
    · exact PE.no
  · split
    · exact PE.no
    · rename_i h; exact pe_mix C (hf _) (hf _) (by simpa using h)
  · split
    · exact PE.no
    · rename_i h; exact pe_mattr C (hf _) (by simpa using h)
  · rename_i f pf args kws pos
    split
    · rename_i h
      rw [Bool.and_eq_true, Bool.and_eq_true] at h
      obtain ⟨⟨hgl, hpl⟩, hst⟩ := h
      split
      · rename_i hi
        rw [Bool.and_eq_true] at hi
        obtain ⟨hi, hfr⟩ := hi
        have hi := of_decide_eq_true hi
        subst hi
        split
        · rename_i a dn pd
          split
          · rename_i hd
            rw [Bool.and_eq_true, Bool.and_eq_true] at hd
            rw [List.all_cons, Bool.and_eq_true] at hst
            exact pe_mis C (hf _) hst.1 hgl hfr hd.1.1 hd.1.2 hd.2
          · exact PE.no
        · exact PE.no
      · split
        · split
          · rename_i hc
            unfold posOk at hc
            unfold callM
            cases hfn : P.fn f with
            | some i =>
              have hl : args.length = i.params.length := by
                rw [hfn] at hc
                simpa using hc
              refine PE.imp (pe_mfn C hf hgl hpl hfn hl hst) fun s H Q h => ?_
              obtain ⟨rho, m, e, rm, rs, ok⟩ := h
              refine ⟨rho, m, e, rm, rs, ?_⟩
              have e2 : (mbind (mAll (r.E c) args) fun ws => (if decide (ws.length = i.params.length) = true then (fun _ m => call f ws m : M W) else mno)) e m = mbind (mAll (r.E c) args) (fun ws => (fun _ m => call f ws m : M W)) e m := by
                show (mAll (r.E c) args e m).bind _ = (mAll (r.E c) args e m).bind _
                cases hm : mAll (r.E c) args e m with
                | ok ws m1 =>
                  have hw := mAll_len hm
                  show (if decide (ws.length = i.params.length) = true then (fun _ m => call f ws m : M W) else mno) e m1 = call f ws m1
                  rw [if_pos (decide_eq_true (hw.trans hl))]
                | err _ _ _ => rfl
                | no => rfl
              exact e2 ▸ ok
            | none =>
              cases hex : P.exc f with
              | some fld => exact pe_mexc C hf hgl hpl hex hst
              | none =>
                rw [hfn, hex] at hc
                simp only [Option.isNone_none, Option.isSome_none, Bool.and_false, Bool.or_false, Bool.false_or, Bool.true_and, Bool.and_eq_true] at hc
                simp only [hc.1, if_true]
                exact pe_mblt C hf hgl hpl hc.1 hc.2 hst
          · exact PE.no
        · split
          · rename_i x ke hk
            unfold callM
            cases hex : P.exc f with
            | none => exact PE.no
            | some fld =>
              cases fld with
              | none => exact PE.no
              | some v =>
                by_cases hv : x = v
                · subst hv
                  obtain ⟨kp, rfl⟩ : ∃ kp, kws = [⟨some x, ke, kp⟩] := by
                    revert hk
                    unfold kwOne
                    split
                    · intro hk
                      injection hk with hk
                      injection hk with h1 h2
                      subst h1; subst h2
                      exact ⟨_, rfl⟩
                    · intro hk; cases hk
                  simp only [decide_true, List.isEmpty_nil, Bool.and_self, if_true]
                  exact pe_mexk C (hf _) hgl hpl hex
                · simp only [hv, decide_false, Bool.false_and, Bool.false_eq_true, if_false]
                  exact PE.no
          · exact PE.no
    · exact PE.no
  · split
    · rename_i h
      rw [Bool.and_eq_true] at h
      exact pe_mcomp R C h.1 h.2
    · exact PE.no
  · exact PE.no

/-- whose test is its value's truth -/
def plainT : Expr → Bool
  | .UnaryOp .Not _ _ => false
  | .BoolOp _ _ _ => false
  | .IfExp _ _ _ _ => false
  | .Compare _ _ _ _ => false
  | _ => true
theorem plainT_ok {e : Expr} {env : Env} (h : plainT e = true) (whole : Sem Value) : isTrue e env whole = (do let v ← whole; standAt e.pos; holding [v] (truthy v)) := by
  cases e with
  | UnaryOp op a p => cases op <;> first | rfl | cases h
  | BoolOp _ _ _ => cases h
  | IfExp _ _ _ _ => cases h
  | Compare _ _ _ _ => cases h
  | _ => rfl
theorem pt_plain (C : Ctx P G call d E X c) {e : Expr} {A : M W} (h : PE X e (tE G E A)) (hp : plainT e = true) : PT X e (tT G E (mtru A)) :=
  PT.imp (pt_truth h (plainT_ok hp)) fun s H Q q => tru_of C q
theorem pt_step {r : Rc} (R : Sound P G call d r) (C : Ctx P G call d E X c) (e : Expr) : PT X e (tT G E (stepT P call r c e)) := by
  have hf := R.E E X c C
  have hT := R.T E X c C
  have key : ∀ e, plainT e = true → PT X e (tT G E (mtru (stepE P call r c e))) := fun e h => pt_plain C (pe_step R C e) h
  unfold stepT
  split
  · exact pt_mnot (hT _)
  · exact pt_mand (hT _) (hT _)
  · exact pt_mor (hT _) (hT _)
  · exact PT.no
  · exact PT.no
  · rename_i a op b p
    unfold stepE
    simp only
    split
    · exact ⟨fun _ _ _ _ _ _ h => by
        obtain ⟨_, _, _, _, _, q⟩ := h
        exact q.elim⟩
    · rename_i h
      exact pt_mcmp C (hf _) (hf _) (by simpa using h)
  · exact PT.no
  · rename_i e' h1 h2 h3 h4 h5 h6 h7
    refine key _ ?_
    unfold plainT
    split
    · exact (h1 _ _ rfl).elim
    · exact (h4 _ _ _ rfl).elim
    · exact (h5 _ _ _ _ rfl).elim
    · exact (h7 _ _ _ _ rfl).elim
    · rfl
theorem swaps_no {e : Expr} {t : Option Expr} {l : Nat} {env : Env} (h : isComp e = false) : swapsWith e t l env = pure false := by
  cases e <;> first | rfl | cases h
theorem asg_ok (C : Ctx P G call d E X c) {x : Str} (ha : asgB c x = true) : L2.Loc X.env.scope x ∧ (X.fn x = true ∨ X.env.scope.names.lookup x = some .local) := by
  unfold L2.Loc
  rw [C.sc]
  unfold asgB at ha
  split at ha
  · rename_i e; exact ⟨.inl e, .inr e⟩
  · rename_i e
    exact ⟨.inr e, .inl (C.fnb (by simpa using ha) x)⟩
  · cases ha
theorem ps_mset (C : Ctx P G call d E X c) {x : Str} {i : Nat} {e : Expr} {A : M W} {p pos : Pos} (he : PE X e (tE G E A)) (hc : isComp e = false) (ha : asgB c x = true) (hi : place x c.names 0 = some i) :
    PS X (.Assign [.Name x p] e pos) (tS G E (sE A fun w => sSet fun e => some (e.set i (some w)))) := by
  obtain ⟨h1, h2⟩ := asg_ok C ha
  refine PS.imp (ps_set (i := i) (by rw [C.N]; exact C.nd) (C.slot hi) h1 he (swaps_no hc) h2) fun D s H h => ?_
  obtain ⟨rho, m, ev, rm, rs, ok⟩ := h
  exact sE_of (R := RelW G) rm rs ok fun r1 m1 H1 w v _ f1 rm1 rs1 rv ok1 => ok1 r1 H1 _ (Fr.refl _ _) rm1 (rs1.set rv i)

theorem fv_put {rho : List Addr} {H : Hp} {n : Nat} {a : Addr} {vs : List V} {u : HO} (ea : rho[n]? = some a) (h1 : H a = some (.lst vs)) : Fv rho H rho (upd H a u) :=
  ⟨List.prefix_refl _, fun b xs h => by rw [upd_ne (fun z => by rw [z, h1] at h; cases h)]; exact h, fun b ob x h => by rw [upd_ne (fun z => by rw [z, h1] at h; cases h)]; exact h⟩
theorem asub_ok {o i : Expr} {pos : Pos} {env : Env} (h : isSlice i = false) (v : Value) : assign (.Subscript o i pos) env v = (do
      let ov ← holding [v] (eval o env)
      let iv ← holding [v, ov] (eval i env)
      standAt pos
      holding [v, ov, iv] (setItem ov iv v)
      release [v, ov, iv] []) := by
  cases i <;> first | rfl | cases h
theorem sole_no {tg e : Expr} {l : Nat} {env : Env} (h : isComp e = false) : swapsWithSole [tg] e l env = pure false := by
  cases e <;> first | rfl | cases h
theorem ps_msub (C : Ctx P G call d E X c) {o i e : Expr} {A O J : M W} {p pos : Pos} (he : PE X e (tE G E A)) (ho : PE X o (tE G E O)) (hi : PE X i (tE G E J)) (hc : isComp e = false) (hs : isSlice i = false) :
    PS X (.Assign [.Subscript o i p] e pos) (tS G E (sE A fun w => sE O fun x => sE J fun y => sE (mval (setM x y w)) fun _ => sNext)) := by
  refine PS.imp (ps_asg he (pg_sub ho hi set_list (asub_ok hs)) (sole_no hc) (by cases e <;> rfl) rfl) fun D s H h => ?_
  obtain ⟨rho, m, ev, rm, rs, ok⟩ := h
  refine sE_of (R := RelW G) rm rs ok fun r1 m1 H1 w v _ f1 rm1 rs1 rv ok1 => ?_
  refine sE_of (R := RelW G) rm1 rs1 ok1 fun r2 m2 H2 x xv _ f2 rm2 rs2 rx ok2 => ?_
  refine sE_of (R := RelW G) rm2 rs2 ok2 fun r3 m3 H3 y yv _ f3 rm3 rs3 ry ok3 => ?_
  have rx := RelW.mono f3 _ _ rx
  have rv := RelW.mono (f2.trans f3) _ _ rv
  cases x with
  | ref q =>
    cases y with
    | int k =>
      unfold RelW at rx
      obtain ⟨a, rfl, ea⟩ := rx
      cases ry
      cases hset : setM (.ref q) (.int k) w m3 with
      | err _ _ _ => unfold sE mval at ok3; rw [hset] at ok3; exact ok3.elim
      | no => unfold sE mval at ok3; rw [hset] at ok3; exact ok3.elim
      | ok a4 m4 =>
        have ok4 : OkS G E D r3 H3 (.ok (.nx ev) m4) := by
          unfold sE mval at ok3
          rw [hset] at ok3
          exact ok3
        unfold setM at hset
        simp only at hset
        split at hset
        · rename_i xs hq
          split at hset
          · rename_i j hj
            cases hset
            obtain ⟨vs, h1, rvs⟩ := rm3.lst ea hq
            have hl : xs.length = vs.length := rvs.length
            have hj' : ixN vs.length k = some j := by rw [← hl]; exact hj
            obtain ⟨rm4, f4⟩ := rm3.put (o := .lst (xs.set j w)) (u := .lst (vs.set j v)) ea h1 (fun _ z => by cases z) (fun _ _ z => by cases z) (fun _ z => by cases z) ⟨_, upd_same, RelWs.set (RelW.monoV (fv_put ea h1) _ _ rv) j (RelWs.monoV (fv_put ea h1) _ _ rvs)⟩
            exact ⟨a, vs, k, j, rfl, rfl, h1, hj', ok4 r3 _ s f4 rm4 (rs3.mono f4)⟩
          · cases hset
        · cases hset
    | _ => exact ok3.elim
  | _ => exact ok3.elim

def starB : Expr → Bool
  | .Starred .. => true
  | _ => false
theorem swapped_ok {x y : Str} {a b : Expr} {px py p : Pos} {k1 k2 : Nat} {p2 : Pos} {env : Env} (kx : env.kindOf x = some .local) (ky : env.kindOf y = some .local) (bk : env.blockKind = .function) (hxy : x ≠ y) (ha : noStar a = true) (hb : noStar b = true) (hl : py.line = px.line)
    (hfo : [a, b].all (foldedForSure 8) = false) (hco : [a, b].all (constantsAlone 8) = false) : swappedStores [.Tuple [.Name x px, .Name y py] k1 p] (.Tuple [a, b] k2 p2) env = pure (some [x, y]) := by
  have na : starB a = false := by cases a <;> first | rfl | cases ha
  have nb : starB b = false := by cases b <;> first | rfl | cases hb
  have hany : ([a, b].any fun | .Starred .. => true | _ => false) = false := by
    show (starB a || (starB b || false)) = false
    rw [na, nb]; rfl
  have ed : ([x, y] : List Str).eraseDups.length = 2 := by
    have : (y == x) = false := by simpa using Ne.symm hxy
    simp [List.eraseDups_cons, this]
  have fm : (([.Name x px, .Name y py] : List Expr).filterMap fun
    | .Name id pos => if env.kindOf id == some .local && pos.line == px.line then some id else none
    | _ => none) = [x, y] := by
    simp [List.filterMap_cons, kx, ky, hl]
  unfold swappedStores
  simp only [bk]
  show (if ([a, b].any fun | .Starred .. => true | _ => false) = true then _ else _) = _
  rw [hany]
  rw [if_neg Bool.false_ne_true]
  have hnames : ∀ f : List Str → Sem (Option (List Str)), f (([.Name x px, .Name y py] : List Expr).filterMap fun
    | .Name id pos => if env.kindOf id == some .local && pos.line == px.line then some id else none
    | _ => none) = f [x, y] := fun f => congrArg f fm
  refine (hnames (fun names => if (names.length != 2 || names.eraseDups.length != names.length) = true then pure none else if [a, b].all (foldedForSure 8) = true then pure none else if [a, b].all (constantsAlone 8) = true then (do unsupported "assign.tuple-of-constant-expressions:order-of-the-stores"; pure (some names)) else pure (some names))).trans ?_
  simp only [ed, hfo, hco]
  rfl
theorem ps_mpar (C : Ctx P G call d E X c) {x y : Str} {i j : Nat} {a b : Expr} {g : Expr → M W} (hf : ∀ e, PE X e (tE G E (g e))) {px py p pos : Pos} {k1 k2 : Nat} {p2 : Pos} (hx : c.sc.names.lookup x = some .local) (hy : c.sc.names.lookup y = some .local) (hxy : x ≠ y)
    (ha : noStar a = true) (hb : noStar b = true) (hl : py.line = px.line) (hfo : [a, b].all (foldedForSure 8) = false) (hco : [a, b].all (constantsAlone 8) = false) (hi : place x c.names 0 = some i) (hj : place y c.names 0 = some j) :
    PS X (.Assign [.Tuple [.Name x px, .Name y py] k1 p] (.Tuple [a, b] k2 p2) pos) (tS G E (sE (mAll g [a, b]) fun ws => match ws with
        | [u, w] => sSet fun e => some ((e.set i (some u)).set j (some w))
        | _ => sNo)) := by
  have hij : i ≠ j := fun z => by
    have h1 := C.slot hi
    have h2 := C.slot hj
    rw [z, h2] at h1
    exact hxy (Option.some.inj h1).symm
  have hx' : X.env.scope.names.lookup x = some .local := by rw [C.sc]; exact hx
  have hy' : X.env.scope.names.lookup y = some .local := by rw [C.sc]; exact hy
  have hst : [a, b].all noStar = true := by simp [ha, hb]
  refine ⟨fun pins s st H D I h => ?_⟩
  have hk : X.env.scope.kind = .function := I.ok.kind
  have hw : swappedStores [.Tuple [.Name x px, .Name y py] k1 p] (.Tuple [a, b] k2 p2) X.env = pure (some [x, y]) := by
    have kx : X.env.kindOf x = some .local := hx'
    have ky : X.env.kindOf y = some .local := hy'
    have bk : X.env.blockKind = .function := by unfold Env.blockKind; rw [hk]; rfl
    exact swapped_ok kx ky bk hxy ha hb hl hfo hco
  refine (ps_par (i := i) (j := j) C.calm (by rw [C.N]; exact C.nd) (C.slot hi) (C.slot hj) hij hx' hy' (pa_mall hf [a, b] hst) hw rfl).run pins s st H D I ?_
  obtain ⟨rho, m, e, rm, rs, ok⟩ := h
  refine sE_of (R := RelWs G) rm rs ok fun r1 m1 H1 ws vs hF f1 rm1 rs1 rv ok1 => ?_
  have hlen : ws.length = 2 := mAll_len hF
  obtain ⟨u, w, rfl⟩ : ∃ u w, ws = [u, w] := by
    match ws, hlen with
    | [u, w], _ => exact ⟨u, w, rfl⟩
  obtain ⟨v1, v2, rfl, ru, rw'⟩ := relWs2 rv
  exact ⟨v1, v2, rfl, ok1 r1 H1 _ (Fr.refl _ _) rm1 ((rs1.set ru i).set rw' j)⟩
end
end Mach
/-! Mach15: the machine is sound: statements, the whole evaluator. -/
namespace Mach
open PySem PySem.Spec PyProof.Rows L2
section
variable {P : Pg} {G : Gx} {call : Str → List W → Mu → Res W} {d : Nat} {E : L2.St → XK} {X : Cx} {c : Cs}

theorem ps_step {r : Rc} (R : Sound P G call d r) (C : Ctx P G call d E X c) (st : Stmt) : PS X st (tS G E (stepS P r c st)) := by
  have hf := R.E E X c C
  have hT := R.T E X c C
  have hS := R.S E X c C
  have hA := R.A E X c C
  unfold stepS
  split
  · refine PS.imp ps_pass fun D s H h => ?_
    obtain ⟨rho, m, e, rm, rs, ok⟩ := h
    exact ok rho H s (Fr.refl _ _) rm rs
  · split
    · exact PS.no
    · rename_i hc
      refine PS.imp (ps_expr (hf _) (swaps_no (by simpa using hc))) fun D s H h => ?_
      obtain ⟨rho, m, e, rm, rs, ok⟩ := h
      exact sE_of (R := RelW G) rm rs ok fun r1 m1 H1 w v _ f1 rm1 rs1 rv ok1 => ok1 r1 H1 s (Fr.refl _ _) rm1 rs1
  · refine PS.imp (ps_ret (hf _)) fun D s H h => ?_
    obtain ⟨rho, m, e, rm, rs, ok⟩ := h
    exact sE_of (R := RelW G) rm rs ok fun r1 m1 H1 w v _ f1 rm1 rs1 rv ok1 => ok1 r1 H1 v (Fr.refl _ _) rm1 rv
  · refine PS.imp ps_retN fun D s H h => ?_
    obtain ⟨rho, m, e, rm, rs, ok⟩ := h
    exact ok rho H .non (Fr.refl _ _) rm rfl
  · rename_i t a b pos
    refine PS.imp (ps_if (hT t) (pss_m hS a) (pss_m hS b)) fun D s H h => ?_
    obtain ⟨rho, m, e, rm, rs, ok⟩ := h
    refine sE_of (R := fun _ _ a b => a = b) rm rs ok fun r1 m1 H1 k k' _ f1 rm1 rs1 rv ok1 => ?_
    subst rv
    cases k with
    | true => exact ⟨r1, m1, e, rm1, rs1, ok1⟩
    | false => exact ⟨r1, m1, e, rm1, rs1, ok1⟩
  · split
    · rename_i h
      rw [Bool.and_eq_true, Bool.and_eq_true] at h
      split
      · rename_i i hi
        exact ps_mcomp R C h.1.1 h.1.2 h.2 hi
      · exact PS.no
    · exact PS.no
  · split
    · exact PS.no
    · rename_i h
      have h := Bool.eq_false_iff.mpr h
      rw [Bool.or_eq_false_iff, Bool.not_eq_false'] at h
      split
      · rename_i i hi
        exact ps_mset C (hf _) h.1 h.2 hi
      · exact PS.no
  · split
    · rename_i x px y py k1 q a b k2 p2 pos h
      simp only [Bool.and_eq_true, Bool.not_eq_true', decide_eq_false_iff_not, decide_eq_true_eq] at h
      obtain ⟨⟨⟨⟨⟨⟨⟨hx, hy⟩, hxy⟩, ha⟩, hb⟩, hln⟩, hfo⟩, hco⟩ := h
      have loc : ∀ {z : Str}, locB c z = true → c.sc.names.lookup z = some .local := fun {z} h => by
        unfold locB at h
        split at h
        · assumption
        · cases h
      split
      · rename_i i j hi hj
        exact ps_mpar C hf (loc hx) (loc hy) hxy ha hb hln hfo hco hi hj
      · exact PS.no
    · exact PS.no
  · split
    · exact PS.no
    · rename_i h
      have h := Bool.eq_false_iff.mpr h
      rw [Bool.or_eq_false_iff] at h
      exact ps_msub C (hf _) (hf _) (hf _) h.1 h.2
  · rename_i tg iter body pos
    by_cases hset : isSet iter = true
    · rw [iter_set hset]
      exact PS.imp PS.no fun D s H h => h
    · exact ps_mfor C (pi_step C hf tg iter) (hA tg) (pss_m hS body) (by simpa using hset)
  · exact PS.no
theorem Sound.step {r : Rc} (R : Sound P G call d r) : Sound P G call d (step P call r) where
  E := fun E X c C e => pe_step R C e
  T := fun E X c C e => pt_step R C e
  S := fun E X c C st => ps_step R C st
  A := fun E X c C e => pg_step C (R.A E X c C) e
theorem Sound.ev : ∀ n, Sound P G call d (Mach.ev P call n)
  | 0 => ⟨fun _ _ _ _ _ => PE.no, fun _ _ _ _ _ => PT.no, fun _ _ _ _ _ => PS.no, fun _ _ _ _ _ => ⟨fun _ _ _ _ _ _ _ _ _ h => by
    obtain ⟨_, _, _, _, _, _, _, _, q, _⟩ := h
    cases q⟩⟩
  | n + 1 => (Sound.ev n).step
end
end Mach
/-! Mach16: the machine is sound: whole functions, calls nested. -/
namespace Mach
open PySem PySem.Spec PyProof.Rows L2

/-- what the top's run left: of a def -/
structure FnS (K : PySem.W.Frag) (a : Addr) (fd : FuncData) (i : FnI) : Prop where
  ex : ∃ (name qual : Str) (params : Arguments) (dV kV doc pm : Value) (an : Option Addr) (cdv ct oc : Value) (od : Option Addr) (osl : Array (Option Value)),
    fd = PySem.W.fnOf name qual params i.body i.scope dV kV doc pm an cdv ct ∧ K.lookup a = some ⟨oc, od, .func fd, osl⟩ ∧ PySem.W.codeIn K cdv qual = true
  kp : PySem.W.keepIn K (.ref a) = true
  bd : Binds K fd i.params []
  sc : FnScope i.names i.params i.scope
/-- what the top's run left -/
structure Stat (P : Pg) (G : Gx) (prog : Program) (mg : Str → Option Value) : Prop where
  fn : ∀ f i, P.fn f = some i → ∃ a fd, mg f = some (.ref a) ∧ FnS G.K a fd i
  free : ∀ x, P.free x = true → mg x = none
  sys : ∃ o, G.K.lookup sysModules = some o
  exc : ∀ x fld, P.exc x = some fld → ∃ C, G.ca x = some C ∧ mg x = some (.ref C) ∧ ExH prog G.K C fld
  exi : ∀ x fx y fy Cx Cy, P.exc x = some fx → P.exc y = some fy → G.ca x = some Cx → G.ca y = some Cy → PySem.W.kitOne G.K (.ref Cx) (.ref Cy) = some (x == y)
  giv : P.giv = true → ∃ B, mg "GivenError" = some (.ref B) ∧ ∀ x fx Cx, P.exc x = some fx → G.ca x = some Cx → PySem.W.kitOne G.K (.ref Cx) (.ref B) = some true
  sup : (∃ x fx, P.exc x = some fx) → mg "super" = none ∧ (prog.main.scope.names.lookup ("super" : Str)).isSome = false
  con : ∀ x wv, P.con x = some wv → ∃ v u, mg x = some u ∧ RelV v u ∧ ∀ rho H, RelW G rho H wv v

section
variable {P : Pg} {G : Gx} {prog : Program} {w : World} {mg : Str → Option Value} {base : Heap}

theorem start_rel {rho : List Addr} {H : Hp} {N : List Str} {ws : List W} {vs : List V} (h : RelWs G rho H ws vs) : RelSt G rho H (startE N ws) (start N vs) := by
  have hl := h.length
  refine ⟨by unfold startE L2.start; simp [hl], fun i w e => ?_⟩
  unfold startE at e
  by_cases hi : i < ws.length
  · rw [List.getElem?_append_left (by simpa using hi), List.getElem?_map] at e
    cases e1 : ws[i]? with
    | none => rw [e1] at e; cases e
    | some a =>
      rw [e1] at e
      cases e
      obtain ⟨v, q1, q2⟩ := h.get e1
      refine ⟨v, ?_, q2⟩
      unfold L2.start
      rw [List.getElem?_append_left (by rw [List.length_map, ← hl]; exact hi), List.getElem?_map, q1]
      rfl
  · rw [List.getElem?_append_right (by simpa using hi), List.getElem?_replicate] at e
    split at e <;> cases e
theorem end_ok {E : XK} {Q : VK} {rho : List Addr} {H : Hp} : ∀ {x : RS}, OkR G E (RelW G) Q rho H (endR x) → OkS G (fun _ => E) { nx := fun _ H' => Q .non H', rt := Q } rho H x
  | .ok (.nx e) m, h => fun r' H' s' f' rm rs => h r' H' .non f' rm rfl
  | .ok (.rt w) m, h => h
  | .ok (.bk e) m, h => h.elim
  | .ok (.ct e) m, h => h.elim
  | .ok (.er e c fs) m, h => fun r' H' s' f' rm rs r2 H2 C d vs f2 => h r2 H2 C d vs (f'.trans f2)
  | .no, h => h
theorem fn_sound {call : Str → List W → Mu → Res W} {n d : Nat} {i : FnI} {a : Addr} {fd : FuncData} (hyp : Hyp P G call d prog w mg base) (F : FnS G.K a fd i) :
    FnG prog w G.K mg base (d + 1) a fd i.params (spOf G i.params.length (runFn P call n i)) := by
  obtain ⟨name, qual, params, dV, kV, doc, pm, an, cdv, ct, oc, od, osl, rfl, lk, hcd⟩ := F.ex
  have S := F.sc
  refine ⟨fun A outer s H args us vs Q E hr hgd e0 hb r hsp => ?_⟩
  obtain ⟨hl, rho, m, ws, rm, rw', ok⟩ := hsp
  have KX : G.K.In s.heap := e0.mod.kin.keeps fun b o e => (e0.bs b o e).1
  have nolim : s.heap.NoLimit := e0.mod.nolimit.keeps fun a o h => (e0.bs a o h).1
  have hkind : ∀ y ∈ i.params.zip us, i.scope.names.lookup y.1 = some .local ∨ (i.scope.names.lookup y.1 = some .cell ∧ ((cellsFrom (s.heap.objs.size + 1) i.scope.names []).lookup y.1).isSome = true) := fun ⟨n, v⟩ hy => by
    exact (S.par n (List.of_mem_zip hy).1).imp id fun z => ⟨z, PySem.W.cellsFrom_some _ _ _ (.inl z)⟩
  refine codeAny_call_function hr.depth (KX _ _ lk) rfl S.co S.gen rfl (PySem.W.codeRec_of KX hcd) (hb _ _ _ _ (wpAny_newFunctionEnv_cells S.kind hkind fun en he s1 x => ?_))
  subst he
  refine ⟨nolim.keeps x.toInCall.keep, codeAny_func ?_⟩
  have C : Ctx P G call d (fun _ => E) (cxOf (L2.CX prog w) prog w G.K mg base i.names qual i.scope a cdv A outer s H E) ⟨i.scope, false, i.names⟩ := {
    K := rfl
    sc := rfl
    N := rfl
    nd := S.nd
    calm := rfl
    units := by
      have q := (hr.deeper (envOfC qual i.scope s.heap.objs.size a cdv)).un
      show (A.deeper (envOfC qual i.scope s.heap.objs.size a cdv)).units + 150 < cLine
      omega
    guards := hgd
    room := hr.deeper _
    own := passes_of rfl
    pass := passes_call (W := fun cls d _ H => E cls d H) (takes_of rfl rfl rfl rfl) fun cls d st H h => h
    fnb := fun _ _ => rfl
    hyp := hyp }
  have ht := pss_m (fun st => (Sound.ev n).S _ _ _ C st) i.body
  have hq : tS G (fun _ => E) (sAll ((ev P call n).S ⟨i.scope, false, i.names⟩) i.body) { nx := fun _ H' => Q .non H', rt := Q } (start i.names vs) H :=
    ⟨rho, m, startE i.names ws, rm, start_rel rw', end_ok ok⟩
  have I : Inv (cxOf (L2.CX prog w) prog w G.K mg base i.names qual i.scope a cdv A outer s H E) [] (start i.names vs) H s1 := inv_start S hr.hd e0 hl r x
  refine wpAny_mono (ht.run [] s1 (start i.names vs) H _ I hq) (fun fl s' hs => ?_) fun e s' hs => hs
  have fin : ∀ {st' : L2.St} {H' : Hp} {v : V} {u : Value}, Inv (cxOf (L2.CX prog w) prog w G.K mg base i.names qual i.scope a cdv A outer s H E) [] st' H' s' → RelV v u → Q v H' → CE outer prog w H s Q u s' :=
    fun {st' H' v u} J rv q => ⟨v, H', J.os, J.bare, J.base, J.hok, rv, q⟩
  cases fl with
  | ret u =>
    obtain ⟨v, st', H', J, rv, q⟩ := hs
    exact fin J rv q
  | next =>
    obtain ⟨st', H', J, q⟩ := hs
    exact fin (u := Value.none) (v := V.non) J rfl q
  | brk =>
    obtain ⟨_, _, _, q⟩ := hs
    exact False.elim q
  | cont =>
    obtain ⟨_, _, _, q⟩ := hs
    exact False.elim q
theorem hyp_of (S : Stat P G prog mg) (n : Nat) : ∀ d, Hyp P G (callAt P n d) d prog w mg base
  | 0 => {
    fn := fun f i h => by
      obtain ⟨a, fd, h1, F⟩ := S.fn f i h
      refine ⟨a, fd, h1, F.kp, F.bd, ⟨fun A outer s H args us vs Q E hr hgd e0 hb r hsp => ?_⟩⟩
      obtain ⟨hl, rho, m, ws, rm, rw', ok⟩ := hsp
      exact ok.elim
    free := S.free
    sys := S.sys
    exc := S.exc
    exi := S.exi
    giv := S.giv
    sup := S.sup
    con := S.con }
  | d + 1 => {
    fn := fun f i h => by
      obtain ⟨a, fd, h1, F⟩ := S.fn f i h
      refine ⟨a, fd, h1, F.kp, F.bd, ?_⟩
      have q := fn_sound (n := n) (hyp_of S n d) F
      have e : callAt P n (d + 1) f = runFn P (callAt P n d) n i := by
        funext ws m
        show (match P.fn f with
          | some i => runFn P (callAt P n d) n i ws m
          | none => .no) = _
        rw [h]
      rw [e]
      exact q
    free := S.free
    sys := S.sys
    exc := S.exc
    exi := S.exi
    giv := S.giv
    sup := S.sup
    con := S.con }
end
end Mach
/-! Mach17: how plain parameters are bound. -/
namespace Mach
open PySem PySem.Spec PyProof.Rows L2

theorem zip_lookup : ∀ {ps : List Str} {us : List Value}, us.length = ps.length → ∀ x ∈ ps, ((ps.zip us).lookup x).isSome = true
  | [], us, _, x, h => by cases h
  | p :: ps, [], h, _, _ => by simp at h
  | p :: ps, u :: us, h, x, hx => by
    rw [List.zip_cons_cons, List.lookup_cons]
    cases e : (x == p) with
    | true => rfl
    | false =>
      rcases List.mem_cons.mp hx with rfl | hx
      · simp at e
      · exact zip_lookup (by simpa using h) x hx
theorem fm_congr {α β : Type} {f g : α → Option β} : ∀ {l : List α}, (∀ x ∈ l, f x = g x) → l.filterMap f = l.filterMap g
  | [], _ => rfl
  | x :: l, h => by
    rw [List.filterMap_cons, List.filterMap_cons, h x List.mem_cons_self, fm_congr fun y hy => h y (List.mem_cons_of_mem _ hy)]
theorem zip_binds : ∀ {ps : List Str} {us : List Value}, us.length = ps.length → ps.Nodup → ps.filterMap (fun n => ((ps.zip us).lookup n).map fun v => (n, v)) = ps.zip us
  | [], us, _, _ => by cases us <;> rfl
  | p :: ps, [], h, _ => by simp at h
  | p :: ps, u :: us, h, nd => by
    obtain ⟨h1, h2⟩ := List.nodup_cons.mp nd
    have ih := zip_binds (ps := ps) (us := us) (by simpa using h) h2
    rw [List.filterMap_cons, List.zip_cons_cons]
    have e0 : List.lookup p ((p, u) :: ps.zip us) = some u := by simp [List.lookup]
    rw [e0]
    have e1 : ps.filterMap (fun n => (List.lookup n ((p, u) :: ps.zip us)).map fun v => (n, v)) = ps.zip us := by
      refine (fm_congr fun n hn => ?_).trans ih
      have e : (n == p) = false := by
        rw [beq_eq_false_iff_ne]
        rintro rfl
        exact h1 hn
      rw [List.lookup_cons, e]
    exact congrArg (fun z => (p, u) :: z) e1
theorem bind_plain {fd : FuncData} {as : List Arg} {kd : List (Option Expr)} {df : List Expr} (hp : fd.params = ⟨[], as, none, [], kd, none, df⟩) (hd : fd.defaults = .none) (nd : (as.map (·.arg)).Nodup) {us : List Value} (hl : us.length = as.length) :
    bindArgs fd ⟨us, []⟩ = pure ((as.map (·.arg)).zip us) := by
  have hl' : us.length = (as.map (·.arg)).length := by simpa using hl
  have mis : (as.map (·.arg)).filter (fun n => (((as.map (·.arg)).zip us).lookup n).isNone) = [] := by
    rw [List.filter_eq_nil_iff]
    intro x hx
    have q := zip_lookup hl' x hx
    simp [Option.isNone_iff_eq_none, Option.isSome_iff_ne_none] at q ⊢
    exact q
  have hz := zip_binds hl' nd
  have s0 : seqItems? .none = pure none := rfl
  unfold bindArgs
  simp only [hp, hd, s0, List.map_nil, List.nil_append, List.append_nil, Option.isNone_none, Bool.and_true]
  simp only [hl', List.length_map]
  simp [mis, hz, hl']
  have tk : List.take (as.length - (List.drop ((#[] : Array Value).size - as.length) ([] : List Value)).length) (as.map (·.arg)) = as.map (·.arg) := by
    rw [List.drop_nil, List.length_nil, Nat.sub_zero, ← List.length_map (f := fun x : Arg => x.arg), List.take_length]
  refine (if_neg ?_).trans ?_
  · rw [tk, mis]
    exact Bool.false_ne_true
  · rw [List.filterMap_map] at hz
    exact congrArg pure hz
end Mach
/-! Mach18: what the top's run left, checked by a Bool. -/
namespace Mach
open PySem PySem.Spec PyProof.Rows L2

theorem bind_kw {fd : FuncData} {a1 a2 : Arg} {kd : List (Option Expr)} {df : List Expr} (hp : fd.params = ⟨[], [a1, a2], none, [], kd, none, df⟩) (hd : fd.defaults = .none) (ne : a1.arg ≠ a2.arg) (a u : Value) :
    bindArgs fd ⟨[a], [(a2.arg, u)]⟩ = pure [(a1.arg, a), (a2.arg, u)] := by
  have s0 : seqItems? .none = pure none := rfl
  have e1 : (a2.arg == a1.arg) = false := by simpa using Ne.symm ne
  have e2 : (a1.arg == a2.arg) = false := by simpa using ne
  unfold bindArgs
  simp only [hp, hd, s0]
  simp [List.lookup, e1, e2]
def nameIs : Expr → Str → Bool
  | .Name x _, y => decide (x = y)
  | _, _ => false
theorem nameIs_ok {e : Expr} {y : Str} (h : nameIs e y = true) : ∃ p, e = .Name y p := by
  unfold nameIs at h
  split at h
  · exact ⟨_, by rw [of_decide_eq_true h]⟩
  · cases h
/-- an __init__'s text, checked -/
def iniB (se : Str) : Option Str → List Stmt → Bool
  | some v, [.Expr (.Call (.Attribute (.Call (.Name s _) [] [] _) i p2) [x] [] p4) _, .Assign [.Attribute o at_ _] y _] => decide (s = "super") && decide (i = "__init__") && decide (p2.endLine = p4.line) && nameIs x v && nameIs o se && decide (at_ = v) && nameIs y v
  | none, [.Expr (.Call (.Attribute (.Call (.Name s _) [] [] _) i p2) [] [] p4) _] => decide (s = "super") && decide (i = "__init__") && decide (p2.endLine = p4.line)
  | _, _ => false
theorem iniB_ok {se : Str} {fld : Option Str} {b : List Stmt} (h : iniB se fld b = true) : IniB b (fld.map fun v => (v, v)) se := by
  unfold iniB at h
  split at h
  · rename_i v s p0 p1 i p2 x p4 p5 o at_ p7 y p9
    simp only [Bool.and_eq_true] at h
    obtain ⟨⟨⟨⟨⟨⟨h1, h2⟩, h3⟩, h4⟩, h5⟩, h6⟩, h7⟩ := h
    cases of_decide_eq_true h1
    cases of_decide_eq_true h2
    cases of_decide_eq_true h6
    obtain ⟨q1, rfl⟩ := nameIs_ok h4
    obtain ⟨q2, rfl⟩ := nameIs_ok h5
    obtain ⟨q3, rfl⟩ := nameIs_ok h7
    exact .one se _ _ _ _ _ _ _ _ _ _ _ (by simpa using of_decide_eq_true h3)
  · simp only [Bool.and_eq_true] at h
    obtain ⟨⟨h1, h2⟩, h3⟩ := h
    cases of_decide_eq_true h1
    cases of_decide_eq_true h2
    exact .none se _ _ _ _ _ (by simpa using of_decide_eq_true h3)
  · cases h
/-- plain parameters, of these names -/
def parB (ps : List Str) (a : Arguments) : Bool := a.posonlyargs.isEmpty && a.vararg.isNone && a.kwonlyargs.isEmpty && a.kwarg.isNone && decide (a.args.map (·.arg) = ps) && decide (ps.Nodup)
theorem parB_ok {ps : List Str} {a : Arguments} (h : parB ps a = true) : (∃ kd df, a = ⟨[], a.args, none, [], kd, none, df⟩) ∧ a.args.map (·.arg) = ps ∧ ps.Nodup := by
  obtain ⟨po, as, va, ko, kd, kw, df⟩ := a
  unfold parB at h
  simp only [Bool.and_eq_true, List.isEmpty_iff, Option.isNone_iff_eq_none] at h
  obtain ⟨⟨⟨⟨⟨h1, h2⟩, h3⟩, h4⟩, h5⟩, h6⟩ := h
  subst h1; subst h2; subst h3; subst h4
  exact ⟨⟨kd, df, rfl⟩, of_decide_eq_true h5, of_decide_eq_true h6⟩
def isNoneV : Value → Bool
  | .none => true
  | _ => false
theorem isNoneV_ok {v : Value} (h : isNoneV v = true) : v = .none := by
  cases v <;> first | rfl | cases h
def clsB (K : PySem.W.Frag) (C : Addr) : Bool := match K.lookup C with
  | some ⟨.type t, _, .cls cd, sl⟩ => (match cd.mro, sl.toList with
    | .ref C' :: bm, [_, _, _, _, some (.builtin n), _] => decide (t = "type") && decide (C' = C) && decide (n = "ValueError.__new__") && !cd.hasDel && cd.hasDict && PySem.HandSPX.refsVE bm
    | _, _ => false)
  | _ => false
theorem clsB_ok {K : PySem.W.Frag} {C : Addr} (h : clsB K C = true) : ∃ nm q N bs bm sn sub ab col dd k0 k1 k2 k3 k5, K.lookup C = some (excClassObj nm q C N bs bm true sn sub ab col dd k0 k1 k2 k3 k5 "ValueError.__new__") ∧ PySem.HandSPX.refsVE bm = true := by
  unfold clsB at h
  split at h
  · rename_i t dd cd sl ho
    split at h
    · rename_i C' bm k0 k1 k2 k3 n k5 hm hs
      simp only [Bool.and_eq_true, Bool.not_eq_true'] at h
      obtain ⟨⟨⟨⟨⟨h1, h2⟩, h3⟩, h4⟩, h5⟩, h6⟩ := h
      cases of_decide_eq_true h1
      cases of_decide_eq_true h2
      cases of_decide_eq_true h3
      obtain ⟨nm, bs, mro, ns, qn, hd, sn, sub, ab, col, del⟩ := cd
      dsimp only at hm h4 h5
      subst hm h4 h5
      have hsl : sl = #[k0, k1, k2, k3, some (.builtin "ValueError.__new__"), k5] := by
        obtain ⟨l⟩ := sl
        simp only at hs
        rw [hs]
      subst hsl
      exact ⟨nm, qn, ns, bs, bm, sn, sub, ab, col, dd, k0, k1, k2, k3, k5, ho, h6⟩
    · cases h
  · cases h
/-- the __init__'s function, checked -/
def fiB (file : Str) (K : PySem.W.Frag) (C fI : Addr) (se : Str) (fld : Option Str) : Bool := match K.lookup fI with
  | some ⟨_, _, .func fd, _⟩ => PySem.W.codeIn K fd.code fd.qualname && (match fd.code with
      | .ref cda => (match K.lookup cda with
        | some ⟨_, _, .fields vs, _⟩ => (match vs.toList with
          | _ :: _ :: .str f _ :: _ => decide (f = file)
          | _ => false)
        | _ => false)
      | _ => false) && (match fd.closure with
      | [(x, cc)] => decide (x = "__class__") && (match K.lookup cc with
        | some ⟨_, _, .cell (some (.ref D)), _⟩ => decide (D = C)
        | _ => false)
      | _ => false) && decide (fd.globals = mainGlobals) && decide (fd.builtins = builtinsNs) && decide (fd.scope.kind = .function) && !fd.scope.isCoroutine && !fd.scope.isGenerator && fd.scope.names.all (fun x => decide (x.2 ≠ .cell)) &&
      decide (fd.scope.names.lookup ("super" : Str) = some .globalImplicit) && decide (fd.scope.names.lookup ("__class__" : Str) = some .free) && decide (fd.scope.names.lookup se = some .local) && parB (se :: fld.toList) fd.params && isNoneV fd.defaults && !(se == ("__debug__" : Str)) &&
      (match fd.body with
      | .stmts b => iniB se fld b
      | _ => false) && (match fld with
      | some v => decide (fd.scope.names.lookup v = some .local) && !(v == ("__debug__" : Str)) && decide (PySem.W.findIn K (.ref C) v = some none)
      | none => true)
  | _ => false
theorem fiB_ok {file : Str} {K : PySem.W.Frag} {C fI : Addr} {se : Str} {fld : Option Str} (h : fiB file K C fI se fld = true) : ∃ fd body, Ini file K C fI se fld fd ∧ fd.body = .stmts body ∧ IniB body (fld.map fun v => (v, v)) se ∧
    (∀ v, fld = some v → fd.scope.names.lookup v = some .local ∧ (v == ("__debug__" : Str)) = false ∧ se ≠ v ∧ PySem.W.findIn K (.ref C) v = some none ∧ ∀ s a u, BindsTo s fd ⟨[a, u], []⟩ [(se, a), (v, u)] ∧ BindsTo s fd ⟨[a], [(v, u)]⟩ [(se, a), (v, u)]) ∧
    (fld = none → ∀ s a, BindsTo s fd ⟨[a], []⟩ [(se, a)]) := by
  unfold fiB at h
  split at h
  · rename_i oc od fd osl ho
    simp only [Bool.and_eq_true, Bool.not_eq_true'] at h
    obtain ⟨⟨⟨⟨⟨⟨⟨⟨⟨⟨⟨⟨⟨⟨⟨⟨h1, h2⟩, h3⟩, h4⟩, h5⟩, h6⟩, h7⟩, h8⟩, h9⟩, h10⟩, h11⟩, h12⟩, h13⟩, h14⟩, h15⟩, h16⟩, h17⟩ := h
    have hd := isNoneV_ok h14
    obtain ⟨⟨kd, df, hpar⟩, hargs, hnd⟩ := parB_ok h13
    have g2 : ∃ cda ccl cdd vs ccs tf, fd.code = .ref cda ∧ K.lookup cda = some ⟨ccl, cdd, .fields vs, ccs⟩ ∧ vs[2]? = some (.str file tf) := by
      split at h2
      · rename_i cda e1
        split at h2
        · rename_i ccl cdd vs ccs e2
          split at h2
          · rename_i x0 x1 f tf r e3
            cases of_decide_eq_true h2
            refine ⟨cda, ccl, cdd, vs, ccs, tf, e1, e2, ?_⟩
            rw [← Array.getElem?_toList, e3]
            rfl
          · cases h2
        · cases h2
      · cases h2
    have g3 : ∃ cc cl cld csl, fd.closure = [(("__class__" : Str), cc)] ∧ K.lookup cc = some ⟨cl, cld, .cell (some (.ref C)), csl⟩ := by
      split at h3
      · rename_i x cc e1
        rw [Bool.and_eq_true] at h3
        obtain ⟨a, b⟩ := h3
        cases of_decide_eq_true a
        split at b
        · rename_i cl cld D csl e2
          cases of_decide_eq_true b
          exact ⟨cc, cl, cld, csl, e1, e2⟩
        · cases b
      · cases h3
    obtain ⟨body, hbd, hib⟩ : ∃ body, fd.body = .stmts body ∧ iniB se fld body = true := by
      split at h16
      · rename_i b e; exact ⟨b, e, h16⟩
      · cases h16
    refine ⟨fd, body, ⟨⟨oc, od, osl, ho⟩, h1, g2, g3, of_decide_eq_true h4, of_decide_eq_true h5, of_decide_eq_true h6, h7, h8, fun x hx => of_decide_eq_true (List.all_eq_true.mp h9 x hx), of_decide_eq_true h10, of_decide_eq_true h11, of_decide_eq_true h12, ?_, h15⟩, hbd, iniB_ok hib, ?_, ?_⟩
    · rw [hpar]
      cases ha : fd.params.args with
      | nil => rw [ha] at hargs; cases hargs
      | cons a r =>
        rw [ha] at hargs
        exact ⟨a, rfl, (List.cons.inj hargs).1⟩
    · rintro v rfl
      simp only [Bool.and_eq_true, Bool.not_eq_true'] at h17
      obtain ⟨⟨k1, k2⟩, k3⟩ := h17
      have hne : se ≠ v := fun z => by
        rw [z] at hnd
        simp at hnd
      refine ⟨of_decide_eq_true k1, k2, hne, of_decide_eq_true k3, fun s a u => ?_⟩
      obtain ⟨a1, a2, ha⟩ : ∃ a1 a2, fd.params.args = [a1, a2] := by
        match hh : fd.params.args, hargs with
        | [x, y], _ => exact ⟨x, y, rfl⟩
        | [], e => cases e
        | [x], e => cases e
        | x :: y :: z :: r, e => cases e
      rw [ha] at hargs hpar
      have e1 : a1.arg = se := (List.cons.inj hargs).1
      have e2 : a2.arg = v := (List.cons.inj (List.cons.inj hargs).2).1
      constructor
      · have q := bind_plain (us := [a, u]) hpar hd (by rw [hargs]; exact hnd) rfl
        rw [hargs] at q
        exact .of_eq q
      · have q := bind_kw hpar hd (by rw [e1, e2]; exact hne) a u
        rw [e1, e2] at q
        exact .of_eq q
    · rintro rfl s a
      obtain ⟨a1, ha⟩ : ∃ a1, fd.params.args = [a1] := by
        match hh : fd.params.args, hargs with
        | [x], _ => exact ⟨x, rfl⟩
        | [], e => cases e
        | x :: y :: r, e => cases e
      rw [ha] at hargs hpar
      have q := bind_plain (us := [a]) hpar hd (by rw [hargs]; exact hnd) rfl
      rw [hargs] at q
      exact .of_eq q
  · cases h
end Mach
/-! Mach19: the Hook of the head, and the end. -/
namespace Mach
open PySem PySem.Spec PyProof.Rows L2

/-- an own exception class, checked -/
def exB (file : Str) (K : PySem.W.Frag) (C : Addr) (fld : Option Str) : Bool :=
  clsB K C && decide (PySem.W.findIn K (.ref C) "__setattr__" = some (some (.builtin "object.__setattr__"))) && decide (PySem.W.subIn K (.ref C) (.type "BaseException") = some true) && decide (PySem.W.typeIn K (.ref C) = some (.type "type")) && PySem.W.keepIn K (.ref C) &&
  decide (PySem.W.ks_superIn K C C "__init__" = some (some (.builtin "ValueError.__init__"))) && decide (PySem.W.subIn K (.ref C) (.type "ValueError") = some true) && decide (PySem.W.mroIn K C (.ref C) = some true) && decide (PySem.W.nsIn K cStatics "thirdparty.any" = some none) &&
  (match PySem.W.findIn K (.ref C) "__init__" with
    | some (some (.ref fI)) => decide (PySem.W.typeIn K (.ref fI) = some (.type "function")) && fiB file K C fI "self" fld
    | _ => false) &&
  decide (PySem.W.findIn K (.ref C) "__getattribute__" = some (some (.builtin "BaseException.__getattribute__"))) && decide (PySem.W.findIn K (.ref C) "__getattr__" = some none) && PySem.W.hasDictIn K C && (PySem.W.clsIn K C).isSome &&
  decide (PySem.W.findIn K (.ref C) "__class__" = some (some (.builtin "object.__class__"))) && decide (PySem.W.specialIn K (.builtin "object.__class__") "__get__" = some (some (.builtin "getset_descriptor.__get__"))) && decide (PySem.W.takesIn K (.builtin "object.__class__") = some true) &&
  decide (PySem.W.mroIn K C (.type "object") = some true) && decide (PySem.W.kitOne K (.ref C) (.type "ValueError") = some true)
theorem exB_ok {file : Str} {K : PySem.W.Frag} {C : Addr} {fld : Option Str} {prog : Program} (hfile : ((prog.main.file : Str) == file) = true) (h : exB file K C fld = true) : ExH prog K C fld := by
  unfold exB at h
  simp only [Bool.and_eq_true] at h
  obtain ⟨⟨⟨⟨⟨⟨⟨⟨⟨⟨⟨⟨⟨⟨⟨⟨⟨⟨h1, h2⟩, h3⟩, h4⟩, h5⟩, h6⟩, h7⟩, h8⟩, h9⟩, h10⟩, h11⟩, h12⟩, h13⟩, h14⟩, h15⟩, h16⟩, h17⟩, h18⟩, h19⟩ := h
  refine ⟨⟨⟨clsB_ok h1, of_decide_eq_true h2, of_decide_eq_true h3, of_decide_eq_true h4, h5⟩, of_decide_eq_true h6, of_decide_eq_true h7, of_decide_eq_true h8, of_decide_eq_true h9⟩, ?_, of_decide_eq_true h11, of_decide_eq_true h12, h13, h14, of_decide_eq_true h15, of_decide_eq_true h16, of_decide_eq_true h17, of_decide_eq_true h18, of_decide_eq_true h19⟩
  split at h10
  · rename_i fI e1
    rw [Bool.and_eq_true] at h10
    obtain ⟨fd, body, k1, k2, k3, k4, k5⟩ := fiB_ok h10.2
    exact ⟨fI, fd, "self", body, file, e1, of_decide_eq_true h10.1, k1, k2, k3, hfile, fun L => by
      have q : (callEnv fd L fI).scope.kind = .function := k1.kind
      unfold interactive
      rw [q]
      rfl, k4, k5⟩
  · cases h10
/-! ### the program's tables -/
structure Df where
  name : Str
  st : Stmt
  names : List Str
def Df.fni (d : Df) : FnI := ⟨(defArgs d.st).args.map (·.arg), d.names, defBody d.st, defScope d.st⟩
def Df.dd (d : Df) : He.DefD := ⟨(d.name, none), d.name, d.name, defArgs d.st, defBody d.st, defScope d.st, [], []⟩
structure Tb where
  dfs : List Df
  excs : List (Str × Option Str)
  frees : List Str
  giv : Bool
  file : Str
def Tb.pg (t : Tb) : Pg := ⟨fun x => ((t.dfs.map fun d => (d.name, d)).lookup x).map Df.fni, fun x => t.excs.lookup x, fun _ => none, fun x => t.frees.contains x, t.giv⟩
def Tb.gx (K : PySem.W.Frag) : Gx := ⟨K, fun x => match PySem.W.nsIn K mainGlobals x with
  | some (some (.ref a)) => some a
  | _ => none⟩
/-- a def's scope, checked -/
def scB (d : Df) : Bool := parB ((defArgs d.st).args.map (·.arg)) (defArgs d.st) && decide ((defScope d.st).kind = .function) && !(defScope d.st).isCoroutine && !(defScope d.st).isGenerator && decide (d.names.Nodup) && decide (d.names.take (defArgs d.st).args.length = (defArgs d.st).args.map (·.arg)) &&
  (defArgs d.st).args.all (fun a => decide ((defScope d.st).names.lookup a.arg = some .local) || decide ((defScope d.st).names.lookup a.arg = some .cell)) && (defScope d.st).names.all (fun y => decide (y.2 ≠ .free))
def noList (K : PySem.W.Frag) : Bool := K.all fun p => match p.2.cls, p.2.data with
  | .type _, .seq _ _ => (match p.2.cls with
    | .type t => decide (t ≠ "list")
    | _ => true)
  | _, _ => true
/-- all that is read off K -/
def tbB (t : Tb) (K : PySem.W.Frag) : Bool :=
  (K.lookup sysModules).isSome && noList K && (t.dfs.all fun d => (He.Fa.glo d.name).ok K && d.dd.ok K) && (t.frees.all fun x => (He.Fa.free x).ok K) &&
  (t.excs.all fun e => (He.Fa.glo e.1).ok K && exB t.file K (He.ga K e.1) e.2) &&
  (t.excs.all fun e => t.excs.all fun f => decide (PySem.W.kitOne K (.ref (He.ga K e.1)) (.ref (He.ga K f.1)) = some (e.1 == f.1))) &&
  (!t.giv || ((He.Fa.glo "GivenError").ok K && t.excs.all fun e => decide (PySem.W.kitOne K (.ref (He.ga K e.1)) (.ref (He.ga K "GivenError")) = some true))) && (t.excs.isEmpty || (He.Fa.free "super").ok K)
theorem scB_ok {d : Df} (h : scB d = true) : FnScope d.fni.names d.fni.params d.fni.scope ∧ parB ((defArgs d.st).args.map (·.arg)) (defArgs d.st) = true := by
  unfold scB at h
  simp only [Bool.and_eq_true, Bool.not_eq_true'] at h
  obtain ⟨⟨⟨⟨⟨⟨⟨h0, h1⟩, h2⟩, h3⟩, h4⟩, h5⟩, h6⟩, h7⟩ := h
  refine ⟨⟨of_decide_eq_true h1, h2, h3, of_decide_eq_true h4, ?_, fun x hx => ?_, fun y hy => of_decide_eq_true (List.all_eq_true.mp h7 y hy)⟩, h0⟩
  · show d.names.take ((defArgs d.st).args.map (·.arg)).length = _
    rw [List.length_map]
    exact of_decide_eq_true h5
  · obtain ⟨a, ha, rfl⟩ := List.mem_map.mp hx
    have q := List.all_eq_true.mp h6 a ha
    rw [Bool.or_eq_true] at q
    exact q.imp of_decide_eq_true of_decide_eq_true
theorem lookup_mem' {β : Type} {x : Str} : ∀ {l : List (Str × β)} {y : β}, l.lookup x = some y → (x, y) ∈ l
  | [], y, h => by cases h
  | (k, v) :: l, y, h => by
    rw [List.lookup_cons] at h
    cases e : (x == k) with
    | true =>
      rw [e] at h
      cases h
      rw [beq_iff_eq.mp e]
      exact List.mem_cons_self
    | false =>
      rw [e] at h
      exact List.mem_cons_of_mem _ (lookup_mem' h)
theorem ca_of {K : PySem.W.Frag} {x : Str} (h : (He.Fa.glo x).ok K = true) : (Tb.gx K).ca x = some (He.ga K x) := by
  have e := He.eqO_ok h
  show (match PySem.W.nsIn K mainGlobals x with
    | some (some (.ref a)) => some a
    | _ => none) = _
  rw [e]
theorem stat_of {t : Tb} {K : PySem.W.Frag} {prog : Program} {h : Heap} {mg : Str → Option Value} (X : K.In h) (G : h.Ns mainGlobals mg) (hk : tbB t K = true) (hf : (t.dfs.map fun d => He.fnW K (d.name, none)) = t.dfs.map fun d => d.dd.val) (hs : t.dfs.all scB = true)
    (hfile : ((prog.main.file : Str) == t.file) = true) (htop : (prog.main.scope.names.lookup ("super" : Str)).isSome = false) : Stat t.pg (Tb.gx K) prog mg := by
  unfold tbB at hk
  simp only [Bool.and_eq_true] at hk
  obtain ⟨⟨⟨⟨⟨⟨⟨h1, _⟩, h2⟩, h3⟩, h4⟩, h5⟩, h6⟩, h7⟩ := hk
  have exa : ∀ {x fld}, t.pg.exc x = some fld → (He.Fa.glo x).ok K = true ∧ exB t.file K (He.ga K x) fld = true ∧ (x, fld) ∈ t.excs := fun {x fld} e => by
    have m := lookup_mem' (show t.excs.lookup x = some fld from e)
    have q := List.all_eq_true.mp h4 _ m
    rw [Bool.and_eq_true] at q
    exact ⟨q.1, q.2, m⟩
  refine ⟨fun f i e => ?_, fun x e => ?_, Option.isSome_iff_exists.mp h1, fun x fld e => ?_, fun x fx y fy Cx Cy e1 e2 e3 e4 => ?_, fun e => ?_, fun ⟨x, fx, e⟩ => ⟨?_, htop⟩, fun x wv e => by cases e⟩
  · have e : ((t.dfs.map fun d => (d.name, d)).lookup f).map Df.fni = some i := e
    obtain ⟨d, e1, rfl⟩ := Option.map_eq_some_iff.mp e
    obtain ⟨d', hd, e2⟩ := List.mem_map.mp (lookup_mem' e1)
    cases e2
    have q := List.all_eq_true.mp h2 _ hd
    rw [Bool.and_eq_true] at q
    obtain ⟨j, hj⟩ := List.mem_iff_getElem?.mp hd
    have ev : He.fnW K d.dd.at_ = d.dd.val := by
      have e3 : (t.dfs.map fun d => He.fnW K (d.name, none))[j]? = (t.dfs.map fun d => d.dd.val)[j]? := by rw [hf]
      rw [List.getElem?_map, List.getElem?_map, hj] at e3
      exact Option.some.inj e3
    obtain ⟨fd, F⟩ := He.DefD.funD ev q.2
    obtain ⟨S, hp⟩ := scB_ok (List.all_eq_true.mp hs _ hd)
    refine ⟨He.ga K d.name, fd, He.glo_ok X G q.1, ⟨?_, F.kp, ?_, S⟩⟩
    · obtain ⟨oc, od, dV, kV, doc, pm, an, cdv, ct, osl, e1, e2, e3, _, _⟩ := F.ex
      exact ⟨_, _, _, dV, kV, doc, pm, an, cdv, ct, oc, od, osl, e1, e2, e3⟩
    · refine F.bindsN fun kV doc pm an cdv ct us hl => ?_
      obtain ⟨⟨kd, df, hpar⟩, hargs, hnd⟩ := parB_ok hp
      exact bind_plain (fd := PySem.W.fnOf d.dd.name d.dd.qual d.dd.params d.dd.body d.dd.scope .none kV doc pm an cdv ct) hpar rfl hnd (by rw [hl]; show ((defArgs d.st).args.map (·.arg)).length = _; rw [List.length_map])
  · have m : x ∈ t.frees := by simpa [Tb.pg] using e
    exact He.free_ok X G (List.all_eq_true.mp h3 x m)
  · obtain ⟨q1, q2, _⟩ := exa e
    exact ⟨_, ca_of q1, He.glo_ok X G q1, exB_ok hfile q2⟩
  · obtain ⟨q1, _, m1⟩ := exa e1
    obtain ⟨q2, _, m2⟩ := exa e2
    rw [ca_of q1] at e3
    rw [ca_of q2] at e4
    cases e3
    cases e4
    exact of_decide_eq_true (List.all_eq_true.mp (List.all_eq_true.mp h5 _ m1) _ m2)
  · have e : t.giv = true := e
    rw [e, Bool.not_true, Bool.false_or, Bool.and_eq_true] at h6
    refine ⟨_, He.glo_ok X G h6.1, fun x fx Cx e1 e2 => ?_⟩
    obtain ⟨q1, _, m1⟩ := exa e1
    rw [ca_of q1] at e2
    cases e2
    exact of_decide_eq_true (List.all_eq_true.mp h6.2 _ m1)
  · have q := (exa e).2.2
    rw [Bool.or_eq_true] at h7
    rcases h7 with h7 | h7
    · rw [List.isEmpty_iff] at h7
      rw [h7] at q
      cases q
    · exact He.free_ok X G h7
end Mach
/-! Mach20: the Hook of the head, and the end. -/
namespace Mach
open PySem PySem.Spec PyProof.Rows L2

def refsM (o : Obj) : List Addr := He.refV o.cls ++ match o.data with
  | .dict es _ => es.toList.flatMap fun e => He.refV e.val
  | .func fd => He.refV fd.code ++ (He.refV fd.defaults ++ fd.closure.map (·.2))
  | .cls cd => cd.ns :: cd.mro.flatMap He.refV
  | _ => []
def growM (g : Addr → Option Obj) (as : List Addr) : List Addr := as ++ as.flatMap fun a => match g a with
  | some o => refsM o
  | none => []
def asM (g : Addr → Option Obj) : Nat → List Addr
  | 0 => [mainGlobals]
  | n + 1 => (growM g (asM g n)).eraseDups
def listO : Option Obj → Bool
  | some ⟨.type t, _, .seq _ _, _⟩ => decide (t = "list")
  | _ => false
def addrs (g : Addr → Option Obj) (n : Nat) : List Addr := sysModules :: cStatics :: (asM g n).filter fun a => !listO (g a)
abbrev AlM : Type := Bool × List He.FnW
def obsM (t : Tb) (n : Nat) (g : Addr → Option Obj) : AlM := (tbB t (He.frG g (addrs g n)), t.dfs.map fun d => He.fnW (He.frG g (addrs g n)) (d.name, none))
def valM (t : Tb) : AlM := (true, t.dfs.map fun d => d.dd.val)
def SaysM (t : Tb) (K : PySem.W.Frag) : Prop := tbB t K = true ∧ (t.dfs.map fun d => He.fnW K (d.name, none)) = t.dfs.map fun d => d.dd.val
def hookM (t : Tb) (n : Nat) : PySem.W.Hook where
  α := AlM
  obs := fun s => obsM t n s.heap.get?
  val := fun _ => valM t
  says := fun _ h => ∃ K : PySem.W.Frag, K.In h ∧ SaysM t K
  of := fun _ s e => ⟨He.frG s.heap.get? (addrs s.heap.get? n), He.frG_in, (Prod.mk.inj e).1, (Prod.mk.inj e).2⟩
  keeps := fun _ _ _ ⟨Kf, hin, says⟩ up => ⟨Kf, PySem.W.Frag.In.keeps hin up, says⟩
theorem obsM_eq {t : Tb} {n : Nat} {g : Addr → Option Obj} {s : Shared} (h : ∀ a, g a = s.heap.get? a) : obsM t n g = (hookM t n).obs s := by
  have same : g = s.heap.get? := funext h
  rw [same]
  rfl

/-! ### the law's def called -/
theorem law_callG {P : Program} {w : World} {K : PySem.W.Frag} {mg mb : Str → Option Value} {k : Nat} {fa a : Addr} {fd : FuncData} {x : Str} {sp : Sp} {s1 : Shared} {vs : List Value} {ns : List Int}
    (KX : K.In s1.heap) (hns : s1.heap.Ns mainGlobals mg) (hb : s1.heap.Ns builtinsNs mb) (hbb : ∀ x : Str, x ≠ "__name__" → mb x = bootBuiltins x) (hlim : s1.heap.NoLimit) (hg : s1.gens = #[])
    (ha : s1.heap.get? a = some { cls := .type "list", data := .seq vs.toArray }) (hi : IntsAre vs ns) (hl : ns.length ≤ sizeLine) (hr : Room k callerA) (hk : K.lookup a = none)
    (F : ∀ base : Heap, FnG P w K mg base k fa fd [x] sp) (hbind : ∀ (s : Shared) (u : Value), K.In s.heap → BindsTo s fd ⟨[u], []⟩ [(x, u)])
    (hsp : ∀ H : Hp, H a = some (.frz { cls := .type "list", data := .seq vs.toArray } (.lst (ns.map V.int))) → sp [.ref a] H (fun v _ => v = .bl true) fun _ _ _ => False) :
    codeAny (model P w) callerA (.call (.ref fa) ⟨[.ref a], []⟩) (fun r s' => r = .ok (.ret (.bool true)) ∧ OldK s1.heap s'.heap ∧ s'.os = s1.os ∧ AllBare s'.gens) s1 := by
  have rv := vals_ints hi
  let H : Hp := fun b => if b = a then some (.frz { cls := .type "list", data := .seq vs.toArray } (.lst (ns.map V.int))) else none
  have Ha : H a = some (.frz { cls := .type "list", data := .seq vs.toArray } (.lst (ns.map V.int))) := if_pos rfl
  have Hn : ∀ {b : Addr}, b ≠ a → H b = none := fun {b} n => if_neg n
  have hok : HOk P w H s1.heap := fun b u z => by
    by_cases e : b = a
    · subst e
      rw [Ha] at z
      cases z
      exact ⟨ha, (List.length_map (as := ns) V.int).symm ▸ hl, vs, _, rv, ha⟩
    · rw [Hn e] at z
      cases z
  have there : ∀ {b : Addr} {o : Obj}, b ≠ a → s1.heap.get? b = some o → (hidT s1.heap H).get? b = some o := fun n e => hidT_get e (Hn n)
  have nsK : ∀ {b : Addr} {m : Str → Option Value}, s1.heap.Ns b m → (hidT s1.heap H).Ns b m := fun {b m} ⟨o, es, ep, e, d, r⟩ => ⟨o, es, ep, there (fun z => by
    rw [z, ha] at e
    cases e
    cases d) e, d, r⟩
  have hKb : K.In (hidT s1.heap H) := fun b o e => there (fun z => by rw [z, hk] at e; cases e) (KX b o e)
  have hM : Mod K mg (hidT s1.heap H) := ⟨hKb, nsK hns, ⟨mb, nsK hb, hbb⟩, let ⟨mc, h1, h2⟩ := hlim; ⟨mc, nsK h1, h2⟩⟩
  have e0 : Env0 P w K mg (hidT s1.heap H) callerA [] s1 H := ⟨rfl, hM, fun b o e => of_hidT e, Nat.le_of_eq (hidT_size _ _), trivial, fun b hb => (List.not_mem_nil (show b ∈ ([] : List Addr) from hb)).elim, hok, .of_eq hg⟩
  refine codeAny_mono ((F (hidT s1.heap H)).run callerA [] s1 H ⟨[.ref a], []⟩ [.ref a] [.ref a] _ _ hr rfl e0 (hbind s1 (.ref a) KX) (.cons rfl .nil) (hsp H Ha)) fun r s' h => ?_
  cases r with
  | error e =>
    obtain ⟨_, _, _, _, _, _, _, _, _, _, _, _, z⟩ := h
    exact z.elim
  | ok fl =>
    cases fl with
    | ret u =>
      obtain ⟨v, H2, os2, bare2, un, hok', rv2, hv⟩ := h
      cases (show v = .bl true from hv)
      cases (show u = Value.bool true from rv2)
      refine ⟨rfl, OldK.of_keep fun b o e => ?_, os2, bare2⟩
      by_cases z : b = a
      · subst z
        obtain ⟨e2, _⟩ := hok' b _ (un.frzs b _ _ Ha)
        rw [ha] at e
        cases e
        exact e2
      · exact un.keep b o e (Hn z) (fun y => (List.not_mem_nil (show b ∈ ([] : List Addr) from y)).elim) (by simp)
    | _ => exact False.elim h
theorem noList_ok {K : PySem.W.Frag} (h : noList K = true) {a : Addr} {n : Nat} {dd : Option Addr} {sl : Array (Option Value)} {its : Array Value} {o : Obj} (e : K.lookup a = some o) (ho : o = ⟨.type "list", dd, .seq its n, sl⟩) : False := by
  have m : (a, o) ∈ K := by
    have key : ∀ {l : List (Addr × Obj)}, l.lookup a = some o → (a, o) ∈ l := by
      intro l
      induction l with
      | nil => intro h; cases h
      | cons p l ih =>
        intro h
        rw [List.lookup_cons] at h
        cases q : (a == p.1) with
        | true =>
          rw [q] at h
          cases h
          rw [beq_iff_eq.mp q]
          exact List.mem_cons_self
        | false =>
          rw [q] at h
          exact List.mem_cons_of_mem _ (ih h)
    exact key e
  have q := List.all_eq_true.mp h _ m
  subst ho
  simp at q
theorem ints_rel (G : Gx) (rho : List Addr) (H : Hp) : ∀ {ns : List Int}, RelWs G rho H (ns.map W.int) (ns.map V.int)
  | [] => RelWs.nil
  | z :: r => RelWs.cons rfl (ints_rel G rho H (ns := r))
/-- THE END: the law holds, if the machine answers True at every script -/
theorem walk_M {l : PySem.W.OpenLaw} {n k d f : Nat} {q : Program} {loose : List Str} {XP : (Str → Option Value) → Heap → Prop} {dr : DefRec} {t : Tb} (hn : l.most = some n) (hn2 : n ≤ sizeLine) (hdf : dr.params.defaults = []) (hr : Room (d + 1) callerA)
    (hs : t.dfs.all scB = true) (hfile : ((l.prog.main.file : Str) == t.file) = true) (htop : (l.prog.main.scope.names.lookup ("super" : Str)).isSome = false) (hnm : dr.name = "law") {i : FnI} (hlaw : t.pg.fn "law" = some i) (hpar : i.params = ([("_law_script" : Str)] : List Str))
    (hlawT : ∀ ns : List Int, ns.length ≤ n → ∃ m', callAt t.pg f (d + 1) "law" [.ref 0] [.ro (ns.map W.int)] = .ok (.bl true) m') :
    PySem.W.WalkO q loose XP (hookM t k).says l.row.toRowW dr [] (fun f vs => PySem.call f vs) := by
  refine Att.attach_callB hn hdf fun w s0 s1 mg mb fa o pm cd doc a vs ns G Y ho hd hcd hmg hobj hints hlen hbits hg => ?_
  obtain ⟨K, KX, hk, hf⟩ := Y
  have S : Stat t.pg (Tb.gx K) l.prog mg := stat_of KX G.T.g hk hf hs hfile htop
  have hnl : noList K = true := by
    unfold tbB at hk
    simp only [Bool.and_eq_true] at hk
    exact hk.1.1.1.1.1.1.2
  have hka : K.lookup a = none := by
    cases e : K.lookup a with
    | none => rfl
    | some ob =>
      have q := KX a ob e
      rw [hobj] at q
      exact (noList_ok hnl e (Option.some.inj q).symm).elim
  rw [hnm] at hmg
  obtain ⟨a1, fd, h1, FS⟩ := S.fn _ _ hlaw
  rw [hmg] at h1
  cases h1
  have hF : ∀ base : Heap, FnG l.prog w K mg base (d + 1) fa fd i.params (spOf (Tb.gx K) i.params.length (callAt t.pg f (d + 1) "law")) := fun base => by
    have q := fn_sound (n := f) (hyp_of (w := w) (base := base) S f d) FS
    have e : callAt t.pg f (d + 1) "law" = runFn t.pg (callAt t.pg f d) f i := by
      funext ws m
      show (match t.pg.fn "law" with
        | some i => runFn t.pg (callAt t.pg f d) f i ws m
        | none => .no) = _
      rw [hlaw]
    rw [e]
    exact q
  rw [hpar] at hF
  refine law_callG KX G.T.g G.T.b G.T.builtins G.T.nolimit hg hobj hints (Nat.le_trans hlen hn2) hr hka hF (fun s u hK => ?_) fun H hH => ?_
  · have q := FS.bd s [u] hK (by rw [hpar]; rfl)
    rw [hpar] at q
    exact q
  · obtain ⟨m', hm⟩ := hlawT ns hlen
    refine ⟨rfl, [a], [.ro (ns.map W.int)], [.ref 0], ⟨rfl, by simp, fun j b ob e1 e2 => ?_⟩, RelWs.cons ⟨a, rfl, rfl⟩ RelWs.nil, ?_⟩
    · cases j with
      | zero =>
        cases e1
        cases e2
        refine ⟨_, _, hH, ?_⟩
        exact ints_rel _ _ _
      | succ j => simp at e1
    · rw [hm]
      intro r' H' b f' rm rb
      exact rb
end Mach
namespace K69
open PySem PySem.W PySem.Calls PyProof.Rows Mach
def top (i : Nat) : Stmt := PySem.Challenge.pw_givenout_k69_errors_with_any_value.main.body.getD i (.Pass ⟨0, 0, 0, 0⟩)
def d_law_pot_of : Df := ⟨"_law_pot_of", top 35, ["_law_script", "_law_k", "_law_cell", "_law_own"]⟩
def d_law_take : Df := ⟨"_law_take", top 36, ["_law_pot", "_law_upto", "_law_digit", "_law_prime", "_law_mixed"]⟩
def d_law_of : Df := ⟨"_law_of", top 37, ["_law_pot", "_law_some"]⟩
def d_law_any : Df := ⟨"_law_any", top 38, ["_law_pot", "_law_some", "_law_found", "_law_turn"]⟩
def d_law_made : Df := ⟨"_law_made", top 39, ["_law_thing", "_law_found"]⟩
def d_law_flags : Df := ⟨"_law_flags", top 40, ["_law_error", "_law_found"]⟩
def d_law_right : Df := ⟨"_law_right", top 41, ["_law_pot", "_law_thing", "_law_shown", "_law_made_here", "_law_others_here", "_law_every", "_law_at", "_law_error", "_law_place"]⟩
def dlaw : Df := ⟨"law", top 42, ["_law_script", "_law_k", "_law_pot", "_law_turn"]⟩
def dfs : List Df := [d_law_pot_of, d_law_take, d_law_of, d_law_any, d_law_made, d_law_flags, d_law_right, dlaw]
def excs : List (Str × Option Str) := [("BadText", some "number"), ("BadStand", some "value"), ("NoMove", some "value"), ("BadRun", some "number"), ("BadReader", some "value"), ("BadMemory", some "value"), ("BadMove", some "value"), ("BadRows", some "value"), ("BadPool", some "value"), ("BadAsk", some "value"), ("BadAsks", some "value"), ("BadCase", some "value"), ("BadView", some "value"), ("BadCount", some "value"), ("Unsure", some "answers"), ("BadSecrets", some "value"), ("BadNeeds", some "value"), ("BadOffers", some "value"), ("BadChanges", some "value"), ("BadChange", some "value"), ("BadOthers", some "value"), ("BadWays", some "value"), ("BadDeed", some "value"), ("BadNumber", some "value"), ("BadGuards", some "value"), ("BadRules", some "value"), ("BadLine", some "value"), ("Telling", some "number"), ("TooMany", some "number"), ("NothingToUndo", none), ("NothingToRedo", none), ("NoTrial", none)]
def frees : List Str := ["ValueError", "abs", "all", "enumerate", "int", "isinstance", "len", "max", "min", "range", "repr", "super"]
def tb : Tb := ⟨dfs, excs, frees, true, PySem.Challenge.pw_givenout_k69_errors_with_any_value.main.file⟩
def loose : List PySem.Str := (["GivenError", "BadText", "BadStand", "NoMove", "BadRun", "BadReader", "BadMemory", "BadMove", "BadRows", "BadPool", "BadAsk", "BadAsks", "BadCase", "BadView", "BadCount", "Unsure", "BadSecrets", "BadNeeds", "BadOffers", "BadChanges", "BadChange", "BadOthers", "BadWays", "BadDeed", "BadNumber", "BadGuards", "BadRules", "BadLine", "Telling", "TooMany"] : List PySem.Str) ++ (["NothingToUndo", "NothingToRedo", "NoTrial", "_law_pot_of", "_law_take", "_law_of", "_law_any", "_law_made", "_law_flags", "_law_right"] : List PySem.Str)
abbrev R : OpenRow := OpenLaw.row PySem.Challenge.rw_givenout_k69_errors_with_any_value
abbrev qv : Program := view R.prog [42]
abbrev hk : Hook := hookM tb 4
def ob (s : SharedT) : AlM := obsM tb 4 (HandSHeadRun.getT s)
theorem ob_eq (s : SharedT) : ob s = hk.obs s.abs := obsM_eq (HandSHeadRun.getT_eq s)
theorem run (w : World) : HandSHeadRun.RunEq R qv hk ob 20000 loose w := by
  intro os
  kernel_rfl
end K69
namespace Mach
open PySem
def itRange (A : M W) : M Itr := mbind A fun w => match w with
  | .int j => if decide (0 ≤ j) && decide (j ≤ 1000000) then mpure (.seq ((List.range j.toNat).map fun i => .int (i : Nat))) else mno
  | _ => mno
def itEnum (A : M W) : M Itr := mbind A fun w => fun _ m => match w with
  | .ref p => (match seqM m p with
    | some _ => .ok (.enum p) m
    | none => .no)
  | _ => .no
def itAny (A : M W) : M Itr := mbind A fun w => fun _ m => match w with
  | .ref p => (match seqM m p with
    | some _ => .ok (.lst p) m
    | none => .no)
  | .tup xs => .ok (.seq xs) m
  | _ => .no
def tgN (i : Nat) (w : W) (e : Ev) : Option Ev := some (e.set i (some w))
def tgT.go : List (W → Ev → Option Ev) → List W → Ev → Option Ev
  | [], [], e => some e
  | t :: ts, w :: ws, e => (t w e).bind fun e' => tgT.go ts ws e'
  | _, _, _ => none
def tgT (ts : List (W → Ev → Option Ev)) : W → Ev → Option Ev
  | .tup ws, e => if decide (ts.length = ws.length) && true then tgT.go ts ws e else none
  | _, _ => none
def lcS (I : M Itr) (tg : W → Ev → Option Ev) (t : M Bool) (elt : M W) (own : List Nat) : M W :=
  mbind I fun it => fun e m => (compM it tg t elt (wipeE e own) lids 0 [] m).bind fun ws m' => alloc (.lst ws) m'
def pairS (i j : Nat) (ws : List W) : MS := match ws with
  | [u, w] => sSet fun e => some ((e.set i (some u)).set j (some w))
  | _ => sNo
end Mach
namespace K69
open PySem PySem.W Mach
def sh_pot_of (call : Str → List Mach.W → Mu → Res Mach.W) : MS := sSeq (sE (mif (mtru (mop2 (cmpM .Lt) (mvar 1) (mbind (mAll id [mvar 0]) fun ws => mval (bltM "len" ws)))) (mop2 subM' (mvar 0) (mvar 1)) (mop2 (binM .Add) (mop2 (binM .Mult) (mpure (.int 47)) (mvar 1)) (mpure (.int 19)))) fun w => sSet fun e => some (e.set 2 (some w))) (sSeq (sE (mop2 (binM .Mult) (mop2 (binM .Mod) (mbind (mAll id [mbind (mAll id [mvar 2]) fun ws => mval (bltM "abs" ws)]) fun ws => mval (bltM "int" ws)) (mop2 (binM .Pow) (mop2 (binM .Pow) (mpure (.int 10)) (mpure (.int 60))) (mpure (.int 5)))) (mbind (mAll id [mop2 (cmpM .GtE) (mbind (mAll id [mvar 2]) fun ws => mval (bltM "abs" ws)) (mop2 (binM .Pow) (mpure (.int 10)) (mpure (.int 18)))]) fun ws => mval (bltM "int" ws))) fun w => sSet fun e => some (e.set 3 (some w))) (sSeq (sRet (mbind (mAll id [mvar 3, mop2 (binM .Mod) (mop2 (binM .Add) (mop2 (binM .Add) (mop2 (binM .Mult) (mop2 (binM .Mod) (mbind (mAll id [mvar 2]) fun ws => mval (bltM "int" ws)) (mpure (.int 2305843009213693951))) (mpure (.int 70979))) (mop2 (binM .Mult) (mop2 (binM .Mult) (mpure (.int 7103)) (mvar 1)) (mvar 1))) (mpure (.int 37))) (mpure (.int 2305843009213693921)), mpure (.int 0)]) fun ws => mval (alloc (.lst ws)))) (sNext)))
theorem eq_pot_of (call : Str → List Mach.W → Mu → Res Mach.W) : sAll ((ev tb.pg call 40).S ⟨d_law_pot_of.fni.scope, false, d_law_pot_of.fni.names⟩) d_law_pot_of.fni.body = sh_pot_of call := by kernel_rfl
def sh_take (call : Str → List Mach.W → Mu → Res Mach.W) : MS := sSeq (sE (mtru (mop2 (cmpM .Gt) (mop2 subM' (mvar 0) (mpure (.int 0))) (mpure (.int 0)))) fun k => if k = true then (sSeq (sE (mop2 (binM .Mod) (mbind (mAll id [mop2 subM' (mvar 0) (mpure (.int 0))]) fun ws => mval (bltM "int" ws)) (mvar 1)) fun w => sSet fun e => some (e.set 2 (some w))) (sSeq (sE (mop2 (binM .FloorDiv) (mop2 subM' (mvar 0) (mpure (.int 0))) (mvar 1)) fun w => sE (mvar 0) fun x => sE (mpure (.int 0)) fun y => sE (mval (setM x y w)) fun _ => sNext) (sSeq (sRet (mvar 2)) (sNext)))) else (sNext)) (sSeq (sE (mop2 (binM .Add) (mop2 subM' (mvar 0) (mpure (.int 2))) (mpure (.int 1))) fun w => sE (mvar 0) fun x => sE (mpure (.int 2)) fun y => sE (mval (setM x y w)) fun _ => sNext) (sSeq (sE (mop2 subM' (mbind (mAll id [mpure (.int 2147483647), mpure (.int 2147483629), mpure (.int 2147483587), mpure (.int 2147483579), mpure (.int 2147483563)]) fun ws => mval (alloc (.lst ws))) (mop2 (binM .Mod) (mbind (mAll id [mop2 subM' (mvar 0) (mpure (.int 2))]) fun ws => mval (bltM "int" ws)) (mpure (.int 5)))) fun w => sSet fun e => some (e.set 3 (some w))) (sSeq (sE (mop2 (binM .Mod) (mop2 (binM .Pow) (mbind (mAll id [mop2 (binM .Add) (mop2 (binM .Add) (mop2 subM' (mvar 0) (mpure (.int 1))) (mop2 (binM .Mult) (mop2 (binM .Mult) (mpure (.int 60037)) (mop2 subM' (mvar 0) (mpure (.int 2)))) (mop2 subM' (mvar 0) (mpure (.int 2))))) (mpure (.int 59))]) fun ws => mval (bltM "int" ws)) (mpure (.int 3))) (mvar 3)) fun w => sSet fun e => some (e.set 4 (some w))) (sSeq (sRet (mop2 (binM .Mod) (mop2 (binM .FloorDiv) (mop2 (binM .Mod) (mbind (mAll id [mop2 (binM .Mult) (mvar 4) (mop2 (binM .Add) (mop2 (binM .Mod) (mbind (mAll id [mvar 4]) fun ws => mval (bltM "int" ws)) (mpure (.int 10037))) (mop2 (binM .Mult) (mpure (.int 89)) (mop2 subM' (mvar 0) (mpure (.int 2)))))]) fun ws => mval (bltM "int" ws)) (mpure (.int 2305843009213693951))) (mpure (.int 101))) (mvar 1))) (sNext)))))
theorem eq_take (call : Str → List Mach.W → Mu → Res Mach.W) : sAll ((ev tb.pg call 40).S ⟨d_law_take.fni.scope, false, d_law_take.fni.names⟩) d_law_take.fni.body = sh_take call := by kernel_rfl
def sh_of (call : Str → List Mach.W → Mu → Res Mach.W) : MS := sSeq (sRet (mop2 subM' (mvar 1) (mbind (mAll id [mvar 0, mbind (mAll id [mvar 1]) fun ws => mval (bltM "len" ws)]) fun ws => if decide (ws.length = 2) = true then (fun _ m => call "_law_take" ws m) else mno))) (sNext)
theorem eq_of (call : Str → List Mach.W → Mu → Res Mach.W) : sAll ((ev tb.pg call 40).S ⟨d_law_of.fni.scope, false, d_law_of.fni.names⟩) d_law_of.fni.body = sh_of call := by kernel_rfl
def sh_any_1 (call : Str → List Mach.W → Mu → Res Mach.W) : MS := sSeq (sE (mbind (mAll id [mvar 0, mbind (mAll id [mbind (mAll id [mvar 2]) fun ws => mpure (.tup ws), mbind (mAll id [mvar 2]) fun ws => mval (alloc (.lst ws)), mbind (mAll id [mvar 2]) fun ws => mval (dictM ["a"] ws), mbind (mAll id [mvar 2, mpure (.int 0)]) fun ws => mpure (.tup ws)]) fun ws => mval (alloc (.lst ws))]) fun ws => if decide (ws.length = 2) = true then (fun _ m => call "_law_of" ws m) else mno) fun w => sSet fun e => some (e.set 2 (some w))) (sNext)
def sh_any (call : Str → List Mach.W → Mu → Res Mach.W) : MS := sSeq (sE (mbind (mAll id [mpure .non, mpure (.bl true), mpure (.bl false), mpure (.int 0), mop1 negM (mpure (.int 1)), mop2 (binM .Pow) (mpure (.int 10)) (mpure (.int 17)), mpure (.str ""), mpure (.str "row k a"), mpure (.str "\n"), mbind (mAll id []) fun ws => mpure (.tup ws), mbind (mAll id []) fun ws => mval (alloc (.lst ws)), mbind (mAll id []) fun ws => mval (dictM [] ws), mbind (mAll id [mpure (.str "a"), mpure (.int 1)]) fun ws => mpure (.tup ws), mbind (mAll id [mpure (.str "a")]) fun ws => mval (alloc (.lst ws)), mbind (mAll id [mbind (mAll id [mpure (.int 1), mpure .non]) fun ws => mpure (.tup ws)]) fun ws => mval (dictM ["a"] ws)]) fun ws => mval (alloc (.lst ws))) fun w => sSet fun e => some (e.set 1 (some w))) (sSeq (sE (mbind (mAll id [mvar 0, mvar 1]) fun ws => if decide (ws.length = 2) = true then (fun _ m => call "_law_of" ws m) else mno) fun w => sSet fun e => some (e.set 2 (some w))) (sSeq (sE (itRange (mbind (mAll id [mvar 0, mbind (mAll id [mpure (.int 0), mpure (.int 0), mpure (.int 1), mpure (.int 2), mpure (.int 36)]) fun ws => mval (alloc (.lst ws))]) fun ws => if decide (ws.length = 2) = true then (fun _ m => call "_law_of" ws m) else mno)) fun it => forS it (tgN 3) (sh_any_1 call) lids 0) (sSeq (sRet (mvar 2)) (sNext))))
theorem eq_any (call : Str → List Mach.W → Mu → Res Mach.W) : sAll ((ev tb.pg call 40).S ⟨d_law_any.fni.scope, false, d_law_any.fni.names⟩) d_law_any.fni.body = sh_any call := by kernel_rfl
def sh_made (call : Str → List Mach.W → Mu → Res Mach.W) : MS := sSeq (sE (mbind (mAll id [mbind (mAll id [mvar 0]) fun ws => mval (mkExc "BadStand" (some "value") ws), mbind (mAll id [mvar 0]) fun ws => mval (mkExc "NoMove" (some "value") ws), mbind (mAll id [mvar 0]) fun ws => mval (mkExc "BadReader" (some "value") ws), mbind (mAll id [mvar 0]) fun ws => mval (mkExc "BadMemory" (some "value") ws), mbind (mAll id [mvar 0]) fun ws => mval (mkExc "BadMove" (some "value") ws), mbind (mAll id [mvar 0]) fun ws => mval (mkExc "BadRows" (some "value") ws)]) fun ws => mval (alloc (.lst ws))) fun w => sSet fun e => some (e.set 1 (some w))) (sSeq (sE (mop2 (binM .Add) (mvar 1) (mbind (mAll id [mbind (mAll id [mvar 0]) fun ws => mval (mkExc "BadPool" (some "value") ws), mbind (mAll id [mvar 0]) fun ws => mval (mkExc "BadAsk" (some "value") ws), mbind (mAll id [mvar 0]) fun ws => mval (mkExc "BadAsks" (some "value") ws), mbind (mAll id [mvar 0]) fun ws => mval (mkExc "BadCase" (some "value") ws), mbind (mAll id [mvar 0]) fun ws => mval (mkExc "BadView" (some "value") ws), mbind (mAll id [mvar 0]) fun ws => mval (mkExc "BadCount" (some "value") ws)]) fun ws => mval (alloc (.lst ws)))) fun w => sSet fun e => some (e.set 1 (some w))) (sSeq (sE (mop2 (binM .Add) (mvar 1) (mbind (mAll id [mbind (mAll id [mvar 0]) fun ws => mval (mkExc "BadSecrets" (some "value") ws), mbind (mAll id [mvar 0]) fun ws => mval (mkExc "BadNeeds" (some "value") ws), mbind (mAll id [mvar 0]) fun ws => mval (mkExc "BadOffers" (some "value") ws), mbind (mAll id [mvar 0]) fun ws => mval (mkExc "BadChanges" (some "value") ws), mbind (mAll id [mvar 0]) fun ws => mval (mkExc "BadChange" (some "value") ws)]) fun ws => mval (alloc (.lst ws)))) fun w => sSet fun e => some (e.set 1 (some w))) (sSeq (sE (mop2 (binM .Add) (mvar 1) (mbind (mAll id [mbind (mAll id [mvar 0]) fun ws => mval (mkExc "BadOthers" (some "value") ws), mbind (mAll id [mvar 0]) fun ws => mval (mkExc "BadWays" (some "value") ws), mbind (mAll id [mvar 0]) fun ws => mval (mkExc "BadDeed" (some "value") ws), mbind (mAll id [mvar 0]) fun ws => mval (mkExc "BadNumber" (some "value") ws), mbind (mAll id [mvar 0]) fun ws => mval (mkExc "BadGuards" (some "value") ws)]) fun ws => mval (alloc (.lst ws)))) fun w => sSet fun e => some (e.set 1 (some w))) (sSeq (sRet (mop2 (binM .Add) (mvar 1) (mbind (mAll id [mbind (mAll id [mvar 0]) fun ws => mval (mkExc "BadRules" (some "value") ws), mbind (mAll id [mvar 0]) fun ws => mval (mkExc "BadLine" (some "value") ws)]) fun ws => mval (alloc (.lst ws))))) (sNext)))))
theorem eq_made (call : Str → List Mach.W → Mu → Res Mach.W) : sAll ((ev tb.pg call 40).S ⟨d_law_made.fni.scope, false, d_law_made.fni.names⟩) d_law_made.fni.body = sh_made call := by kernel_rfl
def sh_flags (call : Str → List Mach.W → Mu → Res Mach.W) : MS := sSeq (sE (mbind (mAll id [mop1 (isM tb.pg "BadStand") (mvar 0), mop1 (isM tb.pg "NoMove") (mvar 0), mop1 (isM tb.pg "BadReader") (mvar 0)]) fun ws => mval (alloc (.lst ws))) fun w => sSet fun e => some (e.set 1 (some w))) (sSeq (sE (mop2 (binM .Add) (mvar 1) (mbind (mAll id [mop1 (isM tb.pg "BadMemory") (mvar 0), mop1 (isM tb.pg "BadMove") (mvar 0), mop1 (isM tb.pg "BadRows") (mvar 0)]) fun ws => mval (alloc (.lst ws)))) fun w => sSet fun e => some (e.set 1 (some w))) (sSeq (sE (mop2 (binM .Add) (mvar 1) (mbind (mAll id [mop1 (isM tb.pg "BadPool") (mvar 0), mop1 (isM tb.pg "BadAsk") (mvar 0), mop1 (isM tb.pg "BadAsks") (mvar 0)]) fun ws => mval (alloc (.lst ws)))) fun w => sSet fun e => some (e.set 1 (some w))) (sSeq (sE (mop2 (binM .Add) (mvar 1) (mbind (mAll id [mop1 (isM tb.pg "BadCase") (mvar 0), mop1 (isM tb.pg "BadView") (mvar 0), mop1 (isM tb.pg "BadCount") (mvar 0)]) fun ws => mval (alloc (.lst ws)))) fun w => sSet fun e => some (e.set 1 (some w))) (sSeq (sE (mop2 (binM .Add) (mvar 1) (mbind (mAll id [mop1 (isM tb.pg "BadSecrets") (mvar 0), mop1 (isM tb.pg "BadNeeds") (mvar 0), mop1 (isM tb.pg "BadOffers") (mvar 0)]) fun ws => mval (alloc (.lst ws)))) fun w => sSet fun e => some (e.set 1 (some w))) (sSeq (sE (mop2 (binM .Add) (mvar 1) (mbind (mAll id [mop1 (isM tb.pg "BadChanges") (mvar 0), mop1 (isM tb.pg "BadChange") (mvar 0), mop1 (isM tb.pg "BadOthers") (mvar 0)]) fun ws => mval (alloc (.lst ws)))) fun w => sSet fun e => some (e.set 1 (some w))) (sSeq (sE (mop2 (binM .Add) (mvar 1) (mbind (mAll id [mop1 (isM tb.pg "BadWays") (mvar 0), mop1 (isM tb.pg "BadDeed") (mvar 0), mop1 (isM tb.pg "BadNumber") (mvar 0)]) fun ws => mval (alloc (.lst ws)))) fun w => sSet fun e => some (e.set 1 (some w))) (sSeq (sE (mop2 (binM .Add) (mvar 1) (mbind (mAll id [mop1 (isM tb.pg "BadGuards") (mvar 0), mop1 (isM tb.pg "BadRules") (mvar 0), mop1 (isM tb.pg "BadLine") (mvar 0)]) fun ws => mval (alloc (.lst ws)))) fun w => sSet fun e => some (e.set 1 (some w))) (sSeq (sE (mop2 (binM .Add) (mvar 1) (mbind (mAll id [mop1 (isM tb.pg "BadText") (mvar 0), mop1 (isM tb.pg "BadRun") (mvar 0), mop1 (isM tb.pg "Telling") (mvar 0)]) fun ws => mval (alloc (.lst ws)))) fun w => sSet fun e => some (e.set 1 (some w))) (sSeq (sE (mop2 (binM .Add) (mvar 1) (mbind (mAll id [mop1 (isM tb.pg "TooMany") (mvar 0), mop1 (isM tb.pg "Unsure") (mvar 0), mop1 (isM tb.pg "NothingToUndo") (mvar 0)]) fun ws => mval (alloc (.lst ws)))) fun w => sSet fun e => some (e.set 1 (some w))) (sSeq (sRet (mop2 (binM .Add) (mvar 1) (mbind (mAll id [mop1 (isM tb.pg "NothingToRedo") (mvar 0), mop1 (isM tb.pg "NoTrial") (mvar 0)]) fun ws => mval (alloc (.lst ws))))) (sNext)))))))))))
theorem eq_flags (call : Str → List Mach.W → Mu → Res Mach.W) : sAll ((ev tb.pg call 40).S ⟨d_law_flags.fni.scope, false, d_law_flags.fni.names⟩) d_law_flags.fni.body = sh_flags call := by kernel_rfl
def sh_right_1 (call : Str → List Mach.W → Mu → Res Mach.W) : M Mach.W := mbind (mAll id [mop1 (attrM tb.pg "value") (mvar 7)]) fun ws => mval (bltM "repr" ws)
def sh_right_2 (call : Str → List Mach.W → Mu → Res Mach.W) : M Mach.W := mop2 (cmpM .Eq) (mvar 8) (mvar 6)
def sh_right_3 (call : Str → List Mach.W → Mu → Res Mach.W) : MS := sSeq (sE (mif (mbind (mtru (mop1 (isM tb.pg "GivenError") (mvar 7))) fun k => mpure (!k)) (mpure true) (mbind (mtru (mop1 (isM tb.pg "ValueError") (mvar 7))) fun k => mpure (!k))) fun k => if k = true then (sSeq (sRet (mpure (.bl false))) (sNext)) else (sNext)) (sSeq (sE (mtru (mop2 (cmpM .NotEq) (mbind (mAll id [mvar 7]) fun ws => if decide (ws.length = 1) = true then (fun _ m => call "_law_flags" ws m) else mno) (lcS (itRange (mbind (mAll id [mvar 5]) fun ws => mval (bltM "len" ws))) (tgN 8) (mpure true) (sh_right_2 call) [8]))) fun k => if k = true then (sSeq (sRet (mpure (.bl false))) (sNext)) else (sNext)) (sNext))
def sh_right_4 (call : Str → List Mach.W → Mu → Res Mach.W) : M Mach.W := mop2 (cmpM .Eq) (mbind (mAll id [mop1 (attrM tb.pg "number") (mvar 7)]) fun ws => mval (bltM "repr" ws)) (mvar 2)
def sh_right_5 (call : Str → List Mach.W → Mu → Res Mach.W) : M Mach.W := mop2 (cmpM .Eq) (mbind (mAll id [mop1 (attrM tb.pg "value") (mvar 7)]) fun ws => mval (bltM "repr" ws)) (mvar 2)
def sh_right (call : Str → List Mach.W → Mu → Res Mach.W) : MS := sSeq (sE (mbind (mAll id [mvar 0]) fun ws => if decide (ws.length = 1) = true then (fun _ m => call "_law_any" ws m) else mno) fun w => sSet fun e => some (e.set 1 (some w))) (sSeq (sE (mbind (mAll id [mvar 1]) fun ws => mval (bltM "repr" ws)) fun w => sSet fun e => some (e.set 2 (some w))) (sSeq (sE (mAll id [mbind (mAll id [mvar 1]) fun ws => if decide (ws.length = 1) = true then (fun _ m => call "_law_made" ws m) else mno, mbind (mAll id [mbind (mAll id [mvar 1]) fun ws => mval (mkExc "BadText" (some "number") ws), mbind (mAll id [mvar 1]) fun ws => mval (mkExc "BadRun" (some "number") ws), mbind (mAll id [mvar 1]) fun ws => mval (mkExc "Telling" (some "number") ws), mbind (mAll id [mvar 1]) fun ws => mval (mkExc "TooMany" (some "number") ws)]) fun ws => mval (alloc (.lst ws))]) fun ws => pairS 3 4 ws) (sSeq (sE (mbind (mtru (mbind (mAll id [lcS (itAny (mvar 3)) (tgN 7) (mpure true) (sh_right_5 call) [7]]) fun ws => mval (bltM "all" ws))) fun k => mpure (!k)) fun k => if k = true then (sSeq (sRet (mpure (.bl false))) (sNext)) else (sNext)) (sSeq (sE (mif (mbind (mtru (mbind (mAll id [lcS (itAny (mvar 4)) (tgN 7) (mpure true) (sh_right_4 call) [7]]) fun ws => mval (bltM "all" ws))) fun k => mpure (!k)) (mpure true) (mtru (mop2 (cmpM .NotEq) (mbind (mAll id [mop1 (attrM tb.pg "answers") (mbind (mAll id [mvar 1]) fun ws => mval (mkExc "Unsure" (some "answers") ws))]) fun ws => mval (bltM "repr" ws)) (mvar 2)))) fun k => if k = true then (sSeq (sRet (mpure (.bl false))) (sNext)) else (sNext)) (sSeq (sE (mop2 (binM .Add) (mop2 (binM .Add) (mvar 3) (mvar 4)) (mbind (mAll id [mbind (mAll id [mvar 1]) fun ws => mval (mkExc "Unsure" (some "answers") ws), mbind (mAll id []) fun ws => mval (mkExc "NothingToUndo" none ws), mbind (mAll id []) fun ws => mval (mkExc "NothingToRedo" none ws), mbind (mAll id []) fun ws => mval (mkExc "NoTrial" none ws)]) fun ws => mval (alloc (.lst ws)))) fun w => sSet fun e => some (e.set 5 (some w))) (sSeq (sE (itEnum (mvar 5)) fun it => forS it (tgT [(tgN 6), (tgN 7)]) (sh_right_3 call) lids 0) (sSeq (sE (mbind (mAll id [mbind (mvar 1) fun w => mval (mkExc "BadStand" (some "value") [w]), mbind (mvar 1) fun w => mval (mkExc "BadPool" (some "value") [w]), mbind (mvar 1) fun w => mval (mkExc "BadLine" (some "value") [w])]) fun ws => mval (alloc (.lst ws))) fun w => sSet fun e => some (e.set 3 (some w))) (sSeq (sE (mif (mtru (mop2 (cmpM .NotEq) (lcS (itAny (mvar 3)) (tgN 7) (mpure true) (sh_right_1 call) [7]) (mop2 (binM .Mult) (mbind (mAll id [mvar 2]) fun ws => mval (alloc (.lst ws))) (mpure (.int 3))))) (mpure true) (mtru (mop2 (cmpM .NotEq) (mbind (mAll id [mop1 (attrM tb.pg "number") (mbind (mvar 1) fun w => mval (mkExc "BadText" (some "number") [w]))]) fun ws => mval (bltM "repr" ws)) (mvar 2)))) fun k => if k = true then (sSeq (sRet (mpure (.bl false))) (sNext)) else (sNext)) (sSeq (sRet (boolM true [mop2 (cmpM .Eq) (mbind (mAll id [mop1 (attrM tb.pg "answers") (mbind (mvar 1) fun w => mval (mkExc "Unsure" (some "answers") [w]))]) fun ws => mval (bltM "repr" ws)) (mvar 2), mop2 (cmpM .Eq) (mbind (mAll id [mvar 1]) fun ws => mval (bltM "repr" ws)) (mvar 2)])) (sNext))))))))))
theorem eq_right (call : Str → List Mach.W → Mu → Res Mach.W) : sAll ((ev tb.pg call 40).S ⟨d_law_right.fni.scope, false, d_law_right.fni.names⟩) d_law_right.fni.body = sh_right call := by kernel_rfl
def sh_law_1 (call : Str → List Mach.W → Mu → Res Mach.W) : M Mach.W := mbind (mAll id [mvar 2]) fun ws => if decide (ws.length = 1) = true then (fun _ m => call "_law_right" ws m) else mno
def sh_law_2 (call : Str → List Mach.W → Mu → Res Mach.W) : MS := sSeq (sE (mbind (mAll id [mvar 0, mvar 1]) fun ws => if decide (ws.length = 2) = true then (fun _ m => call "_law_pot_of" ws m) else mno) fun w => sSet fun e => some (e.set 2 (some w))) (sSeq (sE (mbind (mtru (mbind (mAll id [lcS (itRange (mpure (.int 4))) (tgN 3) (mpure true) (sh_law_1 call) [3]]) fun ws => mval (bltM "all" ws))) fun k => mpure (!k)) fun k => if k = true then (sSeq (sRet (mpure (.bl false))) (sNext)) else (sNext)) (sNext))
def sh_law (call : Str → List Mach.W → Mu → Res Mach.W) : MS := sSeq (sE (itRange (mbind (mAll id [mpure (.int 1), mbind (mAll id [mpure (.int 4), mbind (mAll id [mvar 0]) fun ws => mval (bltM "len" ws)]) fun ws => mval (bltM "min" ws)]) fun ws => mval (bltM "max" ws))) fun it => forS it (tgN 1) (sh_law_2 call) lids 0) (sSeq (sRet (mpure (.bl true))) (sNext))
theorem eq_law (call : Str → List Mach.W → Mu → Res Mach.W) : sAll ((ev tb.pg call 40).S ⟨dlaw.fni.scope, false, dlaw.fni.names⟩) dlaw.fni.body = sh_law call := by kernel_rfl
end K69
namespace K69
open PySem Mach
abbrev CA := callAt tb.pg 40
theorem fn_of {d : Df} {f : Str} {sh : (Str → List Mach.W → Mu → Res Mach.W) → MS} (h : tb.pg.fn f = some d.fni) (e : ∀ call, sAll ((ev tb.pg call 40).S ⟨d.fni.scope, false, d.fni.names⟩) d.fni.body = sh call) (k : Nat) (ws : List Mach.W) (m : Mu) :
    CA (k + 1) f ws m = endR (sh (CA k) (startE d.names ws) m) := by
  show (match tb.pg.fn f with
    | some i => runFn tb.pg (callAt tb.pg 40 k) 40 i ws m
    | none => .no) = _
  rw [h]
  show endR (sAll ((ev tb.pg (callAt tb.pg 40 k) 40).S ⟨d.fni.scope, false, d.fni.names⟩) d.fni.body (startE d.names ws) m) = _
  rw [e]
theorem ca_take (k : Nat) (ws : List Mach.W) (m : Mu) : CA (k + 1) "_law_take" ws m = endR (sh_take (CA k) (startE d_law_take.names ws) m) := fn_of (d := d_law_take) (by kernel_rfl) eq_take k ws m
theorem ca_of (k : Nat) (ws : List Mach.W) (m : Mu) : CA (k + 1) "_law_of" ws m = endR (sh_of (CA k) (startE d_law_of.names ws) m) := fn_of (d := d_law_of) (by kernel_rfl) eq_of k ws m
theorem ca_any (k : Nat) (ws : List Mach.W) (m : Mu) : CA (k + 1) "_law_any" ws m = endR (sh_any (CA k) (startE d_law_any.names ws) m) := fn_of (d := d_law_any) (by kernel_rfl) eq_any k ws m
theorem ca_made (k : Nat) (ws : List Mach.W) (m : Mu) : CA (k + 1) "_law_made" ws m = endR (sh_made (CA k) (startE d_law_made.names ws) m) := fn_of (d := d_law_made) (by kernel_rfl) eq_made k ws m
theorem ca_flags (k : Nat) (ws : List Mach.W) (m : Mu) : CA (k + 1) "_law_flags" ws m = endR (sh_flags (CA k) (startE d_law_flags.names ws) m) := fn_of (d := d_law_flags) (by kernel_rfl) eq_flags k ws m
theorem ca_right (k : Nat) (ws : List Mach.W) (m : Mu) : CA (k + 1) "_law_right" ws m = endR (sh_right (CA k) (startE d_law_right.names ws) m) := fn_of (d := d_law_right) (by kernel_rfl) eq_right k ws m
theorem ca_pot_of (k : Nat) (ws : List Mach.W) (m : Mu) : CA (k + 1) "_law_pot_of" ws m = endR (sh_pot_of (CA k) (startE d_law_pot_of.names ws) m) := fn_of (d := d_law_pot_of) (by kernel_rfl) eq_pot_of k ws m
theorem ca_law (k : Nat) (ws : List Mach.W) (m : Mu) : CA (k + 1) "law" ws m = endR (sh_law (CA k) (startE dlaw.names ws) m) := fn_of (d := dlaw) (by kernel_rfl) eq_law k ws m

theorem blt_int : bltM "int" = intM := by kernel_rfl
theorem blt_len : bltM "len" = lenM := by kernel_rfl
theorem blt_abs : bltM "abs" = absM := by kernel_rfl
theorem blt_max : bltM "max" = maxM := by kernel_rfl
theorem blt_min : bltM "min" = minM := by kernel_rfl
theorem blt_all : bltM "all" = allM := by kernel_rfl
theorem blt_repr : bltM "repr" = reprM := by kernel_rfl
/-! ### the pot -/
theorem get_set_self {m : Mu} {p : Nat} {o x : MO} (h : m[p]? = some o) : (m.set p x)[p]? = some x := by
  have hp : p < m.length := by
    rcases Nat.lt_or_ge p m.length with q | q
    · exact q
    · rw [List.getElem?_eq_none q] at h; cases h
  rw [List.getElem?_set_self hp]
theorem take_pos {k : Nat} {m : Mu} {p : Nat} {a b c u : Int} (hm : m[p]? = some (.lst [.int a, .int b, .int c])) (hu : 0 < u) (hu2 : u < 1073741824) (ha : 0 < a) :
    CA (k + 1) "_law_take" [.ref p, .int u] m = .ok (.int (a % u)) (m.set p (.lst [.int (a / u), .int b, .int c])) := by
  rw [ca_take]
  have i0 : idx 3 0 = some 0 := rfl
  simp [sh_take, startE, d_law_take, sSeq, sE, mtru, mop2, mbind, mvar, mpure, mval, calmR, Res.bind, subM', seqM, hm, cmpM, ltM, ofB, okB, truM, ha, mAll, blt_int, intM, okI, binM, modM, divM, hu, hu2, sSet, setM, i0, okO, sNext, sRet, endR]
def prm : List Int := [2147483647, 2147483629, 2147483587, 2147483579, 2147483563]
theorem take_neg {k : Nat} {m : Mu} {p : Nat} {a b c u : Int} (hm : m[p]? = some (.lst [.int a, .int b, .int c])) (hu : 0 < u) (hu2 : u < 1073741824) (ha : ¬ 0 < a) (hb : 0 ≤ b) (hb2 : b < 2305843009213693921) (hc : 0 ≤ c) (hc2 : c ≤ 100000) :
    ∃ r, 0 ≤ r ∧ r < u ∧ CA (k + 1) "_law_take" [.ref p, .int u] m = .ok (.int r) (m.set p (.lst [.int a, .int b, .int (c + 1)]) ++ [.lst (prm.map .int)]) := by
  rw [ca_take]
  have i0 : idx 3 0 = some 0 := rfl
  have i1 : idx 3 1 = some 1 := rfl
  have i2 : idx 3 2 = some 2 := rfl
  have hp : p < m.length := by
    rcases Nat.lt_or_ge p m.length with q | q
    · exact q
    · rw [List.getElem?_eq_none q] at hm; cases hm
  have hq : (c + 1) % 5 = 0 ∨ (c + 1) % 5 = 1 ∨ (c + 1) % 5 = 2 ∨ (c + 1) % 5 = 3 ∨ (c + 1) % 5 = 4 := by omega
  obtain ⟨j, q, hj, hq', hq0, hq64⟩ : ∃ (j : Nat) (q : Int), idx 5 ((c + 1) % 5) = some j ∧ ([W.int 2147483647, W.int 2147483629, W.int 2147483587, W.int 2147483579, W.int 2147483563] : List Mach.W)[j]? = some (.int q) ∧ 0 < q ∧ q < 2 ^ 64 := by
    rcases hq with h | h | h | h | h <;> rw [h]
    · exact ⟨0, _, rfl, rfl, by decide, by decide⟩
    · exact ⟨1, _, rfl, rfl, by decide, by decide⟩
    · exact ⟨2, _, rfl, rfl, by decide, by decide⟩
    · exact ⟨3, _, rfl, rfl, by decide, by decide⟩
    · exact ⟨4, _, rfl, rfl, by decide, by decide⟩
  have hcc : 60037 * (c + 1) * (c + 1) ≤ 600382007460037 := by
    have h1 : (c + 1) * (c + 1) ≤ 100001 * 100001 := Int.mul_le_mul (by omega) (by omega) (by omega) (by omega)
    rw [Int.mul_assoc]
    omega
  have hcc0 : 0 ≤ 60037 * (c + 1) * (c + 1) := Int.mul_nonneg (by omega) (by omega)
  have hB : (b + 60037 * (c + 1) * (c + 1) + 59).natAbs < 18446744073709551616 := by omega
  have n1 : in64 60037 = true := rfl
  have n2 : in64 (c + 1) = true := by
    unfold in64
    rw [Bool.and_eq_true]
    exact ⟨decide_eq_true (by omega), decide_eq_true (by omega)⟩
  have n3 : in64 ((b + 60037 * (c + 1) * (c + 1) + 59) ^ 3 % q) = true := by
    have h1 := Int.emod_nonneg ((b + 60037 * (c + 1) * (c + 1) + 59) ^ 3) (Int.ne_of_gt hq0)
    have h2 := Int.emod_lt_of_pos ((b + 60037 * (c + 1) * (c + 1) + 59) ^ 3) hq0
    unfold in64
    rw [Bool.and_eq_true]
    exact ⟨decide_eq_true (by omega), decide_eq_true (by omega)⟩
  have n4 : in64 89 = true := rfl
  have hs : ∀ x, (m.set p x)[p]? = some x := fun x => get_set_self hm
  have hs2 : ∀ x o, (m.set p x ++ [o])[p]? = some x := fun x o => by
    rw [List.getElem?_append_left (by simpa using hp)]
    exact hs x
  have hl : ∀ x, (m.set p x).length = m.length := fun x => by simp
  have ha0 : ∀ x o, (m.set p x ++ [o])[m.length]? = some o := fun x o => by
    rw [← hl x]; simp
  clear hp
  simp [sh_take, startE, d_law_take, sSeq, sE, mtru, mop2, mbind, mvar, mpure, mval, calmR, Res.bind, subM', seqM, hm, cmpM, ltM, ofB, okB, truM, ha, mAll, blt_int, intM, okI, binM, modM, divM, hu, hu2, sSet, setM, i0, i1, i2, okO, sNext, sRet, endR, addM, hs, hs2, Mach.alloc, hj, ha0, hq', hq0, mulM, n1, n2, n3, n4, powM, hB]
  exact ⟨_, Int.emod_nonneg _ (Int.ne_of_gt hu), Int.emod_lt_of_pos _ hu, rfl, rfl⟩

/-! ### what a pot keeps, how a memory goes on -/
def PotAt (m : Mu) (p : Nat) (N : Int) : Prop := ∃ a b c, m[p]? = some (.lst [.int a, .int b, .int c]) ∧ 0 ≤ b ∧ b < 2305843009213693921 ∧ 0 ≤ c ∧ c ≤ N
def Ext (m : Mu) (p : Nat) (m' : Mu) : Prop := ∃ x g, m' = m.set p x ++ g
theorem get_lt {m : Mu} {p : Nat} {o : MO} (h : m[p]? = some o) : p < m.length := by
  rcases Nat.lt_or_ge p m.length with q | q
  · exact q
  · rw [List.getElem?_eq_none q] at h; cases h
theorem PotAt.lt {m : Mu} {p : Nat} {N : Int} (h : PotAt m p N) : p < m.length := by
  obtain ⟨a, b, c, e, _⟩ := h
  exact get_lt e
theorem PotAt.mono {m : Mu} {p : Nat} {N N' : Int} (h : PotAt m p N) (hn : N ≤ N') : PotAt m p N' := by
  obtain ⟨a, b, c, e, h1, h2, h3, h4⟩ := h
  exact ⟨a, b, c, e, h1, h2, h3, by omega⟩
theorem PotAt.app {m : Mu} {p : Nat} {N : Int} (h : PotAt m p N) (g : Mu) : PotAt (m ++ g) p N := by
  have hl := h.lt
  obtain ⟨a, b, c, e, h1⟩ := h
  exact ⟨a, b, c, by rw [List.getElem?_append_left hl]; exact e, h1⟩
theorem Ext.len {m m' : Mu} {p : Nat} (h : Ext m p m') : m.length ≤ m'.length := by
  obtain ⟨x, g, rfl⟩ := h
  simp
theorem Ext.get {m m' : Mu} {p q : Nat} {o : MO} (h : Ext m p m') (hq : m[q]? = some o) (hn : q ≠ p) : m'[q]? = some o := by
  obtain ⟨x, g, rfl⟩ := h
  rw [List.getElem?_append_left (by simpa using get_lt hq), List.getElem?_set_ne (Ne.symm hn)]
  exact hq
theorem Ext.trans {m m1 m2 : Mu} {p : Nat} (hp : p < m.length) (a : Ext m p m1) (b : Ext m1 p m2) : Ext m p m2 := by
  obtain ⟨x, g, rfl⟩ := a
  obtain ⟨y, h, rfl⟩ := b
  refine ⟨y, g ++ h, ?_⟩
  rw [List.set_append_left (s := m.set p x) _ _ (by simpa using hp), List.set_set, List.append_assoc]
theorem Ext.app {m : Mu} {p : Nat} {N : Int} (h : PotAt m p N) (g : Mu) : Ext m p (m ++ g) := by
  obtain ⟨a, b, c, e, _⟩ := h
  refine ⟨m[p]'(get_lt e), g, ?_⟩
  have q : m.set p (m[p]'(get_lt e)) = m := List.set_getElem_self _
  rw [q]
theorem take_spec {k : Nat} {m : Mu} {p : Nat} {N u : Int} (h : PotAt m p N) (hN : N ≤ 100000) (hu : 0 < u) (hu2 : u < 1073741824) : ∃ r m', 0 ≤ r ∧ r < u ∧ CA (k + 1) "_law_take" [.ref p, .int u] m = .ok (.int r) m' ∧ Ext m p m' ∧ PotAt m' p (N + 1) := by
  obtain ⟨a, b, c, e, h1, h2, h3, h4⟩ := h
  by_cases ha : 0 < a
  · refine ⟨a % u, _, Int.emod_nonneg _ (Int.ne_of_gt hu), Int.emod_lt_of_pos _ hu, take_pos e hu hu2 ha, ⟨_, [], by rw [List.append_nil]⟩, _, b, c, get_set_self e, h1, h2, h3, by omega⟩
  · obtain ⟨r, q1, q2, q3⟩ := take_neg (k := k) e hu hu2 ha h1 h2 h3 (by omega)
    refine ⟨r, _, q1, q2, q3, ⟨_, _, rfl⟩, a, b, c + 1, ?_, h1, h2, by omega, by omega⟩
    rw [List.getElem?_append_left (by simpa using get_lt e)]
    exact get_set_self e
theorem ix_of {n : Nat} {r : Int} (h0 : 0 ≤ r) (h1 : r < n) : idx n r = some r.toNat := by
  unfold idx L2.ixN
  first
    | (rw [if_pos h0, if_pos (by omega)])
    | (simp [h0]; omega)
theorem of_spec {k : Nat} {m : Mu} {p q : Nat} {N : Int} {ws : List Mach.W} (h : PotAt m p N) (hN : N ≤ 100000) (hq : m[q]? = some (.lst ws)) (hqp : q ≠ p) (hl : 0 < ws.length) (hl2 : ws.length < 1000) :
    ∃ (i : Nat) (w : Mach.W) (m' : Mu), ws[i]? = some w ∧ CA (k + 2) "_law_of" [.ref p, .ref q] m = .ok w m' ∧ Ext m p m' ∧ PotAt m' p (N + 1) := by
  obtain ⟨r, m', h0, h1, hc, he, hp⟩ := take_spec (k := k) (u := ws.length) h hN (by omega) (by omega)
  have hi := ix_of h0 h1
  have hq' := he.get hq hqp
  obtain ⟨w, hg⟩ : ∃ w, ws[r.toNat]? = some w := ⟨ws[r.toNat]'(by omega), by simp⟩
  refine ⟨r.toNat, w, m', hg, ?_, he, hp⟩
  rw [ca_of]
  simp [sh_of, startE, d_law_of, sSeq, sRet, sE, mop2, mbind, mvar, mpure, mval, calmR, Res.bind, mAll, blt_len, lenM, seqM, hq, okI, hc, subM', hq', hi, hg, okO, endR]
end K69
namespace K69
open PySem Mach
/-! ### data that stand above L -/
def Agr (L : Nat) (m m' : Mu) : Prop := ∀ (i : Nat) (o : MO), L ≤ i → m[i]? = some o → m'[i]? = some o
theorem Agr.trans {L : Nat} {a b c : Mu} (h : Agr L a b) (h' : Agr L b c) : Agr L a c := fun i o hl e => h' i o hl (h i o hl e)
theorem Agr.app {L : Nat} {m : Mu} (g : Mu) : Agr L m (m ++ g) := fun i o _ e => by rw [List.getElem?_append_left (get_lt e)]; exact e
theorem Agr.ext {L p : Nat} {m m' : Mu} (h : Ext m p m') (hp : p < L) : Agr L m m' := fun i o hl e => h.get e (by omega)
def Dat (L : Nat) (m : Mu) (n : Nat) (w : Mach.W) (d : PyData) : Prop := ∀ (m' : Mu) (n' : Nat), Agr L m m' → n ≤ n' → toD m' n' w = some d
theorem Dat.on {L : Nat} {m m' : Mu} {n : Nat} {w : Mach.W} {d : PyData} (h : Dat L m n w d) (a : Agr L m m') : Dat L m' n w d := fun m2 n2 a2 hn => h m2 n2 (a.trans a2) hn
def Gd (d : PyData) (B : Nat) : Prop := (d.showable = true ∧ d.shown.length ≤ B) ∧ PyData.strOk d.shown = true
theorem ok_app (a b : Str) : PyData.strOk (a ++ b) = (PyData.strOk a && PyData.strOk b) := by
  unfold PyData.strOk
  rw [Str.cps_append, Array.all_append]
theorem ok_tup1 {d : PyData} (h : PyData.strOk d.shown = true) : PyData.strOk (PyData.shown (.tuple [d])) = true := by
  have e : PyData.shown (.tuple [d]) = ("(" : Str) ++ d.shown ++ (",)" : Str) := rfl
  rw [e, ok_app, ok_app, h]
  kernel_rfl
theorem ok_lst1 {d : PyData} (h : PyData.strOk d.shown = true) : PyData.strOk (PyData.shown (.list [d])) = true := by
  have e : PyData.shown (.list [d]) = ("[" : Str) ++ ("" : Str) ++ d.shown ++ ("]" : Str) := rfl
  rw [e, ok_app, ok_app, ok_app, h]
  kernel_rfl
theorem ok_tup2 {d : PyData} (h : PyData.strOk d.shown = true) : PyData.strOk (PyData.shown (.tuple [d, .int 0])) = true := by
  have e : PyData.shown (.tuple [d, .int 0]) = ("(" : Str) ++ (d.shown ++ (", " : Str) ++ PyData.shown (.int 0)) ++ (")" : Str) := rfl
  rw [e, ok_app, ok_app, ok_app, ok_app, h]
  kernel_rfl
theorem ok_dic1 {d : PyData} (h : PyData.strOk d.shown = true) : PyData.strOk (PyData.shown (.dict [(.str "a", d)])) = true := by
  have e : PyData.shown (.dict [(.str "a", d)]) = ("{" : Str) ++ (PyData.shown (.str "a") ++ (": " : Str) ++ d.shown) ++ ("}" : Str) := rfl
  rw [e, ok_app, ok_app, ok_app, ok_app, h]
  kernel_rfl
theorem gd_tup1 {d : PyData} {B : Nat} (h : Gd d B) : Gd (.tuple [d]) (B + 20) := by
  obtain ⟨h, hs⟩ := h
  refine ⟨⟨by simp [PyData.showable, PyData.showableAll, h.1], ?_⟩, ok_tup1 hs⟩
  have q := tupleText_len_le [d.shown]
  have := h.2
  simp only [PyData.shown, PyData.shownAll]
  simp at q
  omega
theorem gd_lst1 {d : PyData} {B : Nat} (h : Gd d B) : Gd (.list [d]) (B + 20) := by
  obtain ⟨h, hs⟩ := h
  refine ⟨⟨by simp [PyData.showable, PyData.showableAll, h.1], ?_⟩, ok_lst1 hs⟩
  have q := listText_len_le [d.shown]
  have := h.2
  simp only [PyData.shown, PyData.shownAll]
  simp at q
  omega
theorem gd_tup2 {d : PyData} {B : Nat} (h : Gd d B) : Gd (.tuple [d, .int 0]) (B + 20) := by
  obtain ⟨h, hs⟩ := h
  refine ⟨⟨by simp [PyData.showable, PyData.showableAll, h.1], ?_⟩, ok_tup2 hs⟩
  have q := tupleText_len_le [d.shown, PyData.shown (.int 0)]
  have := h.2
  have e : (PyData.shown (.int 0)).length = 1 := by kernel_rfl
  simp only [PyData.shown, PyData.shownAll] at e ⊢
  simp only [PyData.shown, List.map_cons, List.map_nil, List.sum_cons, List.sum_nil, List.length_cons, List.length_nil] at q
  omega
theorem gd_dic1 {d : PyData} {B : Nat} (h : Gd d B) : Gd (.dict [(.str "a", d)]) (B + 20) := by
  obtain ⟨h, hs⟩ := h
  refine ⟨⟨by simp [PyData.showable, PyData.showableKv, h.1], ?_⟩, ok_dic1 hs⟩
  have q := dictText_len_le [PyData.shown (.str "a") ++ ": " ++ d.shown]
  have := h.2
  have e : (PyData.shown (.str "a") ++ (": " : Str)).length = 5 := by kernel_rfl
  have e2 := Str.length_append (PyData.shown (.str "a") ++ (": " : Str)) d.shown
  simp only [PyData.shown, PyData.shownKv] at e e2 ⊢
  simp only [PyData.shown, List.map_cons, List.map_nil, List.sum_cons, List.sum_nil, List.length_cons, List.length_nil] at q
  omega
/-- a value made so far -/
def Val (L : Nat) (m : Mu) (n : Nat) (w : Mach.W) : Prop := ∃ d, Dat L m n w d ∧ Gd d (100 + 20 * n)
theorem Val.on {L : Nat} {m m' : Mu} {n : Nat} {w : Mach.W} (h : Val L m n w) (a : Agr L m m') : Val L m' n w := by
  obtain ⟨d, h1, h2⟩ := h
  exact ⟨d, h1.on a, h2⟩
theorem Gd.mono {d : PyData} {B B' : Nat} (h : Gd d B) (hb : B ≤ B') : Gd d B' := ⟨⟨h.1.1, Nat.le_trans h.1.2 hb⟩, h.2⟩
theorem val_tup1 {L : Nat} {m : Mu} {n : Nat} {w : Mach.W} (h : Val L m n w) : Val L m (n + 1) (.tup [w]) := by
  obtain ⟨d, h1, h2⟩ := h
  refine ⟨.tuple [d], fun m' n' a hn => ?_, (gd_tup1 h2).mono (by omega)⟩
  obtain ⟨j, rfl⟩ : ∃ j, n' = j + 1 := ⟨n' - 1, by omega⟩
  have q := h1 m' j a (by omega)
  unfold toD
  simp [optAll, q]
theorem val_tup2 {L : Nat} {m : Mu} {n : Nat} {w : Mach.W} (h : Val L m n w) (hn0 : 0 < n) : Val L m (n + 1) (.tup [w, .int 0]) := by
  obtain ⟨d, h1, h2⟩ := h
  refine ⟨.tuple [d, .int 0], fun m' n' a hn => ?_, (gd_tup2 h2).mono (by omega)⟩
  obtain ⟨j, rfl⟩ : ∃ j, n' = j + 2 := ⟨n' - 2, by omega⟩
  have q := h1 m' (j + 1) a (by omega)
  unfold toD
  simp [optAll, q, toD]
theorem val_lst1 {L : Nat} {m : Mu} {n q : Nat} {w : Mach.W} (h : Val L m n w) (hq : m[q]? = some (.lst [w])) (hL : L ≤ q) : Val L m (n + 1) (.ref q) := by
  obtain ⟨d, h1, h2⟩ := h
  refine ⟨.list [d], fun m' n' a hn => ?_, (gd_lst1 h2).mono (by omega)⟩
  obtain ⟨j, rfl⟩ : ∃ j, n' = j + 1 := ⟨n' - 1, by omega⟩
  have q1 := h1 m' j a (by omega)
  have q2 := a q _ hL hq
  unfold toD
  simp [optAll, q1, q2]
theorem val_dic1 {L : Nat} {m : Mu} {n q : Nat} {w : Mach.W} (h : Val L m n w) (hq : m[q]? = some (.dic [(.inr "a", w)])) (hL : L ≤ q) : Val L m (n + 1) (.ref q) := by
  obtain ⟨d, h1, h2⟩ := h
  refine ⟨.dict [(.str "a", d)], fun m' n' a hn => ?_, (gd_dic1 h2).mono (by omega)⟩
  obtain ⟨j, rfl⟩ : ∃ j, n' = j + 1 := ⟨n' - 1, by omega⟩
  have q1 := h1 m' j a (by omega)
  have q2 := a q _ hL hq
  unfold toD
  simp [optAll, q1, q2, keyD]
end K69
namespace K69
open PySem Mach
abbrev CallT := Str → List Mach.W → Mu → Res Mach.W
/-- the four that a turn picks from -/
def four (m : Mu) (w : Mach.W) : List Mach.W := [.tup [w], .ref m.length, .ref (m.length + 1), .tup [w, .int 0]]
def fourM (m : Mu) (w : Mach.W) : Mu := m ++ [.lst [w], .dic [(.inr "a", w)], .lst (four m w)]
abbrev anyTurn := sh_any_1
theorem any_turn (call : CallT) (p : Nat) (s x : Option Mach.W) (w : Mach.W) (m : Mu) : anyTurn call [some (.ref p), s, some w, x] m = (match call "_law_of" [.ref p, .ref (m.length + 2)] (fourM m w) with
    | .ok w' m' => .ok (.nx [some (.ref p), s, some w', x]) m'
    | .err c fs m' => .ok (.er [some (.ref p), s, some w, x] c fs) m'
    | .no => .no) := by
  have dk : ∀ (w : Mach.W) (m : Mu), dictM ["a"] [w] m = .ok (.ref m.length) (m ++ [.dic [(.inr "a", w)]]) := fun w m => rfl
  simp [anyTurn, sh_any_1, sSeq, sE, mbind, mAll, mvar, mpure, mval, calmR, Res.bind, Mach.alloc, dk, sSet, sNext, fourM, four]
  cases call (Str.ofString "_law_of") [W.ref p, W.ref (m.length + 2)] (m ++ [MO.lst [w], MO.dic [(Sum.inr (Str.ofString "a"), w)], MO.lst [W.tup [w], W.ref m.length, W.ref (m.length + 1), W.tup [w, W.int 0]]]) <;> rfl
theorem four_val {L p : Nat} {m m' : Mu} {n i : Nat} {w w' : Mach.W} (h : Val L m n w) (hn : 0 < n) (hL : L ≤ m.length) (hp : p < L) (he : Ext (fourM m w) p m') (hi : (four m w)[i]? = some w') : Val L m' (n + 1) w' := by
  have a0 : Agr L m (fourM m w) := Agr.app _
  have a1 : Agr L (fourM m w) m' := Agr.ext he hp
  have h2 := (h.on a0).on a1
  have g0 : (fourM m w)[m.length]? = some (.lst [w]) := by unfold fourM; simp
  have g1 : (fourM m w)[m.length + 1]? = some (.dic [(.inr "a", w)]) := by unfold fourM; simp
  match i, hi with
  | 0, hi => cases hi; exact val_tup1 h2
  | 1, hi => cases hi; exact val_lst1 h2 (a1 _ _ hL g0) hL
  | 2, hi => cases hi; exact val_dic1 h2 (a1 _ _ (by omega) g1) (by omega)
  | 3, hi => cases hi; exact val_tup2 h2 hn
  | n + 4, hi => simp [four] at hi
theorem any_loop {k p L j : Nat} (s : Option Mach.W) (hp : p < L) : ∀ (t i f : Nat) (x : Option Mach.W) (w : Mach.W) (m : Mu) (N : Int), i + t = j → t < f → PotAt m p N → N + t ≤ 100000 → L ≤ m.length → Val L m (3 + i) w →
    ∃ w' x' m', forS (.seq ((List.range j).map fun i => W.int (i : Nat))) (tgN 3) (anyTurn (CA (k + 2))) f i [some (.ref p), s, some w, x] m = .ok (.nx [some (.ref p), s, some w', x']) m' ∧ Ext m p m' ∧ PotAt m' p (N + t) ∧ Val L m' (3 + j) w'
  | 0, i, f, x, w, m, N, hij, hf, hpot, hN, hL, hv => by
    obtain ⟨f', rfl⟩ : ∃ f', f = f' + 1 := ⟨f - 1, by omega⟩
    refine ⟨w, x, m, ?_, ?_, by simpa using hpot, by rw [show 3 + j = 3 + i by omega]; exact hv⟩
    · unfold forS
      have e : nextI (.seq ((List.range j).map fun i => W.int (i : Nat))) i m = some none := by
        show some (((List.range j).map fun i => W.int (i : Nat))[i]?) = _
        rw [List.getElem?_eq_none (by simp; omega)]
      rw [e]
    · have := Ext.app hpot []
      simpa using this
  | t + 1, i, f, x, w, m, N, hij, hf, hpot, hN, hL, hv => by
    obtain ⟨f', rfl⟩ : ∃ f', f = f' + 1 := ⟨f - 1, by omega⟩
    have e : nextI (.seq ((List.range j).map fun i => W.int (i : Nat))) i m = some (some (.int (i : Nat))) := by
      show some (((List.range j).map fun i => W.int (i : Nat))[i]?) = _
      rw [List.getElem?_map, List.getElem?_range (by omega)]
      rfl
    have hpot4 : PotAt (fourM m w) p N := hpot.app _
    have hq : (fourM m w)[m.length + 2]? = some (.lst (four m w)) := by unfold fourM; simp
    have hlt := hpot.lt
    obtain ⟨ix, w1, m1, hi, hc, he, hp1⟩ := of_spec (k := k) hpot4 (by omega) hq (by omega) (by simp [four]) (by simp [four])
    have hv1 := four_val hv (by omega) hL hp he hi
    have hE : Ext m p m1 := (Ext.app hpot _).trans hlt he
    obtain ⟨w', x', m', q1, q2, q3, q4⟩ := any_loop (k := k) (j := j) s hp t (i + 1) f' (some (.int (i : Nat))) w1 m1 (N + 1) (by omega) (by omega) hp1 (by omega) (Nat.le_trans hL hE.len) (by rw [show 3 + (i + 1) = 3 + i + 1 by omega]; exact hv1)
    refine ⟨w', x', m', ?_, hE.trans hlt q2, by rw [show N + ((t + 1 : Nat) : Int) = N + 1 + t by omega]; exact q3, q4⟩
    unfold forS
    rw [e]
    have e2 : tgN 3 (.int (i : Nat)) [some (.ref p), s, some w, x] = some [some (.ref p), s, some w, some (.int (i : Nat))] := rfl
    simp only [e2, any_turn, hc]
    exact q1

/-- the fifteen -/
def some15 (m : Mu) : List Mach.W := [.non, .bl true, .bl false, .int 0, .int (-1), .int 100000000000000000, .str "", .str "row k a", .str "\n", .tup [], .ref m.length, .ref (m.length + 1), .tup [.str "a", .int 1], .ref (m.length + 2), .ref (m.length + 3)]
def someM (m : Mu) : Mu := m ++ [.lst [], .dic [], .lst [.str "a"], .dic [(.inr "a", .tup [.int 1, .non])], .lst (some15 m)]
theorem dat_c {L : Nat} {m : Mu} {w : Mach.W} {d : PyData} (h : ∀ (m' : Mu) (n : Nat), toD m' (n + 3) w = some d) (hg : Gd d 160) : Val L m 3 w :=
  ⟨d, fun m' n' _ hn => by
    obtain ⟨j, rfl⟩ : ∃ j, n' = j + 3 := ⟨n' - 3, by omega⟩
    exact h m' j, hg⟩
theorem some_val {L p i : Nat} {m m' : Mu} {w : Mach.W} (hL : L ≤ m.length) (hp : p < L) (he : Ext (someM m) p m') (hi : (some15 m)[i]? = some w) : Val L m' 3 w := by
  have a1 : Agr L (someM m) m' := Agr.ext he hp
  have g0 : (someM m)[m.length]? = some (.lst []) := by unfold someM; simp
  have g1 : (someM m)[m.length + 1]? = some (.dic []) := by unfold someM; simp
  have g2 : (someM m)[m.length + 2]? = some (.lst [.str "a"]) := by unfold someM; simp
  have g3 : (someM m)[m.length + 3]? = some (.dic [(.inr "a", .tup [.int 1, .non])]) := by unfold someM; simp
  have hr : ∀ {q : Nat} {o : MO} {d : PyData}, (someM m)[q]? = some o → m.length ≤ q → (∀ (m2 : Mu) (n : Nat), m2[q]? = some o → toD m2 (n + 3) (.ref q) = some d) → Gd d 160 → Val L m' 3 (.ref q) := fun {q o d} e hq h hg =>
    ⟨d, fun m2 n' a2 hn => by
      obtain ⟨j, rfl⟩ : ∃ j, n' = j + 3 := ⟨n' - 3, by omega⟩
      exact h m2 j (a2 _ _ (by omega) (a1 _ _ (by omega) e)), hg⟩
  have gd : ∀ {d : PyData}, (d.showable && decide (d.shown.length ≤ 160) && PyData.strOk d.shown) = true → Gd d 160 := fun h => by
    rw [Bool.and_eq_true, Bool.and_eq_true] at h
    exact ⟨⟨h.1.1, of_decide_eq_true h.1.2⟩, h.2⟩
  match i, hi with
  | 0, hi => cases hi; exact dat_c (d := .none) (fun _ _ => rfl) (gd (by kernel_rfl))
  | 1, hi => cases hi; exact dat_c (d := .bool true) (fun _ _ => rfl) (gd (by kernel_rfl))
  | 2, hi => cases hi; exact dat_c (d := .bool false) (fun _ _ => rfl) (gd (by kernel_rfl))
  | 3, hi => cases hi; exact dat_c (d := .int 0) (fun _ _ => rfl) (gd (by kernel_rfl))
  | 4, hi => cases hi; exact dat_c (d := .int (-1)) (fun _ _ => rfl) (gd (by kernel_rfl))
  | 5, hi => cases hi; exact dat_c (d := .int 100000000000000000) (fun _ _ => rfl) (gd (by kernel_rfl))
  | 6, hi => cases hi; exact dat_c (d := .str "") (fun _ _ => rfl) (gd (by kernel_rfl))
  | 7, hi => cases hi; exact dat_c (d := .str "row k a") (fun _ _ => rfl) (gd (by kernel_rfl))
  | 8, hi => cases hi; exact dat_c (d := .str "\n") (fun _ _ => rfl) (gd (by kernel_rfl))
  | 9, hi => cases hi; exact dat_c (d := .tuple []) (fun _ _ => rfl) (gd (by kernel_rfl))
  | 10, hi => cases hi; exact hr (d := .list []) g0 (by omega) (fun m2 n e => by unfold toD; rw [e]; rfl) (gd (by kernel_rfl))
  | 11, hi => cases hi; exact hr (d := .dict []) g1 (by omega) (fun m2 n e => by unfold toD; rw [e]; rfl) (gd (by kernel_rfl))
  | 12, hi => cases hi; exact dat_c (d := .tuple [.str "a", .int 1]) (fun _ _ => rfl) (gd (by kernel_rfl))
  | 13, hi => cases hi; exact hr (d := .list [.str "a"]) g2 (by omega) (fun m2 n e => by unfold toD; rw [e]; rfl) (gd (by kernel_rfl))
  | 14, hi => cases hi; exact hr (d := .dict [(.str "a", .tuple [.int 1, .none])]) g3 (by omega) (fun m2 n e => by unfold toD; rw [e]; rfl) (gd (by kernel_rfl))
  | n + 15, hi => simp [some15] at hi
def lens : List Mach.W := [.int 0, .int 0, .int 1, .int 2, .int 36]
theorem any_spec {k p : Nat} {m : Mu} {N : Int} (h : PotAt m p N) (hN : N ≤ 90000) : ∃ w m' n, CA (k + 3) "_law_any" [.ref p] m = .ok w m' ∧ Ext m p m' ∧ PotAt m' p (N + 38) ∧ Val m.length m' n w ∧ n ≤ 39 := by
  have hlt := h.lt
  have hpS : PotAt (someM m) p N := h.app _
  have hq : (someM m)[m.length + 4]? = some (.lst (some15 m)) := by unfold someM; simp
  obtain ⟨i1, w1, m1, hi1, hc1, he1, hp1⟩ := of_spec (k := k) hpS (by omega) hq (by omega) (by simp [some15]) (by simp [some15])
  have hv1 : Val m.length m1 3 w1 := some_val (Nat.le_refl _) hlt he1 hi1
  have hE1 : Ext m p m1 := (Ext.app h _).trans hlt he1
  have hp2 : PotAt (m1 ++ [.lst lens]) p (N + 1) := hp1.app _
  have hlt1 := hp1.lt
  obtain ⟨i2, w2, m2, hi2, hc2, he2, hp3⟩ := of_spec (k := k) (q := m1.length) (ws := lens) hp2 (by omega) (by simp) (by omega) (by simp [lens]) (by simp [lens])
  have hE2 : Ext m1 p m2 := (Ext.app hp1 _).trans hlt1 he2
  have hv2 : Val m.length m2 3 w1 := (hv1.on (Agr.app _)).on (Agr.ext he2 hlt)
  obtain ⟨j, rfl, hj⟩ : ∃ j : Nat, w2 = .int j ∧ j ≤ 36 := by
    match i2, hi2 with
    | 0, h => cases h; exact ⟨0, rfl, by omega⟩
    | 1, h => cases h; exact ⟨0, rfl, by omega⟩
    | 2, h => cases h; exact ⟨1, rfl, by omega⟩
    | 3, h => cases h; exact ⟨2, rfl, by omega⟩
    | 4, h => cases h; exact ⟨36, rfl, by omega⟩
    | n + 5, h => simp [lens] at h
  obtain ⟨w', x', m', q1, q2, q3, q4⟩ := any_loop (k := k) (j := j) (L := m.length) (some (.ref (m.length + 4))) hlt j 0 lids none w1 m2 (N + 1 + 1) (by omega) (by unfold lids; omega) hp3 (by omega) (Nat.le_trans hE1.len hE2.len) hv2
  refine ⟨w', m', 3 + j, ?_, (hE1.trans hlt hE2).trans hlt q2, q3.mono (by omega), q4, by omega⟩
  rw [ca_any]
  have d0 : ∀ (m : Mu), dictM [] [] m = .ok (.ref m.length) (m ++ [.dic []]) := fun m => rfl
  have dk : ∀ (w : Mach.W) (m : Mu), dictM ["a"] [w] m = .ok (.ref m.length) (m ++ [.dic [(.inr "a", w)]]) := fun w m => rfl
  have ht : (10 : Int) ^ (17 : Nat) = 100000000000000000 := by decide
  unfold someM some15 at hc1
  unfold lens at hc2
  simp [sh_any, startE, d_law_any, sSeq, sE, sRet, mbind, mAll, mvar, mpure, mval, calmR, Res.bind, Mach.alloc, dk, d0, sSet, sNext, mop1, negM, okI, mop2, binM, powM, ht, hc1, hc2, itRange, hj, endR]
  have h6 : (j : Int) ≤ 1000000 := by omega
  simp [h6, mpure, q1]
end K69
namespace K69
open PySem Mach
def madeG (L : Nat) (w : Mach.W) : Mu := [.exc "BadStand" [("value", w)], .exc "NoMove" [("value", w)], .exc "BadReader" [("value", w)], .exc "BadMemory" [("value", w)], .exc "BadMove" [("value", w)], .exc "BadRows" [("value", w)], .lst [.ref L, .ref (L + 1), .ref (L + 2), .ref (L + 3), .ref (L + 4), .ref (L + 5)], .exc "BadPool" [("value", w)], .exc "BadAsk" [("value", w)], .exc "BadAsks" [("value", w)], .exc "BadCase" [("value", w)], .exc "BadView" [("value", w)], .exc "BadCount" [("value", w)], .lst [.ref (L + 7), .ref (L + 8), .ref (L + 9), .ref (L + 10), .ref (L + 11), .ref (L + 12)], .lst [.ref L, .ref (L + 1), .ref (L + 2), .ref (L + 3), .ref (L + 4), .ref (L + 5), .ref (L + 7), .ref (L + 8), .ref (L + 9), .ref (L + 10), .ref (L + 11), .ref (L + 12)], .exc "BadSecrets" [("value", w)], .exc "BadNeeds" [("value", w)], .exc "BadOffers" [("value", w)], .exc "BadChanges" [("value", w)], .exc "BadChange" [("value", w)], .lst [.ref (L + 15), .ref (L + 16), .ref (L + 17), .ref (L + 18), .ref (L + 19)], .lst [.ref L, .ref (L + 1), .ref (L + 2), .ref (L + 3), .ref (L + 4), .ref (L + 5), .ref (L + 7), .ref (L + 8), .ref (L + 9), .ref (L + 10), .ref (L + 11), .ref (L + 12), .ref (L + 15), .ref (L + 16), .ref (L + 17), .ref (L + 18), .ref (L + 19)], .exc "BadOthers" [("value", w)], .exc "BadWays" [("value", w)], .exc "BadDeed" [("value", w)], .exc "BadNumber" [("value", w)], .exc "BadGuards" [("value", w)], .lst [.ref (L + 22), .ref (L + 23), .ref (L + 24), .ref (L + 25), .ref (L + 26)], .lst [.ref L, .ref (L + 1), .ref (L + 2), .ref (L + 3), .ref (L + 4), .ref (L + 5), .ref (L + 7), .ref (L + 8), .ref (L + 9), .ref (L + 10), .ref (L + 11), .ref (L + 12), .ref (L + 15), .ref (L + 16), .ref (L + 17), .ref (L + 18), .ref (L + 19), .ref (L + 22), .ref (L + 23), .ref (L + 24), .ref (L + 25), .ref (L + 26)], .exc "BadRules" [("value", w)], .exc "BadLine" [("value", w)], .lst [.ref (L + 29), .ref (L + 30)], .lst [.ref L, .ref (L + 1), .ref (L + 2), .ref (L + 3), .ref (L + 4), .ref (L + 5), .ref (L + 7), .ref (L + 8), .ref (L + 9), .ref (L + 10), .ref (L + 11), .ref (L + 12), .ref (L + 15), .ref (L + 16), .ref (L + 17), .ref (L + 18), .ref (L + 19), .ref (L + 22), .ref (L + 23), .ref (L + 24), .ref (L + 25), .ref (L + 26), .ref (L + 29), .ref (L + 30)]]
def madeR : List Nat := [0, 1, 2, 3, 4, 5, 7, 8, 9, 10, 11, 12, 15, 16, 17, 18, 19, 22, 23, 24, 25, 26, 29, 30]
def names32 : List Str := ["BadStand", "NoMove", "BadReader", "BadMemory", "BadMove", "BadRows", "BadPool", "BadAsk", "BadAsks", "BadCase", "BadView", "BadCount", "BadSecrets", "BadNeeds", "BadOffers", "BadChanges", "BadChange", "BadOthers", "BadWays", "BadDeed", "BadNumber", "BadGuards", "BadRules", "BadLine", "BadText", "BadRun", "Telling", "TooMany", "Unsure", "NothingToUndo", "NothingToRedo", "NoTrial"]
def flagsG (c : Str) : Mu := [.lst [.bl (c == "BadStand"), .bl (c == "NoMove"), .bl (c == "BadReader")], .lst [.bl (c == "BadMemory"), .bl (c == "BadMove"), .bl (c == "BadRows")], .lst [.bl (c == "BadStand"), .bl (c == "NoMove"), .bl (c == "BadReader"), .bl (c == "BadMemory"), .bl (c == "BadMove"), .bl (c == "BadRows")], .lst [.bl (c == "BadPool"), .bl (c == "BadAsk"), .bl (c == "BadAsks")], .lst [.bl (c == "BadStand"), .bl (c == "NoMove"), .bl (c == "BadReader"), .bl (c == "BadMemory"), .bl (c == "BadMove"), .bl (c == "BadRows"), .bl (c == "BadPool"), .bl (c == "BadAsk"), .bl (c == "BadAsks")], .lst [.bl (c == "BadCase"), .bl (c == "BadView"), .bl (c == "BadCount")], .lst [.bl (c == "BadStand"), .bl (c == "NoMove"), .bl (c == "BadReader"), .bl (c == "BadMemory"), .bl (c == "BadMove"), .bl (c == "BadRows"), .bl (c == "BadPool"), .bl (c == "BadAsk"), .bl (c == "BadAsks"), .bl (c == "BadCase"), .bl (c == "BadView"), .bl (c == "BadCount")], .lst [.bl (c == "BadSecrets"), .bl (c == "BadNeeds"), .bl (c == "BadOffers")], .lst [.bl (c == "BadStand"), .bl (c == "NoMove"), .bl (c == "BadReader"), .bl (c == "BadMemory"), .bl (c == "BadMove"), .bl (c == "BadRows"), .bl (c == "BadPool"), .bl (c == "BadAsk"), .bl (c == "BadAsks"), .bl (c == "BadCase"), .bl (c == "BadView"), .bl (c == "BadCount"), .bl (c == "BadSecrets"), .bl (c == "BadNeeds"), .bl (c == "BadOffers")], .lst [.bl (c == "BadChanges"), .bl (c == "BadChange"), .bl (c == "BadOthers")], .lst [.bl (c == "BadStand"), .bl (c == "NoMove"), .bl (c == "BadReader"), .bl (c == "BadMemory"), .bl (c == "BadMove"), .bl (c == "BadRows"), .bl (c == "BadPool"), .bl (c == "BadAsk"), .bl (c == "BadAsks"), .bl (c == "BadCase"), .bl (c == "BadView"), .bl (c == "BadCount"), .bl (c == "BadSecrets"), .bl (c == "BadNeeds"), .bl (c == "BadOffers"), .bl (c == "BadChanges"), .bl (c == "BadChange"), .bl (c == "BadOthers")], .lst [.bl (c == "BadWays"), .bl (c == "BadDeed"), .bl (c == "BadNumber")], .lst [.bl (c == "BadStand"), .bl (c == "NoMove"), .bl (c == "BadReader"), .bl (c == "BadMemory"), .bl (c == "BadMove"), .bl (c == "BadRows"), .bl (c == "BadPool"), .bl (c == "BadAsk"), .bl (c == "BadAsks"), .bl (c == "BadCase"), .bl (c == "BadView"), .bl (c == "BadCount"), .bl (c == "BadSecrets"), .bl (c == "BadNeeds"), .bl (c == "BadOffers"), .bl (c == "BadChanges"), .bl (c == "BadChange"), .bl (c == "BadOthers"), .bl (c == "BadWays"), .bl (c == "BadDeed"), .bl (c == "BadNumber")], .lst [.bl (c == "BadGuards"), .bl (c == "BadRules"), .bl (c == "BadLine")], .lst [.bl (c == "BadStand"), .bl (c == "NoMove"), .bl (c == "BadReader"), .bl (c == "BadMemory"), .bl (c == "BadMove"), .bl (c == "BadRows"), .bl (c == "BadPool"), .bl (c == "BadAsk"), .bl (c == "BadAsks"), .bl (c == "BadCase"), .bl (c == "BadView"), .bl (c == "BadCount"), .bl (c == "BadSecrets"), .bl (c == "BadNeeds"), .bl (c == "BadOffers"), .bl (c == "BadChanges"), .bl (c == "BadChange"), .bl (c == "BadOthers"), .bl (c == "BadWays"), .bl (c == "BadDeed"), .bl (c == "BadNumber"), .bl (c == "BadGuards"), .bl (c == "BadRules"), .bl (c == "BadLine")], .lst [.bl (c == "BadText"), .bl (c == "BadRun"), .bl (c == "Telling")], .lst [.bl (c == "BadStand"), .bl (c == "NoMove"), .bl (c == "BadReader"), .bl (c == "BadMemory"), .bl (c == "BadMove"), .bl (c == "BadRows"), .bl (c == "BadPool"), .bl (c == "BadAsk"), .bl (c == "BadAsks"), .bl (c == "BadCase"), .bl (c == "BadView"), .bl (c == "BadCount"), .bl (c == "BadSecrets"), .bl (c == "BadNeeds"), .bl (c == "BadOffers"), .bl (c == "BadChanges"), .bl (c == "BadChange"), .bl (c == "BadOthers"), .bl (c == "BadWays"), .bl (c == "BadDeed"), .bl (c == "BadNumber"), .bl (c == "BadGuards"), .bl (c == "BadRules"), .bl (c == "BadLine"), .bl (c == "BadText"), .bl (c == "BadRun"), .bl (c == "Telling")], .lst [.bl (c == "TooMany"), .bl (c == "Unsure"), .bl (c == "NothingToUndo")], .lst [.bl (c == "BadStand"), .bl (c == "NoMove"), .bl (c == "BadReader"), .bl (c == "BadMemory"), .bl (c == "BadMove"), .bl (c == "BadRows"), .bl (c == "BadPool"), .bl (c == "BadAsk"), .bl (c == "BadAsks"), .bl (c == "BadCase"), .bl (c == "BadView"), .bl (c == "BadCount"), .bl (c == "BadSecrets"), .bl (c == "BadNeeds"), .bl (c == "BadOffers"), .bl (c == "BadChanges"), .bl (c == "BadChange"), .bl (c == "BadOthers"), .bl (c == "BadWays"), .bl (c == "BadDeed"), .bl (c == "BadNumber"), .bl (c == "BadGuards"), .bl (c == "BadRules"), .bl (c == "BadLine"), .bl (c == "BadText"), .bl (c == "BadRun"), .bl (c == "Telling"), .bl (c == "TooMany"), .bl (c == "Unsure"), .bl (c == "NothingToUndo")], .lst [.bl (c == "NothingToRedo"), .bl (c == "NoTrial")], .lst [.bl (c == "BadStand"), .bl (c == "NoMove"), .bl (c == "BadReader"), .bl (c == "BadMemory"), .bl (c == "BadMove"), .bl (c == "BadRows"), .bl (c == "BadPool"), .bl (c == "BadAsk"), .bl (c == "BadAsks"), .bl (c == "BadCase"), .bl (c == "BadView"), .bl (c == "BadCount"), .bl (c == "BadSecrets"), .bl (c == "BadNeeds"), .bl (c == "BadOffers"), .bl (c == "BadChanges"), .bl (c == "BadChange"), .bl (c == "BadOthers"), .bl (c == "BadWays"), .bl (c == "BadDeed"), .bl (c == "BadNumber"), .bl (c == "BadGuards"), .bl (c == "BadRules"), .bl (c == "BadLine"), .bl (c == "BadText"), .bl (c == "BadRun"), .bl (c == "Telling"), .bl (c == "TooMany"), .bl (c == "Unsure"), .bl (c == "NothingToUndo"), .bl (c == "NothingToRedo"), .bl (c == "NoTrial")]]
theorem n0 : ("BadStand" : Str) ∈ names32 := List.mem_of_getElem? (i := 0) rfl
theorem n1 : ("NoMove" : Str) ∈ names32 := List.mem_of_getElem? (i := 1) rfl
theorem n2 : ("BadReader" : Str) ∈ names32 := List.mem_of_getElem? (i := 2) rfl
theorem n3 : ("BadMemory" : Str) ∈ names32 := List.mem_of_getElem? (i := 3) rfl
theorem n4 : ("BadMove" : Str) ∈ names32 := List.mem_of_getElem? (i := 4) rfl
theorem n5 : ("BadRows" : Str) ∈ names32 := List.mem_of_getElem? (i := 5) rfl
theorem n6 : ("BadPool" : Str) ∈ names32 := List.mem_of_getElem? (i := 6) rfl
theorem n7 : ("BadAsk" : Str) ∈ names32 := List.mem_of_getElem? (i := 7) rfl
theorem n8 : ("BadAsks" : Str) ∈ names32 := List.mem_of_getElem? (i := 8) rfl
theorem n9 : ("BadCase" : Str) ∈ names32 := List.mem_of_getElem? (i := 9) rfl
theorem n10 : ("BadView" : Str) ∈ names32 := List.mem_of_getElem? (i := 10) rfl
theorem n11 : ("BadCount" : Str) ∈ names32 := List.mem_of_getElem? (i := 11) rfl
theorem n12 : ("BadSecrets" : Str) ∈ names32 := List.mem_of_getElem? (i := 12) rfl
theorem n13 : ("BadNeeds" : Str) ∈ names32 := List.mem_of_getElem? (i := 13) rfl
theorem n14 : ("BadOffers" : Str) ∈ names32 := List.mem_of_getElem? (i := 14) rfl
theorem n15 : ("BadChanges" : Str) ∈ names32 := List.mem_of_getElem? (i := 15) rfl
theorem n16 : ("BadChange" : Str) ∈ names32 := List.mem_of_getElem? (i := 16) rfl
theorem n17 : ("BadOthers" : Str) ∈ names32 := List.mem_of_getElem? (i := 17) rfl
theorem n18 : ("BadWays" : Str) ∈ names32 := List.mem_of_getElem? (i := 18) rfl
theorem n19 : ("BadDeed" : Str) ∈ names32 := List.mem_of_getElem? (i := 19) rfl
theorem n20 : ("BadNumber" : Str) ∈ names32 := List.mem_of_getElem? (i := 20) rfl
theorem n21 : ("BadGuards" : Str) ∈ names32 := List.mem_of_getElem? (i := 21) rfl
theorem n22 : ("BadRules" : Str) ∈ names32 := List.mem_of_getElem? (i := 22) rfl
theorem n23 : ("BadLine" : Str) ∈ names32 := List.mem_of_getElem? (i := 23) rfl
theorem n24 : ("BadText" : Str) ∈ names32 := List.mem_of_getElem? (i := 24) rfl
theorem n25 : ("BadRun" : Str) ∈ names32 := List.mem_of_getElem? (i := 25) rfl
theorem n26 : ("Telling" : Str) ∈ names32 := List.mem_of_getElem? (i := 26) rfl
theorem n27 : ("TooMany" : Str) ∈ names32 := List.mem_of_getElem? (i := 27) rfl
theorem n28 : ("Unsure" : Str) ∈ names32 := List.mem_of_getElem? (i := 28) rfl
theorem n29 : ("NothingToUndo" : Str) ∈ names32 := List.mem_of_getElem? (i := 29) rfl
theorem n30 : ("NothingToRedo" : Str) ∈ names32 := List.mem_of_getElem? (i := 30) rfl
theorem n31 : ("NoTrial" : Str) ∈ names32 := List.mem_of_getElem? (i := 31) rfl
theorem lk {m l : Mu} {k : Nat} : (m ++ l)[m.length + k]? = l[k]? := by
  rw [List.getElem?_append_right (Nat.le_add_right _ _), Nat.add_sub_cancel_left]
theorem lk0 {m l : Mu} : (m ++ l)[m.length]? = l[0]? := lk (k := 0)
theorem made_eq (k : Nat) (w : Mach.W) (m : Mu) : CA (k + 1) "_law_made" [w] m = .ok (.ref (m.length + 32)) (m ++ madeG m.length w) := by
  rw [ca_made]
  simp [sh_made, startE, d_law_made, sSeq, sE, sRet, mbind, mAll, mvar, mpure, mval, calmR, Res.bind, Mach.alloc, mkExc, sSet, sNext, mop2, binM, addM, Mach.sizeOk, endR, madeG, lk, lk0, Nat.add_assoc]
theorem exs_all : names32.all (fun x => (tb.pg.exc x).isSome) = true := by kernel_rfl
theorem exs {x : Str} (h : x ∈ names32) : (tb.pg.exc x).isSome = true := List.all_eq_true.mp exs_all x h
theorem is_eq {m : Mu} {p : Nat} {c : Str} {fs : List (Str × Mach.W)} (hm : m[p]? = some (.exc c fs)) (hc : c ∈ names32) {x : Str} (hx : x ∈ names32) : isM tb.pg x (.ref p) m = okB m (c == x) := by
  unfold isM
  simp [hm, exs hc, exs hx]
theorem flags_eq (k : Nat) {m : Mu} {p : Nat} {c : Str} {fs : List (Str × Mach.W)} (hm : m[p]? = some (.exc c fs)) (hc : c ∈ names32) : CA (k + 1) "_law_flags" [.ref p] m = .ok (.ref (m.length + 20)) (m ++ flagsG c) := by
  rw [ca_flags]
  have hl : ∀ l : Mu, (m ++ l)[p]? = some (.exc c fs) := fun l => by rw [List.getElem?_append_left (get_lt hm)]; exact hm
  have h0 : ∀ {x : Str}, x ∈ names32 → isM tb.pg x (.ref p) m = okB m (c == x) := fun hx => is_eq hm hc hx
  have h1 : ∀ {x : Str} {l : Mu}, x ∈ names32 → isM tb.pg x (.ref p) (m ++ l) = okB (m ++ l) (c == x) := fun hx => is_eq (hl _) hc hx
  simp [sh_flags, startE, d_law_flags, sSeq, sE, sRet, mbind, mAll, mvar, mpure, mval, calmR, Res.bind, Mach.alloc, sSet, sNext, mop1, mop2, binM, addM, Mach.sizeOk, endR, lk, lk0, Nat.add_assoc, h0, h1, n0, n1, n2, n3, n4, n5, n6, n7, n8, n9, n10, n11, n12, n13, n14, n15, n16, n17, n18, n19, n20, n21, n22, n23, n24, n25, n26, n27, n28, n29, n30, n31, okB, flagsG]
end K69
namespace K69
open PySem Mach
/-! ### comprehensions whose items do not change the memory -/
theorem comp_gen {it : Itr} {tg : Mach.W → Ev → Option Ev} {elt : M Mach.W} {e : Ev} {m : Mu} {n : Nat} {ws rs : Nat → Mach.W} {es : Nat → Ev} (hn : ∀ i, i < n → nextI it i m = some (some (ws i))) (hend : nextI it n m = some none)
    (ht : ∀ i, i < n → tg (ws i) e = some (es i)) (he : ∀ i, i < n → elt (es i) m = .ok (rs i) m) :
    ∀ (t i f : Nat) (acc : List Mach.W), i + t = n → t < f → acc.length + t ≤ 1000000 → compM it tg (mpure true) elt e f i acc m = .ok (acc ++ (List.range' i t).map rs) m
  | 0, i, f, acc, h1, h2, _ => by
    obtain ⟨f', rfl⟩ : ∃ f', f = f' + 1 := ⟨f - 1, by omega⟩
    have e1 : i = n := by omega
    subst e1
    unfold compM
    simp only [hend]
    simp
  | t + 1, i, f, acc, h1, h2, h3 => by
    obtain ⟨f', rfl⟩ : ∃ f', f = f' + 1 := ⟨f - 1, by omega⟩
    have hi : i < n := by omega
    have hz : Mach.sizeOk (acc.length + 1) = true := decide_eq_true (by omega)
    unfold compM
    simp only [hn i hi, ht i hi, mpure, he i hi, hz, if_true]
    rw [comp_gen hn hend ht he t (i + 1) f' (acc ++ [rs i]) (by omega) (by omega) (by simp; omega)]
    simp [List.range'_succ]
theorem comp0 {it : Itr} {tg : Mach.W → Ev → Option Ev} {elt : M Mach.W} {e : Ev} {m : Mu} {n : Nat} {ws rs : Nat → Mach.W} {es : Nat → Ev} (hn : ∀ i, i < n → nextI it i m = some (some (ws i))) (hend : nextI it n m = some none)
    (ht : ∀ i, i < n → tg (ws i) e = some (es i)) (he : ∀ i, i < n → elt (es i) m = .ok (rs i) m) (hl : n ≤ 900000) : compM it tg (mpure true) elt e lids 0 [] m = .ok ((List.range n).map rs) m := by
  have q := comp_gen hn hend ht he n 0 lids [] (by omega) (by unfold lids; omega) (by simp; omega)
  rw [q, List.nil_append, List.range_eq_range']
/-! ### equality -/
theorem eqvR {d : PyData} (h : d.canLay0 = true) : PyData.eqv d d = true := SeqAt.eqv_refl d h
theorem eq_str (s : Str) (hs : PyData.strOk s = true) (m : Mu) : eqM (.str s) (.str s) m = some true := by
  have e : toD m dFuel (.str s) = some (.str s) := rfl
  unfold eqM
  rw [e]
  have c : PyData.canLay0 (.str s) = true := by simpa [PyData.canLay0] using hs
  simp [c, eqvR c]
theorem eq_int (i j : Int) (m : Mu) : eqM (.int i) (.int j) m = some (i == j) := by
  have e : ∀ i, toD m dFuel (.int i) = some (.int i) := fun _ => rfl
  unfold eqM
  rw [e, e]
  simp [PyData.canLay0, PyData.eqv]
theorem eq_ref {m : Mu} {p q : Nat} {d : PyData} (h1 : toD m dFuel (.ref p) = some d) (h2 : toD m dFuel (.ref q) = some d) (hc : d.canLay0 = true) : eqM (.ref p) (.ref q) m = some true := by
  unfold eqM
  rw [h1, h2]
  simp [hc, eqvR hc]
theorem bools_all : ∀ (m : Mu) (bs : List Bool), optAll (toD m 62) (bs.map W.bl) = some (bs.map PyData.bool)
  | m, [] => rfl
  | m, b :: bs => by
    have q := bools_all m bs
    simp [optAll, q, toD]
theorem bools_toD {m : Mu} {p : Nat} {bs : List Bool} (h : m[p]? = some (.lst (bs.map W.bl))) : toD m dFuel (.ref p) = some (.list (bs.map PyData.bool)) := by
  unfold dFuel toD
  rw [h]
  simp [bools_all]
theorem bools_lay (bs : List Bool) : (PyData.list (bs.map PyData.bool)).canLay0 = true := by
  have q : ∀ bs : List Bool, PyData.canLayAll0 (bs.map PyData.bool) = true := fun bs => by
    induction bs with
    | nil => simp [PyData.canLayAll0]
    | cons b bs ih => simp [PyData.canLayAll0, PyData.canLay0, ih]
  simp [PyData.canLay0, q]
theorem all_true {m : Mu} {p n : Nat} (h : m[p]? = some (.lst (List.replicate n (.bl true)))) : allM [.ref p] m = okB m true := by
  have q : ∀ n, allB (List.replicate n (.bl true)) = some (List.replicate n true) := fun n => by
    induction n with
    | zero => rfl
    | succ n ih => simp [List.replicate_succ, allB, ih]
  unfold allM
  simp [seqM, h, q]

/-! ### the errors asked of one another -/
def flB (c : Str) : List Bool := names32.map fun x => c == x
theorem fl_last (c : Str) : (flagsG c)[20]? = some (.lst ((flB c).map W.bl)) := rfl
def nm (i : Nat) : Str := names32.getD i ""
def rgB (i : Nat) : List Bool := (List.range 32).map fun j => j == i
theorem fl_rg : ((List.range 32).all fun i => decide (flB (nm i) = rgB i) && names32.contains (nm i)) = true := by kernel_rfl
theorem fl_eq {i : Nat} (h : i < 32) : flB (nm i) = rgB i := by
  have q := List.all_eq_true.mp fl_rg i (List.mem_range.mpr h)
  rw [Bool.and_eq_true] at q
  exact of_decide_eq_true q.1
theorem nm_mem {i : Nat} (h : i < 32) : nm i ∈ names32 := by
  have q := List.all_eq_true.mp fl_rg i (List.mem_range.mpr h)
  rw [Bool.and_eq_true] at q
  simpa using q.2
/-- the list of every error -/
structure Ev32 (m : Mu) (q : Nat) : Prop where
  ex : ∃ rs : List Mach.W, m[q]? = some (.lst rs) ∧ rs.length = 32 ∧ ∀ i, i < 32 → ∃ r fs, rs[i]? = some (.ref r) ∧ m[r]? = some (.exc (nm i) fs)
theorem Ev32.app {m : Mu} {q : Nat} (h : Ev32 m q) (g : Mu) : Ev32 (m ++ g) q := by
  obtain ⟨rs, h1, h2, h3⟩ := h.ex
  refine ⟨rs, by rw [List.getElem?_append_left (get_lt h1)]; exact h1, h2, fun i hi => ?_⟩
  obtain ⟨r, fs, q1, q2⟩ := h3 i hi
  exact ⟨r, fs, q1, by rw [List.getElem?_append_left (get_lt q2)]; exact q2⟩
theorem isG {m : Mu} {p : Nat} {c : Str} {fs : List (Str × Mach.W)} (hm : m[p]? = some (.exc c fs)) (hc : c ∈ names32) : isM tb.pg "GivenError" (.ref p) m = okB m true := by
  have e : (tb.pg.exc "GivenError").isSome = false := by kernel_rfl
  unfold isM
  simp [hm, exs hc, e]
theorem isV {m : Mu} {p : Nat} {c : Str} {fs : List (Str × Mach.W)} (hm : m[p]? = some (.exc c fs)) (hc : c ∈ names32) : isM tb.pg "ValueError" (.ref p) m = okB m true := by
  have e : (tb.pg.exc "ValueError").isSome = false := by kernel_rfl
  have ne : ("ValueError" : Str) ≠ "GivenError" := by decide
  unfold isM
  simp [hm, exs hc, e, ne]
theorem turn_ok {k i q r : Nat} {m : Mu} {fs : List (Str × Mach.W)} {a0 a1 a2 a3 a4 a8 : Option Mach.W} (hi : i < 32) (h : Ev32 m q) (hr : m[r]? = some (.exc (nm i) fs)) :
    ∃ g, sh_right_3 (CA (k + 1)) [a0, a1, a2, a3, a4, some (.ref q), some (.int (i : Nat)), some (.ref r), a8] m = .ok (.nx [a0, a1, a2, a3, a4, some (.ref q), some (.int (i : Nat)), some (.ref r), a8]) (m ++ g) := by
  have hc := nm_mem hi
  have hg := isG hr hc
  have hv := isV hr hc
  have hf := flags_eq k hr hc
  obtain ⟨rs, e1, e2, _⟩ := (h.app (flagsG (nm i))).ex
  have hcomp : compM (.seq ((List.range 32).map fun i => W.int (i : Nat))) (tgN 8) (mpure true) (sh_right_2 (CA (k + 1))) [a0, a1, a2, a3, a4, some (.ref q), some (.int (i : Nat)), some (.ref r), none] lids 0 [] (m ++ flagsG (nm i)) = .ok ((List.range 32).map fun j => W.bl (j == i)) (m ++ flagsG (nm i)) := by
    refine comp0 (n := 32) (ws := fun j => .int (j : Nat)) (rs := fun j => W.bl (j == i)) (es := fun j => [a0, a1, a2, a3, a4, some (.ref q), some (.int (i : Nat)), some (.ref r), some (.int (j : Nat))]) (fun j hj => ?_) ?_ (fun j hj => rfl) (fun j hj => ?_) (by omega)
    · show some (((List.range 32).map fun i => W.int (i : Nat))[j]?) = _
      rw [List.getElem?_map, List.getElem?_range hj]
      rfl
    · rfl
    · have e : ((j : Int) == (i : Int)) = (j == i) := by
        rw [Bool.eq_iff_iff, beq_iff_eq, beq_iff_eq]
        omega
      simp [sh_right_2, mop2, mbind, mvar, mval, calmR, Res.bind, cmpM, eq_int, ofB, okB, e]
  have hl : ((List.range 32).map fun j => W.bl (j == i)) = (rgB i).map W.bl := by unfold rgB; rw [List.map_map]; rfl
  rw [hl] at hcomp
  have t1 : toD (m ++ flagsG (nm i) ++ [.lst ((rgB i).map W.bl)]) dFuel (.ref (m.length + 20)) = some (.list ((rgB i).map PyData.bool)) := bools_toD (by
    rw [List.append_assoc, lk, List.getElem?_append_left (show 20 < 21 by decide), fl_last, fl_eq hi])
  have hlen : (m ++ flagsG (nm i)).length = m.length + 21 := by rw [List.length_append]; rfl
  have t2 : toD (m ++ flagsG (nm i) ++ [.lst ((rgB i).map W.bl)]) dFuel (.ref (m.length + 21)) = some (.list ((rgB i).map PyData.bool)) := bools_toD (by
    rw [← hlen, lk0]; rfl)
  have heq := eq_ref t1 t2 (bools_lay _)
  refine ⟨flagsG (nm i) ++ [.lst ((rgB i).map W.bl)], ?_⟩
  rw [← List.append_assoc]
  generalize m ++ flagsG (nm i) = M1 at *
  generalize (rgB i).map W.bl = bl at *
  simp [sh_right_3, sSeq, sE, mif, mbind, mtru, mop1, mop2, mvar, mpure, mval, calmR, Res.bind, mAll, lcS, itRange, wipeE, sNext, hg, hv, okB, truM, hf, blt_len, lenM, seqM, e1, e2, okI, hcomp, Mach.alloc, hlen, cmpM, heq, ofB]
end K69
namespace K69
open PySem Mach
theorem loop_ok {k q : Nat} {a0 a1 a2 a3 a4 a8 : Option Mach.W} : ∀ (t i f : Nat) (a6 a7 : Option Mach.W) (m : Mu), i + t = 32 → t < f → Ev32 m q →
    ∃ g b6 b7, forS (.enum q) (tgT [tgN 6, tgN 7]) (sh_right_3 (CA (k + 1))) f i [a0, a1, a2, a3, a4, some (.ref q), a6, a7, a8] m = .ok (.nx [a0, a1, a2, a3, a4, some (.ref q), b6, b7, a8]) (m ++ g)
  | 0, i, f, a6, a7, m, h1, h2, h => by
    obtain ⟨f', rfl⟩ : ∃ f', f = f' + 1 := ⟨f - 1, by omega⟩
    obtain ⟨rs, e1, e2, _⟩ := h.ex
    have hi : i = 32 := by omega
    subst hi
    refine ⟨[], a6, a7, ?_⟩
    have e : nextI (.enum q) 32 m = some none := by
      show (seqM m q).map _ = _
      have z : seqM m q = some rs := by unfold seqM; rw [e1]
      rw [z]
      show some ((rs[32]?).map _) = _
      rw [List.getElem?_eq_none (by omega)]
      rfl
    unfold forS
    rw [e]
    simp
  | t + 1, i, f, a6, a7, m, h1, h2, h => by
    obtain ⟨f', rfl⟩ : ∃ f', f = f' + 1 := ⟨f - 1, by omega⟩
    have hi : i < 32 := by omega
    obtain ⟨rs, e1, e2, e3⟩ := h.ex
    obtain ⟨r, fs, q1, q2⟩ := e3 i hi
    have e : nextI (.enum q) i m = some (some (.tup [.int (i : Nat), .ref r])) := by
      show (seqM m q).map _ = _
      have z : seqM m q = some rs := by unfold seqM; rw [e1]
      rw [z]
      show some ((rs[i]?).map _) = _
      rw [q1]
      rfl
    obtain ⟨g, hg⟩ := turn_ok (k := k) (a0 := a0) (a1 := a1) (a2 := a2) (a3 := a3) (a4 := a4) (a8 := a8) hi h q2
    obtain ⟨g', b6, b7, hl⟩ := loop_ok (k := k) (q := q) (a0 := a0) (a1 := a1) (a2 := a2) (a3 := a3) (a4 := a4) (a8 := a8) t (i + 1) f' (some (.int (i : Nat))) (some (.ref r)) (m ++ g) (by omega) (by omega) (h.app g)
    refine ⟨g ++ g', b6, b7, ?_⟩
    unfold forS
    rw [e]
    have e2 : tgT [tgN 6, tgN 7] (.tup [.int (i : Nat), .ref r]) [a0, a1, a2, a3, a4, some (.ref q), a6, a7, a8] = some [a0, a1, a2, a3, a4, some (.ref q), some (.int (i : Nat)), some (.ref r), a8] := rfl
    simp only [e2, hg, hl, List.append_assoc]
/-! ### the reprs -/
/-- the thing, where it can be shown -/
structure Shw (M : Mu) (w : Mach.W) (s : Str) : Prop where
  run : ∀ g, reprM [w] (M ++ g) = .ok (.str s) (M ++ g)
  ok : PyData.strOk s = true
theorem Shw.app {M : Mu} {w : Mach.W} {s : Str} (h : Shw M w s) (g : Mu) : Shw (M ++ g) w s := ⟨fun g' => by rw [List.append_assoc]; exact h.run _, h.ok⟩
theorem Shw.at {M : Mu} {w : Mach.W} {s : Str} (h : Shw M w s) : reprM [w] M = .ok (.str s) M := by
  have := h.run []
  rwa [List.append_nil] at this
theorem shw_of {M : Mu} {L n : Nat} {w : Mach.W} (h : Val L M n w) (hn : n ≤ 39) : ∃ s, Shw M w s := by
  obtain ⟨d, h1, h2⟩ := h
  refine ⟨d.shown, fun g => ?_, h2.2⟩
  have q := h1 (M ++ g) dFuel (Agr.app g) (by unfold dFuel; omega)
  have hz : Mach.sizeOk d.shown.length = true := decide_eq_true (by have := h2.1.2; omega)
  unfold reprM
  simp [q, h2.1.1, hz]
/-- [repr(e.f) == shown for e in ..] -/
theorem comp_eq {m : Mu} {q n : Nat} {rs : List Nat} {f : Str} {w : Mach.W} {s : Str} {e : Ev} {elt : M Mach.W} {i7 : Nat} (hs : reprM [w] m = .ok (.str s) m) (ho : PyData.strOk s = true)
    (hq : m[q]? = some (.lst (rs.map W.ref))) (hl : rs.length = n) (hn : n ≤ 900000) (hr : ∀ i, i < n → ∃ c, m[rs.getD i 0]? = some (.exc c [(f, w)]) ∧ tb.pg.exc c = some (some f))
    (helt : ∀ r, elt (e.set i7 (some (.ref r))) m = mop2 (cmpM .Eq) (mbind (mAll id [mop1 (attrM tb.pg f) (mpure (.ref r))]) fun ws => mval (bltM "repr" ws)) (mpure (.str s)) (e.set i7 (some (.ref r))) m) :
    compM (.lst q) (tgN i7) (mpure true) elt e lids 0 [] m = .ok (List.replicate n (.bl true)) m := by
  have z : seqM m q = some (rs.map W.ref) := by unfold seqM; rw [hq]
  have k := comp0 (it := .lst q) (tg := tgN i7) (elt := elt) (e := e) (m := m) (n := n) (ws := fun i => .ref (rs.getD i 0)) (rs := fun _ => .bl true) (es := fun i => e.set i7 (some (.ref (rs.getD i 0)))) (fun i hi => ?_) ?_ (fun i hi => rfl) (fun i hi => ?_) hn
  · rw [k]
    congr 1
    rw [List.map_const', List.length_range]
  · show (seqM m q).map _ = _
    rw [z]
    show some ((rs.map W.ref)[i]?) = _
    rw [List.getElem?_map, List.getElem?_eq_getElem (by omega)]
    simp [List.getD_eq_getElem?_getD, List.getElem?_eq_getElem (show i < rs.length by omega)]
  · show (seqM m q).map _ = _
    rw [z]
    show some ((rs.map W.ref)[n]?) = _
    rw [List.getElem?_eq_none (by simp; omega)]
  · obtain ⟨c, h1, h2⟩ := hr i hi
    rw [helt]
    have e1 := eq_str s ho m
    generalize rs.getD i 0 = r at *
    simp [mop2, mop1, mbind, mAll, mpure, mval, calmR, Res.bind, attrM, h1, h2, okO, blt_repr, hs, cmpM, e1, ofB, okB]
end K69
namespace K69
open PySem Mach
def p1 (L : Nat) (w : Mach.W) : Mu := madeG L w ++ [.exc "BadText" [("number", w)], .exc "BadRun" [("number", w)], .exc "Telling" [("number", w)], .exc "TooMany" [("number", w)], .lst [.ref (L + 33), .ref (L + 34), .ref (L + 35), .ref (L + 36)]]
def t24 : List Mach.W := List.replicate 24 (.bl true)
def t4 : List Mach.W := List.replicate 4 (.bl true)
def uns (w : Mach.W) : MO := .exc "Unsure" [("answers", w)]
def q6 (L : Nat) (w : Mach.W) : Mu := [.lst [.ref L, .ref (L + 1), .ref (L + 2), .ref (L + 3), .ref (L + 4), .ref (L + 5), .ref (L + 7), .ref (L + 8), .ref (L + 9), .ref (L + 10), .ref (L + 11), .ref (L + 12), .ref (L + 15), .ref (L + 16), .ref (L + 17), .ref (L + 18), .ref (L + 19), .ref (L + 22), .ref (L + 23), .ref (L + 24), .ref (L + 25), .ref (L + 26), .ref (L + 29), .ref (L + 30), .ref (L + 33), .ref (L + 34), .ref (L + 35), .ref (L + 36)], uns w, .exc "NothingToUndo" [], .exc "NothingToRedo" [], .exc "NoTrial" [], .lst [.ref (L + 42), .ref (L + 43), .ref (L + 44), .ref (L + 45)], .lst [.ref L, .ref (L + 1), .ref (L + 2), .ref (L + 3), .ref (L + 4), .ref (L + 5), .ref (L + 7), .ref (L + 8), .ref (L + 9), .ref (L + 10), .ref (L + 11), .ref (L + 12), .ref (L + 15), .ref (L + 16), .ref (L + 17), .ref (L + 18), .ref (L + 19), .ref (L + 22), .ref (L + 23), .ref (L + 24), .ref (L + 25), .ref (L + 26), .ref (L + 29), .ref (L + 30), .ref (L + 33), .ref (L + 34), .ref (L + 35), .ref (L + 36), .ref (L + 42), .ref (L + 43), .ref (L + 44), .ref (L + 45)]]
def p5 (L : Nat) (w : Mach.W) : Mu := p1 L w ++ [.lst t24, .lst t4, uns w] ++ q6 L w
def r24 (L : Nat) : List Nat := [L, L + 1, L + 2, L + 3, L + 4, L + 5, L + 7, L + 8, L + 9, L + 10, L + 11, L + 12, L + 15, L + 16, L + 17, L + 18, L + 19, L + 22, L + 23, L + 24, L + 25, L + 26, L + 29, L + 30]
def r4 (L : Nat) : List Nat := [L + 33, L + 34, L + 35, L + 36]
theorem r24_ok {M g : Mu} {w : Mach.W} : ∀ i, i < 24 → ∃ c, (M ++ (p1 M.length w ++ g))[(r24 M.length).getD i 0]? = some (.exc c [("value", w)]) ∧ tb.pg.exc c = some (some ("value" : Str))
  | 0, _ => ⟨"BadStand", lk (k := 0), by kernel_rfl⟩
  | 1, _ => ⟨"NoMove", lk (k := 1), by kernel_rfl⟩
  | 2, _ => ⟨"BadReader", lk (k := 2), by kernel_rfl⟩
  | 3, _ => ⟨"BadMemory", lk (k := 3), by kernel_rfl⟩
  | 4, _ => ⟨"BadMove", lk (k := 4), by kernel_rfl⟩
  | 5, _ => ⟨"BadRows", lk (k := 5), by kernel_rfl⟩
  | 6, _ => ⟨"BadPool", lk (k := 7), by kernel_rfl⟩
  | 7, _ => ⟨"BadAsk", lk (k := 8), by kernel_rfl⟩
  | 8, _ => ⟨"BadAsks", lk (k := 9), by kernel_rfl⟩
  | 9, _ => ⟨"BadCase", lk (k := 10), by kernel_rfl⟩
  | 10, _ => ⟨"BadView", lk (k := 11), by kernel_rfl⟩
  | 11, _ => ⟨"BadCount", lk (k := 12), by kernel_rfl⟩
  | 12, _ => ⟨"BadSecrets", lk (k := 15), by kernel_rfl⟩
  | 13, _ => ⟨"BadNeeds", lk (k := 16), by kernel_rfl⟩
  | 14, _ => ⟨"BadOffers", lk (k := 17), by kernel_rfl⟩
  | 15, _ => ⟨"BadChanges", lk (k := 18), by kernel_rfl⟩
  | 16, _ => ⟨"BadChange", lk (k := 19), by kernel_rfl⟩
  | 17, _ => ⟨"BadOthers", lk (k := 22), by kernel_rfl⟩
  | 18, _ => ⟨"BadWays", lk (k := 23), by kernel_rfl⟩
  | 19, _ => ⟨"BadDeed", lk (k := 24), by kernel_rfl⟩
  | 20, _ => ⟨"BadNumber", lk (k := 25), by kernel_rfl⟩
  | 21, _ => ⟨"BadGuards", lk (k := 26), by kernel_rfl⟩
  | 22, _ => ⟨"BadRules", lk (k := 29), by kernel_rfl⟩
  | 23, _ => ⟨"BadLine", lk (k := 30), by kernel_rfl⟩
  | n + 24, h => absurd h (by omega)
theorem r4_ok {M g : Mu} {w : Mach.W} : ∀ i, i < 4 → ∃ c, (M ++ (p1 M.length w ++ g))[(r4 M.length).getD i 0]? = some (.exc c [("number", w)]) ∧ tb.pg.exc c = some (some ("number" : Str))
  | 0, _ => ⟨"BadText", lk (k := 33), by kernel_rfl⟩
  | 1, _ => ⟨"BadRun", lk (k := 34), by kernel_rfl⟩
  | 2, _ => ⟨"Telling", lk (k := 35), by kernel_rfl⟩
  | 3, _ => ⟨"TooMany", lk (k := 36), by kernel_rfl⟩
  | n + 4, h => absurd h (by omega)
theorem ev_ok {M : Mu} {w : Mach.W} : Ev32 (M ++ p5 M.length w) (M.length + 47) := by
  refine ⟨[.ref M.length, .ref (M.length + 1), .ref (M.length + 2), .ref (M.length + 3), .ref (M.length + 4), .ref (M.length + 5), .ref (M.length + 7), .ref (M.length + 8), .ref (M.length + 9), .ref (M.length + 10), .ref (M.length + 11), .ref (M.length + 12), .ref (M.length + 15), .ref (M.length + 16), .ref (M.length + 17), .ref (M.length + 18), .ref (M.length + 19), .ref (M.length + 22), .ref (M.length + 23), .ref (M.length + 24), .ref (M.length + 25), .ref (M.length + 26), .ref (M.length + 29), .ref (M.length + 30), .ref (M.length + 33), .ref (M.length + 34), .ref (M.length + 35), .ref (M.length + 36), .ref (M.length + 42), .ref (M.length + 43), .ref (M.length + 44), .ref (M.length + 45)], lk (k := 47), rfl, fun i hi => ?_⟩
  match i, hi with
  | 0, _ => exact ⟨_, _, rfl, lk (k := 0)⟩
  | 1, _ => exact ⟨_, _, rfl, lk (k := 1)⟩
  | 2, _ => exact ⟨_, _, rfl, lk (k := 2)⟩
  | 3, _ => exact ⟨_, _, rfl, lk (k := 3)⟩
  | 4, _ => exact ⟨_, _, rfl, lk (k := 4)⟩
  | 5, _ => exact ⟨_, _, rfl, lk (k := 5)⟩
  | 6, _ => exact ⟨_, _, rfl, lk (k := 7)⟩
  | 7, _ => exact ⟨_, _, rfl, lk (k := 8)⟩
  | 8, _ => exact ⟨_, _, rfl, lk (k := 9)⟩
  | 9, _ => exact ⟨_, _, rfl, lk (k := 10)⟩
  | 10, _ => exact ⟨_, _, rfl, lk (k := 11)⟩
  | 11, _ => exact ⟨_, _, rfl, lk (k := 12)⟩
  | 12, _ => exact ⟨_, _, rfl, lk (k := 15)⟩
  | 13, _ => exact ⟨_, _, rfl, lk (k := 16)⟩
  | 14, _ => exact ⟨_, _, rfl, lk (k := 17)⟩
  | 15, _ => exact ⟨_, _, rfl, lk (k := 18)⟩
  | 16, _ => exact ⟨_, _, rfl, lk (k := 19)⟩
  | 17, _ => exact ⟨_, _, rfl, lk (k := 22)⟩
  | 18, _ => exact ⟨_, _, rfl, lk (k := 23)⟩
  | 19, _ => exact ⟨_, _, rfl, lk (k := 24)⟩
  | 20, _ => exact ⟨_, _, rfl, lk (k := 25)⟩
  | 21, _ => exact ⟨_, _, rfl, lk (k := 26)⟩
  | 22, _ => exact ⟨_, _, rfl, lk (k := 29)⟩
  | 23, _ => exact ⟨_, _, rfl, lk (k := 30)⟩
  | 24, _ => exact ⟨_, _, rfl, lk (k := 33)⟩
  | 25, _ => exact ⟨_, _, rfl, lk (k := 34)⟩
  | 26, _ => exact ⟨_, _, rfl, lk (k := 35)⟩
  | 27, _ => exact ⟨_, _, rfl, lk (k := 36)⟩
  | 28, _ => exact ⟨_, _, rfl, lk (k := 42)⟩
  | 29, _ => exact ⟨_, _, rfl, lk (k := 43)⟩
  | 30, _ => exact ⟨_, _, rfl, lk (k := 44)⟩
  | 31, _ => exact ⟨_, _, rfl, lk (k := 45)⟩
  | n + 32, h => exact absurd h (by omega)
end K69
namespace K69
open PySem Mach
theorem seq_nx {a b : MS} {e e' : Ev} {m m' : Mu} (h : a e m = .ok (.nx e') m') : sSeq a b e m = b e' m' := by unfold sSeq; rw [h]
theorem all_b {m : Mu} {p : Nat} {n : Nat} (h : m[p]? = some (.lst (List.replicate n (.bl true)))) : bltM "all" [.ref p] m = okB m true := by rw [blt_all]; exact all_true h
theorem mlen (L : Nat) (w : Mach.W) : (madeG L w).length = 33 := rfl
theorem p1len (L : Nat) (w : Mach.W) : (p1 L w).length = 38 := rfl
theorem attr_at {m : Mu} {r : Nat} {c f : Str} {w : Mach.W} (h : m[r]? = some (.exc c [(f, w)])) (hc : tb.pg.exc c = some (some f)) : attrM tb.pg f (.ref r) m = .ok w m := by
  unfold attrM
  simp [h, hc, okO]
theorem add_at {M P : Mu} {i j : Nat} {xs ys : List Mach.W} (h1 : P[i]? = some (.lst xs)) (h2 : P[j]? = some (.lst ys)) (hz : Mach.sizeOk (xs.length + ys.length) = true) : addM (.ref (M.length + i)) (.ref (M.length + j)) (M ++ P) = .ok (.ref (M.length + P.length)) (M ++ (P ++ [.lst (xs ++ ys)])) := by
  unfold addM
  simp [lk, h1, h2, hz, Mach.alloc]
theorem every_ok {call : CallT} {M : Mu} {w : Mach.W} {a0 a2 a6 a7 a8 : Option Mach.W} :
    (mop2 (binM .Add) (mop2 (binM .Add) (mvar 3) (mvar 4)) (mbind (mAll id [mbind (mAll id [mvar 1]) fun ws => mval (mkExc "Unsure" (some "answers") ws), mbind (mAll id []) fun ws => mval (mkExc "NothingToUndo" none ws), mbind (mAll id []) fun ws => mval (mkExc "NothingToRedo" none ws), mbind (mAll id []) fun ws => mval (mkExc "NoTrial" none ws)]) fun ws => mval (Mach.alloc (.lst ws))) : Mach.M Mach.W)
      [a0, some w, a2, some (.ref (M.length + 32)), some (.ref (M.length + 37)), none, a6, a7, a8] (M ++ (p1 M.length w ++ [.lst t24, .lst t4, uns w])) = .ok (.ref (M.length + 47)) (M ++ p5 M.length w) := by
  have a1 := add_at (M := M) (P := p1 M.length w ++ [.lst t24, .lst t4, uns w]) (i := 32) (j := 37) rfl rfl rfl
  have a2 := add_at (M := M) (P := p1 M.length w ++ [.lst t24, .lst t4, uns w] ++ (q6 M.length w).take 6) (i := 41) (j := 46) rfl rfl rfl
  have l1 : (p1 M.length w ++ [.lst t24, .lst t4, uns w]).length = 41 := rfl
  have l2 : (p1 M.length w ++ [.lst t24, .lst t4, uns w] ++ (q6 M.length w).take 6).length = 47 := rfl
  rw [l1] at a1
  rw [l2] at a2
  have e5 : p5 M.length w = p1 M.length w ++ [.lst t24, .lst t4, uns w] ++ (q6 M.length w).take 6 ++ (q6 M.length w).drop 6 := by
    unfold p5
    rw [List.append_assoc (p1 M.length w ++ [.lst t24, .lst t4, uns w]), List.take_append_drop]
  rw [e5]
  generalize p1 M.length w ++ [.lst t24, .lst t4, uns w] = P4 at *
  unfold q6 uns at *
  simp at a1 a2
  simp [mop2, mbind, mAll, mvar, mpure, mval, calmR, Res.bind, mkExc, Mach.alloc, binM, a1, l1, Nat.add_assoc, a2]
def u4 (L : Nat) (w : Mach.W) : Mu := [.exc "BadStand" [("value", w)], .exc "BadPool" [("value", w)], .exc "BadLine" [("value", w)], .lst [.ref L, .ref (L + 1), .ref (L + 2)]]
def v8 (L : Nat) (w : Mach.W) (s : Str) : Mu := u4 L w ++ [.lst [.str s, .str s, .str s], .lst [.str s], .lst [.str s, .str s, .str s], .exc "BadText" [("number", w)]]
def v9 (L : Nat) (w : Mach.W) (s : Str) : Mu := u4 L w ++ [.lst [.str s, .str s, .str s], .lst [.str s], .lst [.str s, .str s, .str s], .exc "BadText" [("number", w)], .exc "Unsure" [("answers", w)]]
theorem strs3 {m : Mu} {p : Nat} {s : Str} (h : m[p]? = some (.lst [.str s, .str s, .str s])) : toD m dFuel (.ref p) = some (.list [.str s, .str s, .str s]) := by
  unfold dFuel toD
  rw [h]
  rfl
theorem lay3 {s : Str} (h : PyData.strOk s = true) : (PyData.list [.str s, .str s, .str s]).canLay0 = true := by simp [PyData.canLay0, PyData.canLayAll0, h]
theorem right_run {k p : Nat} {m M : Mu} {w : Mach.W} {s : Str} (hany : CA (k + 3) "_law_any" [.ref p] m = .ok w M) (S : Shw M w s) : ∃ g, CA (k + 4) "_law_right" [.ref p] m = .ok (.bl true) (M ++ g) := by
  have eqs := fun m => eq_str s S.ok m
  have hmade := made_eq (k + 2) w M
  -- after the first three statements
  have hs1 := S.app (p1 M.length w)
  have hs2 := S.app (p1 M.length w ++ [.lst t24])
  have hc1 : compM (.lst (M.length + 32)) (tgN 7) (mpure true) (sh_right_5 (CA (k + 3))) [some (.ref p), some w, some (.str s), some (.ref (M.length + 32)), some (.ref (M.length + 37)), none, none, none, none] lids 0 [] (M ++ p1 M.length w) = .ok t24 (M ++ p1 M.length w) :=
    comp_eq (rs := r24 M.length) (f := "value") (i7 := 7) (n := 24) hs1.at S.ok (lk (k := 32)) rfl (by omega) (fun i hi => by have := r24_ok (M := M) (g := []) (w := w) i hi; rwa [List.append_nil] at this) (fun r => rfl)
  have hc2 : compM (.lst (M.length + 37)) (tgN 7) (mpure true) (sh_right_4 (CA (k + 3))) [some (.ref p), some w, some (.str s), some (.ref (M.length + 32)), some (.ref (M.length + 37)), none, none, none, none] lids 0 [] (M ++ (p1 M.length w ++ [.lst t24])) = .ok t4 (M ++ (p1 M.length w ++ [.lst t24])) :=
    comp_eq (rs := r4 M.length) (f := "number") (i7 := 7) (n := 4) hs2.at S.ok (lk (k := 37)) rfl (by omega) (fun i hi => r4_ok (M := M) (w := w) i hi) (fun r => rfl)
  obtain ⟨g, b6, b7, hloop⟩ := loop_ok (k := k + 2) (a0 := some (.ref p)) (a1 := some w) (a2 := some (.str s)) (a3 := some (.ref (M.length + 32))) (a4 := some (.ref (M.length + 37))) (a8 := none) 32 0 lids none none (M ++ p5 M.length w) rfl (by unfold lids; omega) ev_ok
  have h1 : sh_right (CA (k + 3)) (startE d_law_right.names [.ref p]) m = .ok (.rt (.bl true)) (M ++ p5 M.length w ++ g ++ v9 (M ++ p5 M.length w ++ g).length w s) := by
    unfold sh_right
    refine (seq_nx (e' := [some (.ref p), some w, none, none, none, none, none, none, none]) (m' := M) ?_).trans ?_
    · simp [startE, d_law_right, sE, mbind, mAll, mvar, mpure, Res.bind, sSet, hany]
    refine (seq_nx (e' := [some (.ref p), some w, some (.str s), none, none, none, none, none, none]) (m' := M) ?_).trans ?_
    · simp [sE, mbind, mAll, mvar, mpure, mval, calmR, Res.bind, sSet, blt_repr, S.at]
    refine (seq_nx (e' := [some (.ref p), some w, some (.str s), some (.ref (M.length + 32)), some (.ref (M.length + 37)), none, none, none, none]) (m' := M ++ p1 M.length w) ?_).trans ?_
    · simp [sE, mbind, mAll, mvar, mpure, mval, calmR, Res.bind, sSet, hmade, mkExc, Mach.alloc, mlen, p1, pairS, Nat.add_assoc]
    refine (seq_nx (e' := [some (.ref p), some w, some (.str s), some (.ref (M.length + 32)), some (.ref (M.length + 37)), none, none, none, none]) (m' := M ++ (p1 M.length w ++ [.lst t24])) ?_).trans ?_
    · have q1 : seqM (M ++ p1 M.length w) (M.length + 32) = some ((r24 M.length).map W.ref) := by
        unfold seqM
        rw [lk]
        rfl
      have q2 : bltM "all" [.ref (M.length + 38)] (M ++ (p1 M.length w ++ [.lst t24])) = okB (M ++ (p1 M.length w ++ [.lst t24])) true := all_b (n := 24) (lk (k := 38))
      simp [sE, mbind, mAll, mvar, mpure, mval, calmR, Res.bind, mtru, lcS, itAny, q1, wipeE, hc1, Mach.alloc, p1len, sNext, q2, okB, truM]
    refine (seq_nx (e' := [some (.ref p), some w, some (.str s), some (.ref (M.length + 32)), some (.ref (M.length + 37)), none, none, none, none]) (m' := M ++ (p1 M.length w ++ [.lst t24, .lst t4, uns w])) ?_).trans ?_
    · have q1 : seqM (M ++ (p1 M.length w ++ [.lst t24])) (M.length + 37) = some ((r4 M.length).map W.ref) := by
        unfold seqM
        rw [lk]
        rfl
      have q2 : bltM "all" [.ref (M.length + 39)] (M ++ (p1 M.length w ++ [.lst t24, .lst t4])) = okB (M ++ (p1 M.length w ++ [.lst t24, .lst t4])) true := all_b (n := 4) (lk (k := 39))
      have q3 : attrM tb.pg "answers" (.ref (M.length + 40)) (M ++ (p1 M.length w ++ [.lst t24, .lst t4, uns w])) = .ok w (M ++ (p1 M.length w ++ [.lst t24, .lst t4, uns w])) := attr_at (c := "Unsure") (lk (k := 40)) (by kernel_rfl)
      have q4 := (S.app (p1 M.length w ++ [.lst t24, .lst t4, uns w])).at
      unfold uns at q3 q4 ⊢
      simp [sE, mif, mop1, mop2, mbind, mAll, mvar, mpure, mval, calmR, Res.bind, mtru, lcS, itAny, q1, wipeE, hc2, Mach.alloc, p1len, sNext, q2, okB, truM, mkExc, q3, blt_repr, q4, cmpM, eqs, ofB, Nat.add_assoc]
    refine (seq_nx (e' := [some (.ref p), some w, some (.str s), some (.ref (M.length + 32)), some (.ref (M.length + 37)), some (.ref (M.length + 47)), none, none, none]) (m' := M ++ p5 M.length w) ?_).trans ?_
    · have e := every_ok (call := CA (k + 3)) (M := M) (w := w) (a0 := some (.ref p)) (a2 := some (.str s)) (a6 := none) (a7 := none) (a8 := none)
      unfold sE
      rw [e]
      rfl
    refine (seq_nx (e' := [some (.ref p), some w, some (.str s), some (.ref (M.length + 32)), some (.ref (M.length + 37)), some (.ref (M.length + 47)), b6, b7, none]) (m' := M ++ p5 M.length w ++ g) ?_).trans ?_
    · have q1 : ∃ rs, seqM (M ++ p5 M.length w) (M.length + 47) = some rs := by
        unfold seqM
        rw [lk]
        exact ⟨_, rfl⟩
      obtain ⟨rs, q1⟩ := q1
      simp only [sE, itEnum, mbind, mvar, Res.bind, List.getElem?_cons_succ, List.getElem?_cons_zero, q1]
      exact hloop
    have S6 : Shw (M ++ p5 M.length w ++ g) w s := (S.app _).app _
    generalize M ++ p5 M.length w ++ g = N at *
    have cB : compM (.lst (N.length + 3)) (tgN 7) (mpure true) (sh_right_1 (CA (k + 3))) [some (.ref p), some w, some (.str s), some (.ref (N.length + 3)), some (.ref (M.length + 37)), some (.ref (M.length + 47)), b6, none, none] lids 0 [] (N ++ u4 N.length w) = .ok [.str s, .str s, .str s] (N ++ u4 N.length w) := by
      refine comp0 (n := 3) (ws := fun i => .ref (N.length + i)) (rs := fun _ => .str s) (es := fun i => [some (.ref p), some w, some (.str s), some (.ref (N.length + 3)), some (.ref (M.length + 37)), some (.ref (M.length + 47)), b6, some (.ref (N.length + i)), none]) (fun i hi => ?_) ?_ (fun i hi => rfl) (fun i hi => ?_) (by omega)
      · have z : seqM (N ++ u4 N.length w) (N.length + 3) = some [.ref N.length, .ref (N.length + 1), .ref (N.length + 2)] := by
          unfold seqM
          rw [lk]
          rfl
        show (seqM (N ++ u4 N.length w) (N.length + 3)).map _ = _
        rw [z]
        match i, hi with
        | 0, _ => rfl
        | 1, _ => rfl
        | 2, _ => rfl
      · have z : seqM (N ++ u4 N.length w) (N.length + 3) = some [.ref N.length, .ref (N.length + 1), .ref (N.length + 2)] := by
          unfold seqM
          rw [lk]
          rfl
        show (seqM (N ++ u4 N.length w) (N.length + 3)).map _ = _
        rw [z]
        rfl
      · have q : attrM tb.pg "value" (.ref (N.length + i)) (N ++ u4 N.length w) = .ok w (N ++ u4 N.length w) := by
          match i, hi with
          | 0, _ => exact attr_at (c := "BadStand") (lk (k := 0)) (by kernel_rfl)
          | 1, _ => exact attr_at (c := "BadPool") (lk (k := 1)) (by kernel_rfl)
          | 2, _ => exact attr_at (c := "BadLine") (lk (k := 2)) (by kernel_rfl)
        have q2 := (S6.app (u4 N.length w)).at
        simp [sh_right_1, mbind, mAll, mop1, mvar, mpure, mval, calmR, Res.bind, q, blt_repr, q2]
    refine (seq_nx (e' := [some (.ref p), some w, some (.str s), some (.ref (N.length + 3)), some (.ref (M.length + 37)), some (.ref (M.length + 47)), b6, b7, none]) (m' := N ++ u4 N.length w) ?_).trans ?_
    · simp [sE, mbind, mAll, mvar, mpure, mval, calmR, Res.bind, sSet, mkExc, Mach.alloc, u4, Nat.add_assoc]
    refine (seq_nx (e' := [some (.ref p), some w, some (.str s), some (.ref (N.length + 3)), some (.ref (M.length + 37)), some (.ref (M.length + 47)), b6, b7, none]) (m' := N ++ v8 N.length w s) ?_).trans ?_
    · have z : seqM (N ++ u4 N.length w) (N.length + 3) = some [.ref N.length, .ref (N.length + 1), .ref (N.length + 2)] := by
        unfold seqM
        rw [lk]
        rfl
      have l4 : (u4 N.length w).length = 4 := rfl
      have mu : mulM (.ref (N.length + 5)) (.int 3) (N ++ (u4 N.length w ++ [.lst [.str s, .str s, .str s], .lst [.str s]])) = .ok (.ref (N.length + 6)) (N ++ (u4 N.length w ++ [.lst [.str s, .str s, .str s], .lst [.str s], .lst [.str s, .str s, .str s]])) := by
        have q : (N ++ (u4 N.length w ++ [MO.lst [W.str s, W.str s, W.str s], MO.lst [W.str s]]))[N.length + 5]? = some (.lst [.str s]) := lk (k := 5)
        unfold mulM
        simp only [q]
        simp [Mach.sizeOk, Mach.alloc, l4]
      have t1 : toD (N ++ (u4 N.length w ++ [.lst [.str s, .str s, .str s], .lst [.str s], .lst [.str s, .str s, .str s]])) dFuel (.ref (N.length + 4)) = some (.list [.str s, .str s, .str s]) := strs3 (lk (k := 4))
      have t2 : toD (N ++ (u4 N.length w ++ [.lst [.str s, .str s, .str s], .lst [.str s], .lst [.str s, .str s, .str s]])) dFuel (.ref (N.length + 6)) = some (.list [.str s, .str s, .str s]) := strs3 (lk (k := 6))
      have heq := eq_ref t1 t2 (lay3 S.ok)
      have q3 : attrM tb.pg "number" (.ref (N.length + 7)) (N ++ (u4 N.length w ++ [.lst [.str s, .str s, .str s], .lst [.str s], .lst [.str s, .str s, .str s], .exc "BadText" [("number", w)]])) = .ok w (N ++ (u4 N.length w ++ [.lst [.str s, .str s, .str s], .lst [.str s], .lst [.str s, .str s, .str s], .exc "BadText" [("number", w)]])) := attr_at (c := "BadText") (lk (k := 7)) (by kernel_rfl)
      have q4 := (S6.app (u4 N.length w ++ [.lst [.str s, .str s, .str s], .lst [.str s], .lst [.str s, .str s, .str s], .exc "BadText" [("number", w)]])).at
      unfold v8
      simp [sE, mif, mop1, mop2, mbind, mAll, mvar, mpure, mval, calmR, Res.bind, mtru, lcS, itAny, z, wipeE, cB, Mach.alloc, l4, sNext, binM, mu, cmpM, heq, ofB, okB, truM, mkExc, q3, blt_repr, q4, eqs, Nat.add_assoc]
    have l8 : (v8 N.length w s).length = 8 := rfl
    have e9 : v9 N.length w s = v8 N.length w s ++ [.exc "Unsure" [("answers", w)]] := rfl
    have q3 : attrM tb.pg "answers" (.ref (N.length + 8)) (N ++ v9 N.length w s) = .ok w (N ++ v9 N.length w s) := attr_at (c := "Unsure") (lk (k := 8)) (by kernel_rfl)
    have q4 := (S6.app (v9 N.length w s)).at
    rw [e9] at q3 q4 ⊢
    generalize v8 N.length w s = U at *
    simp [sSeq, sRet, sE, boolM, mop1, mop2, mbind, mAll, mvar, mpure, mval, calmR, Res.bind, Mach.alloc, l8, cmpM, ofB, okB, truM, mkExc, q3, blt_repr, q4, eqs, Nat.add_assoc]
  refine ⟨p5 M.length w ++ g ++ v9 (M ++ p5 M.length w ++ g).length w s, ?_⟩
  rw [ca_right, h1]
  simp [endR]
end K69
namespace K69
open PySem Mach
theorem right_spec {k p : Nat} {m : Mu} {N : Int} (h : PotAt m p N) (hN : N ≤ 80000) : ∃ m', CA (k + 4) "_law_right" [.ref p] m = .ok (.bl true) m' ∧ Ext m p m' ∧ PotAt m' p (N + 38) := by
  obtain ⟨w, M, n, h1, h2, h3, h4, h5⟩ := any_spec (k := k) h (by omega)
  obtain ⟨s, S⟩ := shw_of h4 h5
  obtain ⟨g, hg⟩ := right_run h1 S
  exact ⟨M ++ g, hg, h2.trans h.lt (Ext.app h3 g), h3.app g⟩
theorem pot_spec {k q : Nat} {m : Mu} {ns : List Int} {t : Int} (hm : m[q]? = some (.ro (ns.map W.int))) (h0 : 0 ≤ t) (h1 : t ≤ 100) : ∃ a b, CA (k + 1) "_law_pot_of" [.ref q, .int t] m = .ok (.ref m.length) (m ++ [.lst [.int a, .int b, .int 0]]) ∧ 0 ≤ b ∧ b < 2305843009213693921 := by
  rw [ca_pot_of]
  obtain ⟨z, hz⟩ : ∃ z, (sE (mif (mtru (mop2 (cmpM .Lt) (mvar 1) (mbind (mAll id [mvar 0]) fun ws => mval (bltM "len" ws)))) (mop2 subM' (mvar 0) (mvar 1)) (mop2 (binM .Add) (mop2 (binM .Mult) (mpure (.int 47)) (mvar 1)) (mpure (.int 19)))) fun w => sSet fun e => some (e.set 2 (some w))) [some (.ref q), some (.int t), none, none] m = .ok (.nx [some (.ref q), some (.int t), some (.int z), none]) m := by
    by_cases hl : t < ns.length
    · have hi := ix_of (n := ns.length) h0 hl
      have hg : ns[t.toNat]? = some (ns[t.toNat]'(by omega)) := by simp
      refine ⟨ns[t.toNat]'(by omega), ?_⟩
      generalize ns[t.toNat]'(by omega) = z at *
      simp [sE, mif, mtru, mop2, mbind, mAll, mvar, mpure, mval, calmR, Res.bind, cmpM, ltM, blt_len, lenM, seqM, hm, okI, hl, ofB, okB, truM, subM', hi, hg, okO, sSet]
    · have n1 : in64 47 = true := rfl
      refine ⟨47 * t + 19, ?_⟩
      simp [sE, mif, mtru, mop2, mbind, mAll, mvar, mpure, mval, calmR, Res.bind, cmpM, ltM, blt_len, lenM, seqM, hm, okI, hl, ofB, okB, truM, binM, mulM, addM, n1, sSet]
  have n2 : in64 70979 = true := rfl
  have n3 : in64 7103 = true := rfl
  have n4 : in64 t = true := by
    unfold in64
    rw [Bool.and_eq_true]
    exact ⟨decide_eq_true (by omega), decide_eq_true (by omega)⟩
  have n5 : ∀ (Q : Prop) [Decidable Q], in64 (if Q then 1 else 0) = true := fun Q _ => by split <;> rfl
  have p1' : powM (.int 10) (.int 60) m = okI m big60 := by kernel_rfl
  have p2' : powM (.int big60) (.int 5) m = okI m (big60 ^ 5) := by kernel_rfl
  have p3' : powM (.int 10) (.int 18) m = okI m 1000000000000000000 := by kernel_rfl
  have hbig : 0 < big60 ^ 5 := by decide
  refine ⟨(if z < 0 then -z else z) % big60 ^ 5 * (if decide (1000000000000000000 ≤ (if z < 0 then -z else z)) = true then 1 else 0), (z % 2305843009213693951 * 70979 + 7103 * t * t + 37) % 2305843009213693921, ?_, Int.emod_nonneg _ (by decide), Int.emod_lt_of_pos _ (by decide)⟩
  unfold sh_pot_of
  show endR (sSeq _ _ [some (.ref q), some (.int t), none, none] m) = _
  rw [seq_nx hz]
  simp [sSeq, sE, sRet, mop2, mbind, mAll, mvar, mpure, mval, calmR, Res.bind, binM, blt_abs, absM, okI, blt_int, intM, p1', p2', p3', modM, hbig, cmpM, leM, ofB, okB, mulM, n2, n3, n4, n5, sSet, addM, Mach.alloc, endR]

theorem comp_right {k p : Nat} {e0 e1 : Option Mach.W} : ∀ (t i f : Nat) (acc : List Mach.W) (m : Mu) (N : Int), i + t = 4 → t < f → acc.length + t ≤ 1000 → PotAt m p N → N + 38 * t ≤ 80000 →
    ∃ m', compM (.seq ((List.range 4).map fun i => W.int (i : Nat))) (tgN 3) (mpure true) (sh_law_1 (CA (k + 4))) [e0, e1, some (.ref p), none] f i acc m = .ok (acc ++ List.replicate t (.bl true)) m' ∧ Ext m p m' ∧ PotAt m' p (N + 38 * t)
  | 0, i, f, acc, m, N, h1, h2, h3, hp, hN => by
    obtain ⟨f', rfl⟩ : ∃ f', f = f' + 1 := ⟨f - 1, by omega⟩
    have hi : i = 4 := by omega
    subst hi
    refine ⟨m, ?_, by simpa using Ext.app hp [], by simpa using hp⟩
    unfold compM
    have e : nextI (.seq ((List.range 4).map fun i => W.int (i : Nat))) 4 m = some none := rfl
    simp only [e]
    simp
  | t + 1, i, f, acc, m, N, h1, h2, h3, hp, hN => by
    obtain ⟨f', rfl⟩ : ∃ f', f = f' + 1 := ⟨f - 1, by omega⟩
    obtain ⟨m1, hr, he, hp1⟩ := right_spec (k := k) hp (by omega)
    have e : nextI (.seq ((List.range 4).map fun i => W.int (i : Nat))) i m = some (some (.int (i : Nat))) := by
      show some (((List.range 4).map fun i => W.int (i : Nat))[i]?) = _
      rw [List.getElem?_map, List.getElem?_range (by omega)]
      rfl
    have hz : Mach.sizeOk (acc.length + 1) = true := decide_eq_true (by omega)
    have e2 : tgN 3 (.int (i : Nat)) [e0, e1, some (.ref p), none] = some [e0, e1, some (.ref p), some (.int (i : Nat))] := rfl
    have e3 : sh_law_1 (CA (k + 4)) [e0, e1, some (.ref p), some (.int (i : Nat))] m = .ok (.bl true) m1 := by
      simp [sh_law_1, mbind, mAll, mvar, mpure, Res.bind, hr]
    obtain ⟨m', q1, q2, q3⟩ := comp_right (k := k) (e0 := e0) (e1 := e1) t (i + 1) f' (acc ++ [.bl true]) m1 (N + 38) (by omega) (by omega) (by simp; omega) hp1 (by omega)
    refine ⟨m', ?_, he.trans hp.lt q2, by rw [show N + 38 * ((t + 1 : Nat) : Int) = N + 38 + 38 * t by omega]; exact q3⟩
    unfold compM
    simp only [e, e2, mpure, e3, hz, if_true]
    rw [q1]
    simp [List.replicate_succ]
theorem law_turn {k t : Nat} {m : Mu} {ns : List Int} {e1 e2 e3 : Option Mach.W} (hm : m[0]? = some (.ro (ns.map W.int))) (ht : t ≤ 100) : ∃ m', sh_law_2 (CA (k + 4)) [some (.ref 0), some (.int (t : Nat)), e2, e3] m = .ok (.nx [some (.ref 0), some (.int (t : Nat)), some (.ref m.length), e3]) m' ∧ m'[0]? = some (.ro (ns.map W.int)) := by
  have hlt := get_lt hm
  obtain ⟨a, b, h1, h2, h3⟩ := pot_spec (k := k + 3) (t := (t : Int)) hm (by omega) (by omega)
  have hp : PotAt (m ++ [.lst [.int a, .int b, .int 0]]) m.length 0 := ⟨a, b, 0, by simp, h2, h3, by omega, by omega⟩
  have hm1 : (m ++ [.lst [.int a, .int b, .int 0]])[0]? = some (.ro (ns.map W.int)) := by rw [List.getElem?_append_left hlt]; exact hm
  obtain ⟨m', q1, q2, q3⟩ := comp_right (k := k) (p := m.length) (e0 := some (.ref 0)) (e1 := some (.int (t : Nat))) 4 0 lids [] (m ++ [.lst [.int a, .int b, .int 0]]) 0 rfl (by unfold lids; omega) (by simp) hp (by omega)
  have hm2 := q2.get hm1 (by omega)
  refine ⟨m' ++ [.lst (List.replicate 4 (.bl true))], ?_, by rw [List.getElem?_append_left (get_lt hm2)]; exact hm2⟩
  have qa : bltM "all" [.ref m'.length] (m' ++ [.lst (List.replicate 4 (.bl true))]) = okB (m' ++ [.lst (List.replicate 4 (.bl true))]) true := all_b (n := 4) lk0
  rw [List.nil_append] at q1
  generalize List.replicate 4 (W.bl true) = l4 at *
  unfold sh_law_2
  refine (seq_nx (e' := [some (.ref 0), some (.int (t : Nat)), some (.ref m.length), e3]) (m' := m ++ [.lst [.int a, .int b, .int 0]]) ?_).trans ?_
  · simp [sE, mbind, mAll, mvar, mpure, Res.bind, h1, sSet]
  simp [sSeq, sE, mbind, mAll, mvar, mpure, mval, calmR, Res.bind, mtru, lcS, itRange, wipeE, Mach.alloc, sNext, q1, qa, okB, truM]
theorem law_loop {k j : Nat} {ns : List Int} : ∀ (t i f : Nat) (e1 e2 e3 : Option Mach.W) (m : Mu), i + t = j → t < f → j ≤ 100 → m[0]? = some (.ro (ns.map W.int)) →
    ∃ b1 b2 b3 m', forS (.seq ((List.range j).map fun i => W.int (i : Nat))) (tgN 1) (sh_law_2 (CA (k + 4))) f i [some (.ref 0), e1, e2, e3] m = .ok (.nx [some (.ref 0), b1, b2, b3]) m'
  | 0, i, f, e1, e2, e3, m, h1, h2, h3, hm => by
    obtain ⟨f', rfl⟩ : ∃ f', f = f' + 1 := ⟨f - 1, by omega⟩
    refine ⟨e1, e2, e3, m, ?_⟩
    have e : nextI (.seq ((List.range j).map fun i => W.int (i : Nat))) i m = some none := by
      show some (((List.range j).map fun i => W.int (i : Nat))[i]?) = _
      rw [List.getElem?_eq_none (by simp; omega)]
    unfold forS
    rw [e]
  | t + 1, i, f, e1, e2, e3, m, h1, h2, h3, hm => by
    obtain ⟨f', rfl⟩ : ∃ f', f = f' + 1 := ⟨f - 1, by omega⟩
    have e : nextI (.seq ((List.range j).map fun i => W.int (i : Nat))) i m = some (some (.int (i : Nat))) := by
      show some (((List.range j).map fun i => W.int (i : Nat))[i]?) = _
      rw [List.getElem?_map, List.getElem?_range (by omega)]
      rfl
    obtain ⟨m1, q1, q2⟩ := law_turn (k := k) (t := i) (e1 := e1) (e2 := e2) (e3 := e3) hm (by omega)
    obtain ⟨b1, b2, b3, m', q3⟩ := law_loop (k := k) (j := j) (ns := ns) t (i + 1) f' (some (.int (i : Nat))) (some (.ref m.length)) e3 m1 (by omega) (by omega) h3 q2
    refine ⟨b1, b2, b3, m', ?_⟩
    unfold forS
    rw [e]
    have e2' : tgN 1 (.int (i : Nat)) [some (.ref 0), e1, e2, e3] = some [some (.ref 0), some (.int (i : Nat)), e2, e3] := rfl
    simp only [e2', q1]
    exact q3
theorem law_true (ns : List Int) : ∃ m', CA 7 "law" [.ref 0] [.ro (ns.map W.int)] = .ok (.bl true) m' := by
  obtain ⟨j, hj, hj4⟩ : ∃ j : Nat, (if (if (ns.length : Int) < 4 then (ns.length : Int) else 4) > 1 then (if (ns.length : Int) < 4 then (ns.length : Int) else 4) else 1) = (j : Int) ∧ j ≤ 4 := by
    refine ⟨max 1 (min 4 ns.length), ?_, by omega⟩
    split <;> split <;> omega
  obtain ⟨b1, b2, b3, m', h⟩ := law_loop (k := 2) (j := j) (ns := ns) j 0 lids none none none [.ro (ns.map W.int)] (by omega) (by unfold lids; omega) (by omega) rfl
  refine ⟨m', ?_⟩
  rw [ca_law]
  have c1 : (j : Int) ≤ 1000000 := by omega
  have hj' : (if 1 < (if (ns.length : Int) < 4 then (ns.length : Int) else 4) then (if (ns.length : Int) < 4 then (ns.length : Int) else 4) else 1) = (j : Int) := hj
  simp [sh_law, startE, dlaw, sSeq, sE, sRet, mbind, mAll, mvar, mpure, mval, calmR, Res.bind, blt_len, lenM, seqM, okI, blt_min, minM, blt_max, maxM, itRange, hj', c1, h, endR]
end K69
namespace K69
open PySem PySem.W PySem.Calls PyProof.Rows Mach
theorem plain (ns : List Int) (h : ns.length ≤ 63) : ∃ m', callAt tb.pg 40 7 "law" [.ref 0] [.ro (ns.map W.int)] = .ok (.bl true) m' := law_true ns
theorem scs : tb.dfs.all scB = true := by kernel_rfl
end K69
open PySem PySem.W PySem.Calls PyProof.Rows
theorem PySem.Challenge.cw_givenout_k69_errors_with_any_value_holds : PySem.Challenge.rw_givenout_k69_errors_with_any_value.Holds := by
  w_on; o_law
  refine HandSHeadRun.head_any (r := K69.R) (q := K69.qv) (H := K69.hk) (ob := K69.ob) (M := 20000) (loose := K69.loose) (d := HandSHeadRun.topDef K69.R.prog 42) (kwd := []) K69.ob_eq
    (by kernel_rfl) (fun s => by kernel_rfl) K69.run (by kernel_rfl) (by kernel_rfl) (by kernel_rfl) (by rfl) (by first | assumption | decide +kernel) (by decide +kernel) ⟨rfl, rfl, rfl, rfl, rfl, by decide +kernel⟩ ?hw ?hc
  case hw => w_witness2
  case hc =>
    exact Mach.walk_M (l := PySem.Challenge.rw_givenout_k69_errors_with_any_value) (n := 63) (k := 4) (d := 6) (f := 40) (t := K69.tb) (i := Mach.Df.fni K69.dlaw) rfl (by decide) (by kernel_rfl) ⟨rfl, by decide, by decide⟩ K69.scs (by kernel_rfl) (by kernel_rfl) (by kernel_rfl) rfl (by kernel_rfl) K69.plain
