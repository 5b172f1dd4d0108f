import PyProof.Rows.All
import Open.Line
import OpenK.Peek
import OpenK.KWalk
import KE.KDictOf
import Lean
import PySem.Challenge.RW_tk0020_01
set_option Elab.async false
section
open PySem PySem.W PyProof.Rows
set_option maxRecDepth 100000
set_option maxHeartbeats 0
namespace Mine
theorem selB {p : Prop} [Decidable p] {f : p → Bool} (h : (if h : p then f h else false) = true) : ∃ hp : p, f hp = true := by
  by_cases hp : p
  · exact ⟨hp, (dif_pos hp).symm.trans h⟩
  · exact absurd ((dif_neg hp).symm.trans h) Bool.false_ne_true
theorem andT {a b : Bool} (h : (a && b) = true) : a = true ∧ b = true := Bool.and_eq_true_iff.mp h
theorem decT {p : Prop} [Decidable p] (h : decide p = true) : p := of_decide_eq_true h
theorem notFT {p : Prop} (h : false = true) : p := absurd h Bool.false_ne_true
noncomputable def on1 {α : Type} (f : α → Bool) (l : List α) : Bool := l.rec false fun a r _ => r.rec (f a) fun _ _ _ => false
theorem on1_s {α : Type} {f : α → Bool} {l : List α} (h : on1 f l = true) : ∃ a, l = [a] ∧ f a = true := by
  rcases l with _ | ⟨a, _ | _⟩
  · exact notFT h
  · exact ⟨a, rfl, h⟩
  · exact notFT h
noncomputable def onC {α : Type} (f : α → List α → Bool) (l : List α) : Bool := l.rec false fun a r _ => f a r
theorem onC_s {α : Type} {f : α → List α → Bool} {l : List α} (h : onC f l = true) : ∃ a r, l = a :: r ∧ f a r = true := by
  rcases l with _ | ⟨a, r⟩
  · exact notFT h
  · exact ⟨a, r, rfl, h⟩
noncomputable def on2 {α : Type} (f : α → α → Bool) (l : List α) : Bool := onC (fun a => on1 (f a)) l
theorem on2_s {α : Type} {f : α → α → Bool} {l : List α} (h : on2 f l = true) : ∃ a b, l = [a, b] ∧ f a b = true := by
  obtain ⟨a, r, rfl, h⟩ := onC_s h
  obtain ⟨b, e, h⟩ := on1_s h
  exact ⟨a, b, congrArg _ e, h⟩
noncomputable def onO {α : Type} (f : α → Bool) (l : Option α) : Bool := l.rec false f
theorem onO_s {α : Type} {f : α → Bool} {l : Option α} (h : onO f l = true) : ∃ a, l = some a ∧ f a = true := by
  rcases l with _ | a
  · exact notFT h
  · exact ⟨a, rfl, h⟩
noncomputable def onRefV (f : Addr → Bool) (x : Value) : Bool := if h : x.ctorIdx = 10 then Value.ref.elim x h f else false
theorem onRefV_s {f : Addr → Bool} {x : Value} (h : onRefV f x = true) : ∃ a, x = Value.ref a ∧ f a = true := by
  obtain ⟨hk, h⟩ := selB h
  exact Value.ref.elim (motive := fun x => ∀ hk : x.ctorIdx = 10, Value.ref.elim (motive := fun _ => Bool) x hk f = true → ∃ a, x = Value.ref a ∧ f a = true) x hk (fun a _ h => ⟨a, rfl, h⟩) hk h
noncomputable def onIntV (f : Int → Tok → Bool) (x : Value) : Bool := if h : x.ctorIdx = 4 then Value.int.elim x h f else false
theorem onIntV_s {f : Int → Tok → Bool} {x : Value} (h : onIntV f x = true) : ∃ a b, x = Value.int a b ∧ f a b = true := by
  obtain ⟨hk, h⟩ := selB h
  exact Value.int.elim (motive := fun x => ∀ hk : x.ctorIdx = 4, Value.int.elim (motive := fun _ => Bool) x hk f = true → ∃ a b, x = Value.int a b ∧ f a b = true) x hk (fun a b _ h => ⟨a, b, rfl, h⟩) hk h
noncomputable def onTypV (f : String → Bool) (x : Value) : Bool := if h : x.ctorIdx = 8 then Value.type.elim x h f else false
theorem onTypV_s {f : String → Bool} {x : Value} (h : onTypV f x = true) : ∃ a, x = Value.type a ∧ f a = true := by
  obtain ⟨hk, h⟩ := selB h
  exact Value.type.elim (motive := fun x => ∀ hk : x.ctorIdx = 8, Value.type.elim (motive := fun _ => Bool) x hk f = true → ∃ a, x = Value.type a ∧ f a = true) x hk (fun a _ h => ⟨a, rfl, h⟩) hk h
noncomputable def onSeqD (f : Array Value → Nat → Bool) (x : Data) : Bool := if h : x.ctorIdx = 2 then Data.seq.elim x h f else false
theorem onSeqD_s {f : Array Value → Nat → Bool} {x : Data} (h : onSeqD f x = true) : ∃ a b, x = Data.seq a b ∧ f a b = true := by
  obtain ⟨hk, h⟩ := selB h
  exact Data.seq.elim (motive := fun x => ∀ hk : x.ctorIdx = 2, Data.seq.elim (motive := fun _ => Bool) x hk f = true → ∃ a b, x = Data.seq a b ∧ f a b = true) x hk (fun a b _ h => ⟨a, b, rfl, h⟩) hk h
noncomputable def onDicD (f : Array DictEntry → Nat → Bool) (x : Data) : Bool := if h : x.ctorIdx = 3 then Data.dict.elim x h f else false
theorem onDicD_s {f : Array DictEntry → Nat → Bool} {x : Data} (h : onDicD f x = true) : ∃ a b, x = Data.dict a b ∧ f a b = true := by
  obtain ⟨hk, h⟩ := selB h
  exact Data.dict.elim (motive := fun x => ∀ hk : x.ctorIdx = 3, Data.dict.elim (motive := fun _ => Bool) x hk f = true → ∃ a b, x = Data.dict a b ∧ f a b = true) x hk (fun a b _ h => ⟨a, b, rfl, h⟩) hk h
theorem onO_m {α : Type} {f : α → Bool} {l : Option α} {a : α} (h : l = some a) (hf : f a = true) : onO f l = true := by rw [h]; exact hf
/-- what the law's text reads of the module's names, beyond its functions: two pairs and two numbers -/
noncomputable def tupO (i j : Int) (o : Obj) : Bool := onTypV (fun s => decide (s = "tuple")) o.cls && onSeqD (fun arr _ => on2 (fun a b => onIntV (fun u _ => decide (u = i)) a && onIntV (fun v _ => decide (v = j)) b) arr.toList) o.data
noncomputable def tupAt (h : Heap) (es : Array DictEntry) (x : Str) (i j : Int) : Bool := onO (onRefV fun a => onO (tupO i j) (h.get? a)) (nsFind es x)
noncomputable def intAt (es : Array DictEntry) (x : Str) (i : Int) : Bool := onO (onIntV fun u _ => decide (u = i)) (nsFind es x)
noncomputable def obsE (h : Heap) (es : Array DictEntry) : Bool := tupAt h es "R0" 0 1 && tupAt h es "R1" 1 1 && intAt es "MOST_FAR" 20000 && intAt es "MOST_WORK" 3000000
noncomputable def obsH (h : Heap) : Bool := onO (fun o : Obj => onDicD (fun es _ => obsE h es) o.data) (h.get? mainGlobals)
theorem tupAt_get {h : Heap} {es : Array DictEntry} {x : Str} {i j : Int} (e : tupAt h es x i j = true) : ∃ a o n u v, nsFind es x = some (.ref a) ∧ h.get? a = some o ∧ o.cls = .type "tuple" ∧ o.data = .seq (List.toArray [.int i u, .int j v]) n := by
  obtain ⟨v, e1, h1⟩ := onO_s e
  obtain ⟨a, rfl, h2⟩ := onRefV_s h1
  obtain ⟨o, e2, h3⟩ := onO_s h2
  obtain ⟨s, e3, h4⟩ := onTypV_s (andT h3).1
  obtain ⟨arr, n, e4, h5⟩ := onSeqD_s (andT h3).2
  obtain ⟨p, q, e5, h6⟩ := on2_s h5
  obtain ⟨u, tu, rfl, h7⟩ := onIntV_s (andT h6).1
  obtain ⟨v, tv, rfl, h8⟩ := onIntV_s (andT h6).2
  obtain rfl := decT h7
  obtain rfl := decT h8
  obtain rfl := decT h4
  exact ⟨a, o, n, tu, tv, e1, e2, e3, by rw [e4, ← e5]⟩
theorem tupAt_keeps {h h' : Heap} {es : Array DictEntry} {x : Str} {i j : Int} (hk : ∀ b o, h.get? b = some o → h'.get? b = some o) (e : tupAt h es x i j = true) : tupAt h' es x i j = true := by
  obtain ⟨v, e1, h1⟩ := onO_s e
  obtain ⟨a, rfl, h2⟩ := onRefV_s h1
  obtain ⟨o, e2, h3⟩ := onO_s h2
  exact onO_m e1 (onO_m (f := tupO i j) (hk _ _ e2) h3)
theorem obsH_get {h : Heap} (e : obsH h = true) : ∃ o es ep, h.get? mainGlobals = some o ∧ o.data = .dict es ep ∧ obsE h es = true := by
  obtain ⟨o, e1, h1⟩ := onO_s e
  obtain ⟨es, ep, e2, h2⟩ := onDicD_s h1
  exact ⟨o, es, ep, e1, e2, h2⟩
theorem obsH_keeps {h h' : Heap} (e : obsH h = true) (hk : ∀ b o, h.get? b = some o → h'.get? b = some o) : obsH h' = true := by
  obtain ⟨o, es, ep, e1, e2, h1⟩ := obsH_get e
  refine onO_m (hk _ _ e1) ?_
  rw [e2]
  show obsE h' es = true
  obtain ⟨h2, h5⟩ := andT h1
  obtain ⟨h3, h4⟩ := andT h2
  obtain ⟨h6, h7⟩ := andT h3
  exact Bool.and_eq_true_iff.mpr ⟨Bool.and_eq_true_iff.mpr ⟨Bool.and_eq_true_iff.mpr ⟨tupAt_keeps hk h6, tupAt_keeps hk h7⟩, h4⟩, h5⟩
noncomputable def hookX : Hook where
  α := Bool
  obs s := obsH s.heap
  val _ := true
  says _ h := obsH h = true
  of _ _ e := e
  keeps _ _ _ e hk := obsH_keeps e hk
end Mine
end
section
open PySem PySem.W PyProof.Rows
namespace Mine

set_option genSizeOf false
/-- values of the small language -/
inductive D where
  | none | bool (b : Bool) | int (i : Int) | str (s : Str) | tup (xs : List D) | ilst (xs : List D) | obj (r : Nat)
  deriving Inhabited

/-- mutable containers -/
inductive Cont where
  | lst (xs : List D)
  | dic (es : List (List Int × D))
  deriving Inhabited

noncomputable abbrev St := List Cont
noncomputable abbrev Rho := List (Option D)

inductive BOp where
  | add | sub | mul | div | mod | pow
  deriving DecidableEq
inductive COp where
  | eq | ne | lt | gt | ge | is | isnt | inn | nin
  deriving DecidableEq
inductive Blt where
  | len | abs | sum | max | any | tuple | dict | int
  deriving DecidableEq
inductive Meth where
  | append | pop | get
  deriving DecidableEq
inductive SK where
  | plain | range | enum
  deriving DecidableEq

set_option genInjectivity false in
inductive E where
  | nil | cons (e es : E) | bad
  | var (i : Nat)
  | cst (d : D)
  | glob (g : Nat)
  | bin (op : BOp) (a b : E)
  | neg (a : E)
  | cmp (op : COp) (a b : E)
  | cmp2 (op1 op2 : COp) (a b c : E)
  | bop (isAnd : Bool) (es : E)
  | ite (t a b : E)
  | call (f : Nat) (args : E)
  | blt (b : Blt) (args : E)
  | meth (m : Meth) (o args : E)
  | idx (a b : E)
  | rev (a : E)
  | head (a : E) (k : Nat)
  | tup (es : E)
  | listM (es : E)
  | listI (es : E)
  | dict (kvs : E)
  | lcomp (imps : List (Option Nat)) (tgt : List Nat) (k : SK) (src : E) (cond : E) (elt : E)
  | lcomp2 (imps : List (Option Nat)) (tgt : List Nat) (k : SK) (src : E) (tgt2 : List Nat) (k2 : SK) (src2 : E) (elt : E)
  | dcomp (imps : List (Option Nat)) (tgt : List Nat) (k : SK) (src : E) (cond : E) (key val : E)

set_option genInjectivity false in
inductive S where
  | nil | cons (s ss : S) | bad
  | assign (i : Nat) (e : E)
  | assignT (is : List Nat) (e : E)
  | setItem (o k v : E)
  | aug (i : Nat) (op : BOp) (e : E)
  | ife (t : E) (a b : S)
  | whl (t : E) (body : S)
  | fore (tgt : List Nat) (k : SK) (src : E) (body : S)
  | ret (e : E)
  | cont
  | expr (e : E)
  | raise

structure Fn where
  npar : Nat
  names : List (Str × NameKind)
  body : S


noncomputable def dNone {α : Type} (f : Option α) (d : D) : Option α := D.casesOn d f (fun _ => none) (fun _ => none) (fun _ => none) (fun _ => none) (fun _ => none) (fun _ => none)
noncomputable def dBool {α : Type} (f : Bool → Option α) (d : D) : Option α := D.casesOn d none f (fun _ => none) (fun _ => none) (fun _ => none) (fun _ => none) (fun _ => none)
noncomputable def dInt {α : Type} (f : Int → Option α) (d : D) : Option α := D.casesOn d none (fun _ => none) f (fun _ => none) (fun _ => none) (fun _ => none) (fun _ => none)
noncomputable def dStr {α : Type} (f : Str → Option α) (d : D) : Option α := D.casesOn d none (fun _ => none) (fun _ => none) f (fun _ => none) (fun _ => none) (fun _ => none)
noncomputable def dTup {α : Type} (f : List D → Option α) (d : D) : Option α := D.casesOn d none (fun _ => none) (fun _ => none) (fun _ => none) f (fun _ => none) (fun _ => none)
noncomputable def dIls {α : Type} (f : List D → Option α) (d : D) : Option α := D.casesOn d none (fun _ => none) (fun _ => none) (fun _ => none) (fun _ => none) f (fun _ => none)
noncomputable def dObj {α : Type} (f : Nat → Option α) (d : D) : Option α := D.casesOn d none (fun _ => none) (fun _ => none) (fun _ => none) (fun _ => none) (fun _ => none) f
noncomputable def dSeq {α : Type} (g f : List D → Option α) (d : D) : Option α := D.casesOn d none (fun _ => none) (fun _ => none) (fun _ => none) g f (fun _ => none)
noncomputable def cLst {α : Type} (f : List D → Option α) (c : Cont) : Option α := Cont.casesOn c f (fun _ => none)
noncomputable def cDic {α : Type} (f : List (List Int × D) → Option α) (c : Cont) : Option α := Cont.casesOn c (fun _ => none) f
noncomputable def cTwo {α : Type} (f : List D → Option α) (g : List (List Int × D) → Option α) (c : Cont) : Option α := Cont.casesOn c f g
noncomputable def lOne {α β : Type} (f : α → Option β) (l : List α) : Option β := List.casesOn l none fun a r => List.casesOn r (f a) fun _ _ => none
noncomputable def lCon {α β : Type} (f : α → List α → Option β) (l : List α) : Option β := List.casesOn l none f
noncomputable def D.ints : List D → Option (List Int)
  | [] => some []
  | .int i :: r => (D.ints r).map (i :: ·)
  | _ :: _ => .none
noncomputable def keyOf : D → Option (List Int)
  | .tup xs => D.ints xs
  | _ => .none
noncomputable def keysOf : List D → Option (List (List Int))
  | [] => some []
  | x :: r => (keyOf x).bind fun k => (keysOf r).map (k :: ·)
noncomputable def pw (k : List Int) : D := .tup (k.map .int)
noncomputable def D.bools : List D → Option (List Bool)
  | [] => some []
  | .bool i :: r => (D.bools r).map (i :: ·)
  | _ :: _ => .none

noncomputable def dget (es : List (List Int × D)) (k : List Int) : Option D := (es.find? fun x => decide (x.1 = k)).map (·.2)
noncomputable def dput (es : List (List Int × D)) (k : List Int) (v : D) : List (List Int × D) :=
  if (dget es k).isSome then es.map (fun e => if e.1 = k then (e.1, v) else e) else es ++ [(k, v)]
noncomputable def ddel (es : List (List Int × D)) (k : List Int) : List (List Int × D) := es.filter fun e => !decide (e.1 = k)

noncomputable def lim : Nat := 100000

noncomputable def intBin : BOp → Int → Int → Option Int
  | .add, a, b => some (a + b)
  | .sub, a, b => some (a - b)
  | .mul, a, b => if a.natAbs < 2 ^ 64 ∧ b.natAbs < 2 ^ 64 then some (a * b) else .none
  | .div, a, b => if b ≠ 0 ∧ b.natAbs < 2 ^ 64 then some (Int.fdiv a b) else .none
  | .mod, a, b => if b = 0 then .none else some (Int.fmod a b)
  | .pow, a, b => if 0 ≤ b ∧ b ≤ 64 ∧ a.natAbs ≤ 4 then some (a ^ b.toNat) else .none

noncomputable def reps {α : Type} (xs : List α) : Nat → List α
  | 0 => []
  | n + 1 => xs ++ reps xs n

noncomputable def binD (op : BOp) (x y : D) : Option D := D.casesOn x none (fun _ => none) (fun a => dInt (fun b => (intBin op a b).map .int) y) (fun _ => none)
  (fun a => D.casesOn y none (fun _ => none) (fun n => BOp.casesOn op none none (if 0 ≤ n ∧ n < 1000 ∧ a.length = 1 then some (.tup (reps a n.toNat)) else none) none none none) (fun _ => none)
    (fun b => BOp.casesOn op (if a.length + b.length < lim then some (.tup (a ++ b)) else none) none none none none none) (fun _ => none) (fun _ => none))
  (fun a => dIls (fun b => BOp.casesOn op (if a.length + b.length < lim then some (.ilst (a ++ b)) else none) none none none none none) y) (fun _ => none)

noncomputable def lexGt : List Int → List Int → Bool
  | a :: r, b :: t => if a = b then lexGt r t else decide (b < a)
  | _ :: _, [] => true
  | [], _ => false

noncomputable def eqD (x y : D) : Option Bool := D.casesOn x none (fun _ => none) (fun a => dInt (fun b => some (decide (a = b))) y) (fun a => dStr (fun b => some (decide (a = b))) y)
  (fun a => dTup (fun b => (D.ints a).bind fun x => (D.ints b).map fun y => decide (x = y)) y)
  (fun a => dIls (fun b => if a.length = b.length then (keysOf a).bind fun x => (keysOf b).map fun y => decide (x = y) else some false) y) (fun _ => none)
noncomputable def isNoneD : D → Option Bool
  | .none => some true
  | .tup _ => some false
  | _ => .none
noncomputable def inD (st : St) (a : D) (r : Nat) : Option Bool := (st[r]?).bind (cDic fun es => (keyOf a).map fun k => (dget es k).isSome)
noncomputable def ninD (a : D) (xs : List D) : Option Bool := (keyOf a).bind fun k => (keysOf xs).map fun ks => !ks.any fun x => decide (x = k)

noncomputable def cmpD (st : St) (op : COp) (x y : D) : Option Bool := COp.casesOn op (eqD x y)
  (D.casesOn x none (fun _ => none) (fun a => dInt (fun b => some (!decide (a = b))) y) (fun _ => none) (fun _ => none) (fun a => dIls (fun b => (eqD (.ilst a) (.ilst b)).map (!·)) y) (fun _ => none))
  (dInt (fun a => dInt (fun b => some (decide (a < b))) y) x)
  (D.casesOn x none (fun _ => none) (fun a => dInt (fun b => some (decide (a > b))) y) (fun _ => none) (fun a => dTup (fun b => (D.ints a).bind fun x => (D.ints b).map fun y => lexGt x y) y) (fun _ => none) (fun _ => none))
  (dInt (fun a => dInt (fun b => some (decide (a ≥ b))) y) x)
  (dNone (isNoneD x) y) (dNone ((isNoneD x).map (!·)) y) (dObj (inD st x) y) (dIls (ninD x) y)

noncomputable def enumFrom (n : Nat) : List D → List D
  | [] => []
  | x :: r => .tup [.int n, x] :: enumFrom (n + 1) r

noncomputable def itsD (es : List (List Int × D)) : Option (List D) := some (es.map fun e => pw e.1)
noncomputable def items (k : SK) (d : D) (st : St) : Option (List D) := SK.casesOn k
  (D.casesOn d none (fun _ => none) (fun _ => none) (fun _ => none) some some (fun r => (st[r]?).bind (cTwo some itsD)))
  (dInt (fun n => if 0 ≤ n ∧ n ≤ 10000 then some ((List.range n.toNat).map fun i => .int (i : Nat)) else none) d)
  (dSeq (fun xs => some (enumFrom 0 xs)) (fun xs => some (enumFrom 0 xs)) d)

noncomputable def fzOf (d : D) (fz : List Nat) : List Nat := match d with
  | .obj r => r :: fz
  | _ => fz

noncomputable def setAll : List Nat → List D → Rho → Rho
  | i :: is, x :: xs, ρ => setAll is xs (ρ.set i (some x))
  | _, _, ρ => ρ

noncomputable def bindT : List Nat → D → Rho → Option Rho
  | [i], x, ρ => some (ρ.set i (some x))
  | is, .tup xs, ρ => if is.length = xs.length then some (setAll is xs ρ) else .none
  | _, _, _ => .none

noncomputable def impRho (imps : List (Option Nat)) (ρ : Rho) : Rho := imps.map fun o => o.bind fun i => (ρ[i]?).join

noncomputable def subL (y : D) (xs : List D) : Option D := dInt (fun i => if 0 ≤ i ∧ i < 1024 then xs[i.toNat]? else none) y
noncomputable def subC (y : D) (es : List (List Int × D)) : Option D := (keyOf y).bind (dget es)
noncomputable def subD (st : St) (x y : D) : Option D := D.casesOn x none (fun _ => none) (fun _ => none) (fun _ => none) (subL y) (subL y) (fun r => (st[r]?).bind (cTwo (subL y) (subC y)))

noncomputable def setL' (st : St) (r : Nat) (k v : D) (xs : List D) : Option St := dInt (fun i => if 0 ≤ i ∧ i < 1024 ∧ i.toNat < xs.length then some (st.set r (.lst (xs.set i.toNat v))) else none) k
noncomputable def setC (st : St) (r : Nat) (k v : D) (es : List (List Int × D)) : Option St := (keyOf k).bind fun k => if es.length < lim then some (st.set r (.dic (dput es k v))) else none
noncomputable def setR (fz : List Nat) (st : St) (k v : D) (r : Nat) : Option St := if r ∈ fz then none else (st[r]?).bind (cTwo (setL' st r k v) (setC st r k v))
noncomputable def setItemD (fz : List Nat) (st : St) (x k v : D) : Option St := dObj (setR fz st k v) x

noncomputable def newObj' (c : Cont) (st : St) : D × St := (.obj st.length, st ++ [c])

noncomputable def pairsD : List D → List (List Int × D) → Option (List (List Int × D))
  | [], es => some es
  | k :: v :: r, es => (keyOf k).bind fun k => pairsD r (dput es k v)
  | [_], _ => .none

noncomputable def hsh (k : List Int) : Int := reduceHash (PySem.Builtin.Tuple.tupleHashOf (k.map hashInt))

noncomputable def maxInts : List Int → Option Int
  | [] => .none
  | x :: r => some (r.foldl (fun m y => if m < y then y else m) x)

noncomputable def seqD (d : D) : Option (List D) := dSeq some some d

noncomputable def bLenS {α : Type} (st : St) (xs : List α) : Option (D × St) := if xs.length < lim then some (.int xs.length, st) else none
noncomputable def bLen (st : St) (d : D) : Option (D × St) := D.casesOn d none (fun _ => none) (fun _ => none) (fun _ => none) (bLenS st) (bLenS st) (fun r => (st[r]?).bind (cTwo (bLenS st) (bLenS st)))
noncomputable def bAbsD (st : St) (d : D) : Option (D × St) := dInt (fun a => some (.int (if a < 0 then -a else a), st)) d
noncomputable def bSumN (st : St) (ns : List Int) : Option (D × St) := if ns.length < lim then some (.int ns.sum, st) else none
noncomputable def bSumD (st : St) (d : D) : Option (D × St) := (seqD d).bind fun xs => (D.ints xs).bind (bSumN st)
noncomputable def bMax1 (st : St) (d : D) : Option (D × St) := (seqD d).bind fun xs => (D.ints xs).bind fun ns => (maxInts ns).map fun m => (.int m, st)
noncomputable def bMax2 (st : St) (d e : D) : Option (D × St) := dInt (fun a => dInt (fun b => some (.int (if b > a then b else a), st)) e) d
noncomputable def bAnyD (st : St) (d : D) : Option (D × St) := dIls (fun xs => (D.bools xs).map fun bs => (.bool (bs.any id), st)) d
noncomputable def bTupD (st : St) (d : D) : Option (D × St) := dIls (fun xs => if xs.length < lim then some (.tup xs, st) else none) d
noncomputable def bDicC (st : St) (es : List (List Int × D)) : Option (D × St) := if es.length < lim ∧ (es.map fun e => hsh e.1).Nodup then some (newObj' (.dic es) st) else none
noncomputable def bDicD (st : St) (d : D) : Option (D × St) := dObj (fun r => (st[r]?).bind (cDic (bDicC st))) d
noncomputable def bIntD (st : St) (d : D) : Option (D × St) := dInt (fun a => some (.int a, st)) d
noncomputable def bMaxD (st : St) (ds : List D) : Option (D × St) := lCon (fun d r => List.casesOn r (bMax1 st d) fun e r2 => List.casesOn r2 (bMax2 st d e) fun _ _ => none) ds
noncomputable def bltD (b : Blt) (ds : List D) (st : St) : Option (D × St) := Blt.casesOn b (lOne (bLen st) ds) (lOne (bAbsD st) ds) (lOne (bSumD st) ds) (bMaxD st ds) (lOne (bAnyD st) ds) (lOne (bTupD st) ds) (lOne (bDicD st) ds) (lOne (bIntD st) ds)

noncomputable def popO (r : Nat) (st : St) (es : List (List Int × D)) (k : List Int) (more : List D) (o : Option D) : Option (D × St) := Option.casesOn o (lOne (fun x => some (x, st)) more)
  fun v => List.casesOn more (some (v, st.set r (.dic (ddel es k)))) fun _ t => List.casesOn t (some (v, st.set r (.dic (ddel es k)))) fun _ _ => none
noncomputable def popD (r : Nat) (st : St) (es : List (List Int × D)) (k : List Int) (more : List D) : Option (D × St) := popO r st es k more (dget es k)
noncomputable def appC (st : St) (r : Nat) (x : D) (xs : List D) : Option (D × St) := if xs.length < lim then some (.none, st.set r (.lst (xs ++ [x]))) else none
noncomputable def appR (fz : List Nat) (st : St) (r : Nat) (x : D) : Option (D × St) := if r ∈ fz then none else (st[r]?).bind (cLst (appC st r x))
noncomputable def popC (st : St) (r : Nat) (k : D) (more : List D) (es : List (List Int × D)) : Option (D × St) := if lim ≤ es.length then none else (keyOf k).bind fun k => popD r st es k more
noncomputable def popR (fz : List Nat) (st : St) (r : Nat) (k : D) (more : List D) : Option (D × St) := if r ∈ fz then none else (st[r]?).bind (cDic (popC st r k more))
noncomputable def getC (st : St) (k x : D) (es : List (List Int × D)) : Option (D × St) := (keyOf k).map fun k => ((dget es k).getD x, st)
noncomputable def getR (st : St) (r : Nat) (k x : D) : Option (D × St) := (st[r]?).bind (cDic (getC st k x))
noncomputable def appM (fz : List Nat) (st : St) (ds : List D) (r : Nat) : Option (D × St) := lOne (appR fz st r) ds
noncomputable def popM (fz : List Nat) (st : St) (ds : List D) (r : Nat) : Option (D × St) := lCon (popR fz st r) ds
noncomputable def getM (st : St) (ds : List D) (r : Nat) : Option (D × St) := lCon (fun k => lOne (getR st r k)) ds
noncomputable def methD (fz : List Nat) (m : Meth) (o : D) (ds : List D) (st : St) : Option (D × St) := Meth.casesOn m (dObj (appM fz st ds) o) (dObj (popM fz st ds) o) (dObj (getM st ds) o)

noncomputable def fitsM (m : Meth) (o : D) (st : St) : Bool := (dObj (fun r => (st[r]?).bind (Meth.casesOn m (cLst fun _ => some ()) (cDic fun _ => some ()) (cDic fun _ => some ()))) o).isSome

noncomputable def globD : Nat → Option D
  | 0 => some (.tup [.int 0, .int 1])
  | 1 => some (.tup [.int 1, .int 1])
  | 2 => some (.int 20000)
  | 3 => some (.int 3000000)
  | _ => .none

noncomputable def loopF {σ : Type} (body : D → σ → St → Option (σ × St)) : List D → σ → St → Option (σ × St)
  | [], a, st => some (a, st)
  | x :: r, a, st => (body x a st).bind fun p => loopF body r p.1 p.2

noncomputable def emI (fe : Rho → St → Option (D × St)) (ρ : Rho) (acc : List D) (st : St) : Option (List D × St) := (fe ρ st).bind fun y => if acc.length < lim then some (acc ++ [y.1], y.2) else none
noncomputable def edI (fk fv : Rho → St → Option (D × St)) (ρ : Rho) (acc : List (List Int × D)) (st : St) : Option (List (List Int × D) × St) :=
  (fk ρ st).bind fun kk => (fv ρ kk.2).bind fun y => (keyOf kk.1).bind fun ki => if acc.length < lim then some (dput acc ki y.1, y.2) else none
noncomputable def cdI {σ : Type} (fc : Rho → St → Option (D × St)) (g : Rho → σ → St → Option (σ × St)) (ρ : Rho) (acc : σ) (st : St) : Option (σ × St) := (fc ρ st).bind fun t => dBool (fun b => bif b then g ρ acc t.2 else some (acc, t.2)) t.1
inductive Fl where
  | next | cont | ret (d : D)

noncomputable def forL (body : D → Rho → St → Option (Fl × Rho × St)) : List D → Rho → St → Option (Fl × Rho × St)
  | [], ρ, st => some (.next, ρ, st)
  | x :: r, ρ, st => (body x ρ st).bind fun p => Fl.casesOn p.1 (forL body r p.2.1 p.2.2) (forL body r p.2.1 p.2.2) (fun d => some (.ret d, p.2.1, p.2.2))

noncomputable def whileL (test : Rho → St → Option (D × St)) (body : Rho → St → Option (Fl × Rho × St)) : Nat → Rho → St → Option (Fl × Rho × St)
  | 0, _, _ => .none
  | n + 1, ρ, st => (test ρ st).bind fun t => dBool (fun b => _root_.cond b ((body ρ t.2).bind fun p => Fl.casesOn p.1 (whileL test body n p.2.1 p.2.2) (whileL test body n p.2.1 p.2.2) (fun d => some (.ret d, p.2.1, p.2.2))) (some (.next, ρ, t.2))) t.1

noncomputable def WF : Nat := 10000

section
variable (cf : List Nat → Nat → List D → St → Option (D × St))

mutual
noncomputable def evE : E → List Nat → Rho → St → Option (D × St)
  | .nil, _, _, st => some (.bool true, st)
  | .cons _ _, _, _, _ => .none
  | .bad, _, _, _ => .none
  | .var i, _, ρ, st => (ρ[i]?).join.map fun d => (d, st)
  | .cst d, _, _, st => some (d, st)
  | .glob g, _, _, st => (globD g).map fun d => (d, st)
  | .bin op a b, fz, ρ, st => (evE a fz ρ st).bind fun x => (evE b fz ρ x.2).bind fun y => (binD op x.1 y.1).map fun d => (d, y.2)
  | .neg a, fz, ρ, st => (evE a fz ρ st).bind fun x => dInt (fun i => some (.int (-i), x.2)) x.1
  | .cmp op a b, fz, ρ, st => (evE a fz ρ st).bind fun x => (evE b fz ρ x.2).bind fun y => (cmpD y.2 op x.1 y.1).map fun t => (.bool t, y.2)
  | .cmp2 o1 o2 a b c, fz, ρ, st => (evE a fz ρ st).bind fun x => (evE b fz ρ x.2).bind fun y => (cmpD y.2 o1 x.1 y.1).bind fun t => cond t ((evE c fz ρ y.2).bind fun z => (cmpD z.2 o2 y.1 z.1).map fun u => (.bool u, z.2)) (some (.bool false, y.2))
  | .bop isAnd es, fz, ρ, st => evB isAnd es fz ρ st
  | .ite t a b, fz, ρ, st => (evE t fz ρ st).bind fun x => dBool (fun t => cond t (evE a fz ρ x.2) (evE b fz ρ x.2)) x.1
  | .call f args, fz, ρ, st => (evL args fz ρ st).bind fun vs => cf fz f vs.1 vs.2
  | .blt b args, fz, ρ, st => (evL args fz ρ st).bind fun vs => bltD b vs.1 vs.2
  | .meth m o args, fz, ρ, st => (evE o fz ρ st).bind fun x => if fitsM m x.1 x.2 then (evL args fz ρ x.2).bind fun vs => methD fz m x.1 vs.1 vs.2 else .none
  | .idx a b, fz, ρ, st => (evE a fz ρ st).bind fun x => (evE b fz ρ x.2).bind fun y => (subD y.2 x.1 y.1).map fun d => (d, y.2)
  | .rev a, fz, ρ, st => (evE a fz ρ st).bind fun x => dTup (fun xs => if xs.length < lim then some (.tup xs.reverse, x.2) else none) x.1
  | .head a k, fz, ρ, st => (evE a fz ρ st).bind fun x => dIls (fun xs => if xs.length < lim then some (.ilst (xs.take k), x.2) else none) x.1
  | .tup es, fz, ρ, st => (evL es fz ρ st).bind fun vs => if vs.1.length < lim then some (.tup vs.1, vs.2) else .none
  | .listM es, fz, ρ, st => (evL es fz ρ st).bind fun vs => if vs.1.length < lim then some (newObj' (.lst vs.1) vs.2) else .none
  | .listI es, fz, ρ, st => (evL es fz ρ st).bind fun vs => if vs.1.length < lim then some (.ilst vs.1, vs.2) else .none
  | .dict kvs, fz, ρ, st => (evL kvs fz ρ st).bind fun vs => if vs.1.length < 30 then (pairsD vs.1 []).map fun es => newObj' (.dic es) vs.2 else .none
  | .lcomp imps tgt k src cond elt, fz, ρ, st => (evE src fz ρ st).bind fun d => (items k d.1 d.2).bind fun its =>
      (loopF (fun x acc st => (bindT tgt x (impRho imps ρ)).bind fun ρ' => cdI (evE cond (fzOf d.1 fz)) (emI (evE elt (fzOf d.1 fz))) ρ' acc st) its [] d.2).map fun p => (.ilst p.1, p.2)
  | .lcomp2 imps tgt k src tgt2 k2 src2 elt, fz, ρ, st => (evE src fz ρ st).bind fun d => (items k d.1 d.2).bind fun its =>
      (loopF (fun x acc st => (bindT tgt x (impRho imps ρ)).bind fun ρ' => (evE src2 (fzOf d.1 fz) ρ' st).bind fun d2 => (items k2 d2.1 d2.2).bind fun its2 =>
        loopF (fun x2 acc st => (bindT tgt2 x2 ρ').bind fun ρ2 => emI (evE elt (fzOf d2.1 (fzOf d.1 fz))) ρ2 acc st) its2 acc d2.2) its [] d.2).map fun p => (.ilst p.1, p.2)
  | .dcomp imps tgt k src cond key val, fz, ρ, st => (evE src fz ρ st).bind fun d => (items k d.1 d.2).bind fun its =>
      (loopF (fun x acc st => (bindT tgt x (impRho imps ρ)).bind fun ρ' => cdI (evE cond (fzOf d.1 fz)) (edI (evE key (fzOf d.1 fz)) (evE val (fzOf d.1 fz))) ρ' acc st) its [] d.2).map fun p => newObj' (.dic p.1) p.2

noncomputable def evL : E → List Nat → Rho → St → Option (List D × St)
  | .nil, _, _, st => some ([], st)
  | .cons e es, fz, ρ, st => (evE e fz ρ st).bind fun x => (evL es fz ρ x.2).map fun r => (x.1 :: r.1, r.2)
  | _, _, _, _ => .none

noncomputable def evB (isAnd : Bool) : E → List Nat → Rho → St → Option (D × St)
  | .cons e es, fz, ρ, st => (evE e fz ρ st).bind fun x => dBool (fun b => if es.ctorIdx = 0 ∨ b ≠ isAnd then some (.bool b, x.2) else evB isAnd es fz ρ x.2) x.1
  | _, _, _, _ => .none
end

noncomputable def exS : S → List Nat → Rho → St → Option (Fl × Rho × St)
  | .nil, _, ρ, st => some (.next, ρ, st)
  | .cons s ss, fz, ρ, st => (exS s fz ρ st).bind fun p => Fl.casesOn p.1 (exS ss fz p.2.1 p.2.2) (some (.cont, p.2.1, p.2.2)) (fun d => some (.ret d, p.2.1, p.2.2))
  | .assign i e, fz, ρ, st => (evE cf e fz ρ st).map fun x => (.next, ρ.set i (some x.1), x.2)
  | .assignT is e, fz, ρ, st => (evE cf e fz ρ st).bind fun x => (bindT is x.1 ρ).map fun ρ' => (.next, ρ', x.2)
  | .setItem o k v, fz, ρ, st => (evE cf v fz ρ st).bind fun x => (evE cf o fz ρ x.2).bind fun y => (evE cf k fz ρ y.2).bind fun z =>
      (setItemD fz z.2 y.1 z.1 x.1).map fun st' => (.next, ρ, st')
  | .aug i op e, fz, ρ, st => ((ρ[i]?).join).bind fun old => (evE cf e fz ρ st).bind fun x => dInt (fun a => dInt (fun b => (intBin op a b).map fun c => (.next, ρ.set i (some (.int c)), x.2)) x.1) old
  | .ife t a b, fz, ρ, st => (evE cf t fz ρ st).bind fun x => dBool (fun t => cond t (exS a fz ρ x.2) (exS b fz ρ x.2)) x.1
  | .whl t body, fz, ρ, st => whileL (fun ρ st => evE cf t fz ρ st) (fun ρ st => exS body fz ρ st) WF ρ st
  | .fore tgt k src body, fz, ρ, st => (evE cf src fz ρ st).bind fun d => (items k d.1 d.2).bind fun its =>
      forL (fun x ρ st => (bindT tgt x ρ).bind fun ρ' => exS body (fzOf d.1 fz) ρ' st) its ρ d.2
  | .ret e, fz, ρ, st => (evE cf e fz ρ st).map fun x => (.ret x.1, ρ, x.2)
  | .cont, _, ρ, st => some (.cont, ρ, st)
  | .expr e, fz, ρ, st => (evE cf e fz ρ st).map fun x => (.next, ρ, x.2)
  | .raise, _, _, _ => .none
  | .bad, _, _, _ => .none

noncomputable def runFn (fn : Fn) (fz : List Nat) (args : List D) (st : St) : Option (D × St) :=
  if args.length = fn.npar then
    (exS cf fn.body fz (args.map some ++ List.replicate (fn.names.length - fn.npar) .none) st).bind fun p => Fl.casesOn p.1 (some (.none, p.2.2)) none (fun d => some (d, p.2.2))
  else .none
end

noncomputable def callAll (tab : List Fn) : Nat → List Nat → Nat → List D → St → Option (D × St)
  | 0 => fun _ _ _ _ => .none
  | n + 1 => fun fz f args st => if f = n then (tab[n]?).bind (fun fn => runFn (callAll tab n) fn fz args st) else callAll tab n fz f args st

theorem bSum (xs : List D) (st : St) : bltD .sum [.tup xs] st = (D.ints xs).bind fun ns => if ns.length < lim then some (.int ns.sum, st) else .none := rfl
theorem bMax (xs : List D) (st : St) : bltD .max [.tup xs] st = (D.ints xs).bind fun ns => (maxInts ns).map fun m => (.int m, st) := rfl
theorem bMaxI (xs : List D) (st : St) : bltD .max [.ilst xs] st = (D.ints xs).bind fun ns => (maxInts ns).map fun m => (.int m, st) := rfl
theorem bSumI (xs : List D) (st : St) : bltD .sum [.ilst xs] st = (D.ints xs).bind fun ns => if ns.length < lim then some (.int ns.sum, st) else .none := rfl
theorem bLenI (xs : List D) (st : St) : bltD .len [.ilst xs] st = if xs.length < lim then some (.int xs.length, st) else .none := rfl
theorem bLenO (r : Nat) (st : St) : bltD .len [.obj r] st = (st[r]?).bind (cTwo (bLenS st) (bLenS st)) := rfl
theorem bAny (xs : List D) (st : St) : bltD .any [.ilst xs] st = (D.bools xs).map fun bs => (.bool (bs.any id), st) := rfl
theorem cEqT (a b : List D) (st : St) : cmpD st .eq (.tup a) (.tup b) = (D.ints a).bind fun x => (D.ints b).map fun y => decide (x = y) := rfl
theorem bDict (r : Nat) (st : St) : bltD .dict [.obj r] st = (st[r]?).bind (cDic (bDicC st)) := rfl
theorem mGet (fz : List Nat) (r : Nat) (k x : D) (st : St) : methD fz .get (.obj r) [k, x] st = (st[r]?).bind (cDic fun es => (keyOf k).map fun k => ((dget es k).getD x, st)) := rfl
theorem mApp (fz : List Nat) (r : Nat) (x : D) (st : St) : methD fz .append (.obj r) [x] st = if r ∈ fz then .none else (st[r]?).bind (cLst fun xs => if xs.length < lim then some (.none, st.set r (.lst (xs ++ [x]))) else none) := rfl
theorem mPop (fz : List Nat) (r : Nat) (k : D) (more : List D) (st : St) : methD fz .pop (.obj r) (k :: more) st = if r ∈ fz then .none else (st[r]?).bind (cDic fun es => if lim ≤ es.length then none else (keyOf k).bind fun k => popD r st es k more) := rfl
theorem bLenT (xs : List D) (st : St) : bltD .len [.tup xs] st = if xs.length < lim then some (.int xs.length, st) else .none := rfl
theorem none_ne {α : Type} {x : α} {P : Prop} (h : (none : Option α) = some x) : P := nomatch h
theorem bS {α β : Type} {o : Option α} {x : α} {f : α → Option β} (h : o = some x) : o.bind f = f x := congrArg (Option.bind · f) h
theorem mS {α β : Type} {o : Option α} {x : α} {f : α → β} (h : o = some x) : o.map f = some (f x) := congrArg (Option.map f) h
theorem someP {α β : Type} {a z : α} {b w : β} (h : some (a, b) = some (z, w)) : a = z ∧ b = w := Prod.mk.inj (Option.some.inj h)
theorem Prod3 {α β γ : Type} {a x : α} {b y : β} {c z : γ} (h : (a, b, c) = (x, y, z)) : a = x ∧ b = y ∧ c = z :=
  let q := Prod.mk.inj h
  ⟨q.1, Prod.mk.inj q.2⟩
theorem some3 {α β γ : Type} {a x : α} {b y : β} {c z : γ} (h : some (a, b, c) = some (x, y, z)) : a = x ∧ b = y ∧ c = z :=
  let q := Prod.mk.inj (Option.some.inj h)
  ⟨q.1, Prod.mk.inj q.2⟩
theorem iteS {α : Type} {c : Prop} [Decidable c] {x y : α} (h : (if c then some x else none) = some y) : c ∧ x = y := by
  by_cases hc : c
  · exact ⟨hc, Option.some.inj ((if_pos hc).symm.trans h)⟩
  · exact none_ne ((if_neg hc).symm.trans h)
theorem iteP {α β : Type} {c : Prop} [Decidable c] {a z : α} {b w : β} (h : (if c then some (a, b) else none) = some (z, w)) : c ∧ a = z ∧ b = w :=
  let q := iteS h
  ⟨q.1, Prod.mk.inj q.2⟩
section
variable {α β : Type} {z : α} {d : D}
theorem dNone_s {f : Option α} (h : dNone f d = some z) : d = .none ∧ f = some z := by
  rcases d with _ | _ | _ | _ | _ | _ | _
  case none => exact ⟨rfl, h⟩
  all_goals exact none_ne h
theorem dBool_s {f : Bool → Option α} (h : dBool f d = some z) : ∃ x, d = .bool x ∧ f x = some z := by
  rcases d with _ | x | _ | _ | _ | _ | _
  case bool => exact ⟨x, rfl, h⟩
  all_goals exact none_ne h
theorem dInt_s {f : Int → Option α} (h : dInt f d = some z) : ∃ x, d = .int x ∧ f x = some z := by
  rcases d with _ | _ | x | _ | _ | _ | _
  case int => exact ⟨x, rfl, h⟩
  all_goals exact none_ne h
theorem dStr_s {f : Str → Option α} (h : dStr f d = some z) : ∃ x, d = .str x ∧ f x = some z := by
  rcases d with _ | _ | _ | x | _ | _ | _
  case str => exact ⟨x, rfl, h⟩
  all_goals exact none_ne h
theorem dTup_s {f : List D → Option α} (h : dTup f d = some z) : ∃ x, d = .tup x ∧ f x = some z := by
  rcases d with _ | _ | _ | _ | x | _ | _
  case tup => exact ⟨x, rfl, h⟩
  all_goals exact none_ne h
theorem dIls_s {f : List D → Option α} (h : dIls f d = some z) : ∃ x, d = .ilst x ∧ f x = some z := by
  rcases d with _ | _ | _ | _ | _ | x | _
  case ilst => exact ⟨x, rfl, h⟩
  all_goals exact none_ne h
theorem dObj_s {f : Nat → Option α} (h : dObj f d = some z) : ∃ x, d = .obj x ∧ f x = some z := by
  rcases d with _ | _ | _ | _ | _ | _ | x
  case obj => exact ⟨x, rfl, h⟩
  all_goals exact none_ne h
theorem cLst_s {f : List D → Option α} {o : Option Cont} (h : o.bind (cLst f) = some z) : ∃ x, o = some (.lst x) ∧ f x = some z := by
  rcases o with _ | x | x
  case lst => exact ⟨x, rfl, h⟩
  all_goals exact none_ne h
theorem cDic_s {f : List (List Int × D) → Option α} {o : Option Cont} (h : o.bind (cDic f) = some z) : ∃ x, o = some (.dic x) ∧ f x = some z := by
  rcases o with _ | x | x
  case dic => exact ⟨x, rfl, h⟩
  all_goals exact none_ne h
theorem cTwo_s {f : List D → Option α} {g : List (List Int × D) → Option α} {o : Option Cont} (h : o.bind (cTwo f g) = some z) : (∃ x, o = some (.lst x) ∧ f x = some z) ∨ ∃ x, o = some (.dic x) ∧ g x = some z := by
  rcases o with _ | x | x
  · exact none_ne h
  · exact .inl ⟨x, rfl, h⟩
  · exact .inr ⟨x, rfl, h⟩
theorem lOne_s {f : β → Option α} {l : List β} (h : lOne f l = some z) : ∃ x, l = [x] ∧ f x = some z := by
  rcases l with _ | ⟨x, _ | _⟩
  · exact none_ne h
  · exact ⟨x, rfl, h⟩
  · exact none_ne h
theorem lCon_s {f : β → List β → Option α} {l : List β} (h : lCon f l = some z) : ∃ x r, l = x :: r ∧ f x r = some z := by
  rcases l with _ | ⟨x, r⟩
  · exact none_ne h
  · exact ⟨x, r, rfl, h⟩
theorem iteO {c : Prop} [Decidable c] {o : Option α} (h : (if c then o else none) = some z) : c ∧ o = some z := by
  by_cases hc : c
  · exact ⟨hc, (if_pos hc).symm.trans h⟩
  · exact none_ne ((if_neg hc).symm.trans h)
theorem iteN {c : Prop} [Decidable c] {o : Option α} (h : (if c then none else o) = some z) : ¬ c ∧ o = some z := by
  by_cases hc : c
  · exact none_ne ((if_pos hc).symm.trans h)
  · exact ⟨hc, (if_neg hc).symm.trans h⟩
theorem bindE {o : Option β} {f : β → Option α} (h : o.bind f = some z) : ∃ x, o = some x ∧ f x = some z := Option.bind_eq_some_iff.mp h
theorem mapE {o : Option β} {f : β → α} (h : o.map f = some z) : ∃ x, o = some x ∧ f x = z := Option.map_eq_some_iff.mp h
end
theorem emI_s {fe : Rho → St → Option (D × St)} {ρ : Rho} {acc acc' : List D} {st st' : St} (h : emI fe ρ acc st = some (acc', st')) : ∃ y, fe ρ st = some (y, st') ∧ acc.length < lim ∧ acc ++ [y] = acc' := by
  obtain ⟨⟨y, s1⟩, hy, h1⟩ := bindE h
  obtain ⟨hl, rfl, rfl⟩ := iteP h1
  exact ⟨y, hy, hl, rfl⟩
theorem edI_s {fk fv : Rho → St → Option (D × St)} {ρ : Rho} {acc acc' : List (List Int × D)} {st st' : St} (h : edI fk fv ρ acc st = some (acc', st')) :
    ∃ k s1 y ki, fk ρ st = some (k, s1) ∧ fv ρ s1 = some (y, st') ∧ keyOf k = some ki ∧ acc.length < lim ∧ dput acc ki y = acc' := by
  obtain ⟨⟨k, s1⟩, hk, h1⟩ := bindE h
  obtain ⟨⟨y, s2⟩, hy, h2⟩ := bindE h1
  obtain ⟨ki, hi, h3⟩ := bindE h2
  obtain ⟨hl, rfl, rfl⟩ := iteP h3
  exact ⟨k, s1, y, ki, hk, hy, hi, hl, rfl⟩
theorem cdI_s {σ : Type} {fc : Rho → St → Option (D × St)} {g : Rho → σ → St → Option (σ × St)} {ρ : Rho} {acc acc' : σ} {st st' : St} (h : cdI fc g ρ acc st = some (acc', st')) :
    ∃ b s1, fc ρ st = some (.bool b, s1) ∧ (b = true → g ρ acc s1 = some (acc', st')) ∧ (b = false → acc = acc' ∧ s1 = st') := by
  obtain ⟨⟨t, s1⟩, ht, h1⟩ := bindE h
  obtain ⟨b, rfl, h2⟩ := dBool_s h1
  rcases b with _ | _
  · exact ⟨false, s1, ht, (fun e => nomatch e), fun _ => someP h2⟩
  · exact ⟨true, s1, ht, fun _ => h2, (fun e => nomatch e)⟩
end Mine
end
section
open PySem
namespace Mine
noncomputable def f_order_key : Fn := ⟨2, [("order", .local), ("powers", .local), ("sum", .globalImplicit), ("tuple", .globalImplicit), ("CasFail", .globalImplicit)],
 (.cons (.ife (.cmp .eq (.var 0) (.cst (.str "lex")))
 (.cons (.ret (.var 1))
 .nil)
 .nil)
 (.cons (.ife (.cmp .eq (.var 0) (.cst (.str "grlex")))
 (.cons (.ret (.bin .add (.tup (.cons (.blt .sum (.cons (.var 1) .nil)) .nil)) (.var 1)))
 .nil)
 .nil)
 (.cons (.ife (.cmp .eq (.var 0) (.cst (.str "grevlex")))
 (.cons (.ret (.bin .add (.tup (.cons (.blt .sum (.cons (.var 1) .nil)) .nil)) (.blt .tuple (.cons (.lcomp [none, none] [1] .plain (.rev (.var 1)) .nil (.neg (.var 1))) .nil))))
 .nil)
 .nil)
 (.cons .raise
 .nil))))⟩

noncomputable def f_powers_product : Fn := ⟨2, [("a", .local), ("b", .cell), ("tuple", .globalImplicit), ("enumerate", .globalImplicit)],
 (.cons (.ret (.blt .tuple (.cons (.lcomp [none, none, none, some 1] [1, 2] .enum (.var 0) .nil (.bin .add (.var 2) (.idx (.var 3) (.var 1)))) .nil)))
 .nil)⟩

noncomputable def f_powers_divide : Fn := ⟨2, [("a", .local), ("b", .local), ("at", .local), ("one", .local), ("enumerate", .globalImplicit)],
 (.cons (.fore [2, 3] .enum (.var 0)
 (.cons (.ife (.cmp .gt (.var 3) (.idx (.var 1) (.var 2)))
 (.cons (.ret (.cst (.bool false)))
 .nil)
 .nil)
 .nil))
 (.cons (.ret (.cst (.bool true)))
 .nil))⟩

noncomputable def f_powers_quotient : Fn := ⟨2, [("a", .local), ("b", .cell), ("tuple", .globalImplicit), ("enumerate", .globalImplicit)],
 (.cons (.ret (.blt .tuple (.cons (.lcomp [none, none, none, some 1] [1, 2] .enum (.var 0) .nil (.bin .sub (.var 2) (.idx (.var 3) (.var 1)))) .nil)))
 .nil)⟩

noncomputable def f_gcd : Fn := ⟨2, [("a", .local), ("b", .local), ("abs", .globalImplicit)],
 (.cons (.assignT [0, 1] (.tup (.cons (.blt .abs (.cons (.var 0) .nil)) (.cons (.blt .abs (.cons (.var 1) .nil)) .nil))))
 (.cons (.whl (.cmp .ne (.var 1) (.cst (.int 0)))
 (.cons (.assignT [0, 1] (.tup (.cons (.var 1) (.cons (.bin .mod (.var 0) (.var 1)) .nil))))
 .nil))
 (.cons (.ret (.var 0))
 .nil)))⟩

noncomputable def f_bits_of : Fn := ⟨1, [("n", .local), ("found", .local), ("many", .local), ("step", .local)], .bad⟩

noncomputable def f_rat : Fn := ⟨2, [("top", .local), ("bottom", .local), ("g", .local), ("CasFail", .globalImplicit), ("gcd", .globalImplicit)],
 (.cons (.ife (.cmp .eq (.var 1) (.cst (.int 0)))
 (.cons .raise
 .nil)
 .nil)
 (.cons (.assign 2 (.ite (.cmp .gt (.var 1) (.cst (.int 0))) (.call 4 (.cons (.var 0) (.cons (.var 1) .nil))) (.bin .sub (.cst (.int 0)) (.call 4 (.cons (.var 0) (.cons (.var 1) .nil))))))
 (.cons (.ret (.tup (.cons (.bin .div (.var 0) (.var 2)) (.cons (.bin .div (.var 1) (.var 2)) .nil))))
 .nil)))⟩

noncomputable def f_radd : Fn := ⟨2, [("a", .local), ("b", .local), ("rat", .globalImplicit)],
 (.cons (.ret (.call 6 (.cons (.bin .add (.bin .mul (.idx (.var 0) (.cst (.int 0))) (.idx (.var 1) (.cst (.int 1)))) (.bin .mul (.idx (.var 1) (.cst (.int 0))) (.idx (.var 0) (.cst (.int 1))))) (.cons (.bin .mul (.idx (.var 0) (.cst (.int 1))) (.idx (.var 1) (.cst (.int 1)))) .nil))))
 .nil)⟩

noncomputable def f_rmul : Fn := ⟨2, [("a", .local), ("b", .local), ("rat", .globalImplicit)],
 (.cons (.ret (.call 6 (.cons (.bin .mul (.idx (.var 0) (.cst (.int 0))) (.idx (.var 1) (.cst (.int 0)))) (.cons (.bin .mul (.idx (.var 0) (.cst (.int 1))) (.idx (.var 1) (.cst (.int 1)))) .nil))))
 .nil)⟩

noncomputable def f_rdiv : Fn := ⟨2, [("a", .local), ("b", .local), ("rat", .globalImplicit)],
 (.cons (.ret (.call 6 (.cons (.bin .mul (.idx (.var 0) (.cst (.int 0))) (.idx (.var 1) (.cst (.int 1)))) (.cons (.bin .mul (.idx (.var 0) (.cst (.int 1))) (.idx (.var 1) (.cst (.int 0)))) .nil))))
 .nil)⟩

noncomputable def f_rneg : Fn := ⟨1, [("a", .local)],
 (.cons (.ret (.tup (.cons (.bin .sub (.cst (.int 0)) (.idx (.var 0) (.cst (.int 0)))) (.cons (.idx (.var 0) (.cst (.int 1))) .nil))))
 .nil)⟩

noncomputable def f_is_vast : Fn := ⟨1, [("a", .local), ("greatest", .local), ("max", .globalImplicit), ("abs", .globalImplicit), ("bits_of", .globalImplicit), ("MOST_BITS", .globalImplicit)],
 (.cons (.assign 1 (.blt .max (.cons (.blt .abs (.cons (.idx (.var 0) (.cst (.int 0))) .nil)) (.cons (.idx (.var 0) (.cst (.int 1))) .nil))))
 (.cons (.ret (.bop true (.cons (.cmp .ge (.var 1) (.bin .pow (.cst (.int 2)) (.cst (.int 64)))) (.cons .bad .nil))))
 .nil))⟩

noncomputable def f_mvterm : Fn := ⟨2, [("powers", .local), ("rational", .local), ("R0", .globalImplicit)],
 (.cons (.ret (.ite (.cmp .eq (.var 1) (.glob 0)) (.dict .nil) (.dict (.cons (.var 0) (.cons (.var 1) .nil)))))
 .nil)⟩

noncomputable def f_mvnumber : Fn := ⟨2, [("rational", .local), ("n", .local), ("mvterm", .globalImplicit)],
 (.cons (.ret (.call 12 (.cons (.bin .mul (.tup (.cons (.cst (.int 0)) .nil)) (.var 1)) (.cons (.var 0) .nil))))
 .nil)⟩

noncomputable def f_mvadd : Fn := ⟨2, [("a", .local), ("b", .local), ("found", .local), ("powers", .local), ("dict", .globalImplicit), ("add_term", .globalImplicit)],
 (.cons (.assign 2 (.blt .dict (.cons (.var 0) .nil)))
 (.cons (.fore [3] .plain (.var 1)
 (.cons (.expr (.call 14 (.cons (.var 2) (.cons (.var 3) (.cons (.idx (.var 1) (.var 3)) .nil)))))
 .nil))
 (.cons (.ret (.var 2))
 .nil)))⟩

noncomputable def f_add_term : Fn := ⟨3, [("found", .local), ("powers", .local), ("rational", .local), ("total", .local), ("radd", .globalImplicit), ("R0", .globalImplicit)],
 (.cons (.assign 3 (.ite (.cmp .inn (.var 1) (.var 0)) (.call 7 (.cons (.idx (.var 0) (.var 1)) (.cons (.var 2) .nil))) (.var 2)))
 (.cons (.ife (.cmp .eq (.var 3) (.glob 0))
 (.cons (.expr (.meth .pop (.var 0) (.cons (.var 1) (.cons (.cst .none) .nil))))
 .nil)
 (.cons (.setItem (.var 0) (.var 1) (.var 3))
 .nil))
 .nil))⟩

noncomputable def f_mvneg : Fn := ⟨1, [("a", .cell)],
 (.cons (.ret (.dcomp [none, none, none, some 0] [1] .plain (.var 0) .nil (.var 1) (.call 10 (.cons (.idx (.var 3) (.var 1)) .nil))))
 .nil)⟩

noncomputable def f_mvsub : Fn := ⟨2, [("a", .local), ("b", .local), ("mvadd", .globalImplicit), ("mvneg", .globalImplicit)],
 (.cons (.ret (.call 15 (.cons (.var 0) (.cons (.call 16 (.cons (.var 1) .nil)) .nil))))
 .nil)⟩

noncomputable def f_mvshift : Fn := ⟨3, [("a", .cell), ("powers", .cell), ("rational", .cell), ("R0", .globalImplicit)],
 (.cons (.ife (.cmp .eq (.var 2) (.glob 0))
 (.cons (.ret (.dict .nil))
 .nil)
 .nil)
 (.cons (.ret (.dcomp [none, none, none, none, some 0, some 1, some 2] [1] .plain (.var 0) .nil (.call 1 (.cons (.var 1) (.cons (.var 5) .nil))) (.call 8 (.cons (.idx (.var 4) (.var 1)) (.cons (.var 6) .nil)))))
 .nil))⟩

noncomputable def f_mvmul : Fn := ⟨2, [("a", .local), ("b", .local), ("found", .local), ("powers", .local), ("one", .local), ("add_term", .globalImplicit), ("powers_product", .globalImplicit), ("rmul", .globalImplicit)],
 (.cons (.assign 2 (.dict .nil))
 (.cons (.fore [3] .plain (.var 1)
 (.cons (.fore [4] .plain (.var 0)
 (.cons (.expr (.call 14 (.cons (.var 2) (.cons (.call 1 (.cons (.var 4) (.cons (.var 3) .nil))) (.cons (.call 8 (.cons (.idx (.var 0) (.var 4)) (.cons (.idx (.var 1) (.var 3)) .nil))) .nil)))))
 .nil))
 .nil))
 (.cons (.ret (.var 2))
 .nil)))⟩

noncomputable def f_mvpower : Fn := ⟨3, [("a", .local), ("many", .local), ("n", .local), ("found", .local), ("base", .local), ("left", .local), ("mvnumber", .globalImplicit), ("R1", .globalImplicit), ("mvmul", .globalImplicit)],
 (.cons (.assignT [3, 4, 5] (.tup (.cons (.call 13 (.cons (.glob 1) (.cons (.var 2) .nil))) (.cons (.var 0) (.cons (.var 1) .nil)))))
 (.cons (.whl (.cmp .gt (.var 5) (.cst (.int 0)))
 (.cons (.ife (.cmp .eq (.bin .mod (.var 5) (.cst (.int 2))) (.cst (.int 1)))
 (.cons (.assign 3 (.call 19 (.cons (.var 3) (.cons (.var 4) .nil))))
 .nil)
 .nil)
 (.cons (.assign 4 (.ite (.cmp .gt (.var 5) (.cst (.int 1))) (.call 19 (.cons (.var 4) (.cons (.var 4) .nil))) (.var 4)))
 (.cons (.assign 5 (.bin .div (.var 5) (.cst (.int 2))))
 .nil))))
 (.cons (.ret (.var 3))
 .nil)))⟩

noncomputable def f_mvlead : Fn := ⟨2, [("a", .local), ("order", .local), ("best", .local), ("highest", .local), ("powers", .local), ("place", .local), ("order_key", .globalImplicit)],
 (.cons (.assignT [2, 3] (.tup (.cons (.cst .none) (.cons (.cst .none) .nil))))
 (.cons (.fore [4] .plain (.var 0)
 (.cons (.assign 5 (.call 0 (.cons (.var 1) (.cons (.var 4) .nil))))
 (.cons (.ife (.bop false (.cons (.cmp .is (.var 2) (.cst .none)) (.cons (.cmp .gt (.var 5) (.var 3)) .nil)))
 (.cons (.assignT [2, 3] (.tup (.cons (.var 4) (.cons (.var 5) .nil))))
 .nil)
 .nil)
 .nil)))
 (.cons (.ret (.ite (.cmp .is (.var 2) (.cst .none)) (.cst .none) (.tup (.cons (.var 2) (.cons (.idx (.var 0) (.var 2)) .nil)))))
 .nil)))⟩

noncomputable def f_first_divisor : Fn := ⟨2, [("powers", .local), ("leads", .local), ("at", .local), ("one", .local), ("enumerate", .globalImplicit), ("powers_divide", .globalImplicit)],
 (.cons (.fore [2, 3] .enum (.var 1)
 (.cons (.ife (.bop true (.cons (.cmp .isnt (.var 3) (.cst .none)) (.cons (.call 2 (.cons (.idx (.var 3) (.cst (.int 0))) (.cons (.var 0) .nil))) .nil)))
 (.cons (.ret (.var 2))
 .nil)
 .nil)
 .nil))
 (.cons (.ret (.neg (.cst (.int 1))))
 .nil))⟩

noncomputable def f_mvdivide : Fn := ⟨3, [("f", .local), ("some", .local), ("order", .cell), ("leads", .local), ("quotients", .local), ("rest", .local), ("left", .local), ("work", .local), ("powers", .local), ("most", .cell), ("rational", .local), ("at", .local), ("shift", .local), ("factor", .local), ("dict", .globalImplicit), ("max", .globalImplicit), ("MOST_FAR", .globalImplicit), ("len", .globalImplicit), ("mvlead", .globalImplicit), ("MOST_WORK", .globalImplicit), ("is_vast", .globalImplicit), ("any", .globalImplicit), ("CasFail", .globalImplicit), ("first_divisor", .globalImplicit), ("powers_quotient", .globalImplicit), ("rdiv", .globalImplicit), ("add_term", .globalImplicit), ("mvsub", .globalImplicit), ("mvshift", .globalImplicit)],
 (.cons (.assign 3 (.lcomp [none, none, none, some 2] [1] .plain (.var 1) .nil (.call 21 (.cons (.var 1) (.cons (.var 3) .nil)))))
 (.cons (.assign 4 (.lcomp [none, none] [1] .plain (.var 1) .nil (.dict .nil)))
 (.cons (.assignT [5, 6, 7] (.tup (.cons (.dict .nil) (.cons (.blt .dict (.cons (.var 0) .nil)) (.cons (.cst (.int 0)) .nil)))))
 (.cons (.assign 9 (.blt .max (.cons (.bin .add (.listI (.cons (.glob 2) .nil)) (.lcomp2 [none, none, none] [1] .plain (.var 0) [2] .plain (.var 1) (.var 2))) .nil)))
 (.cons (.whl (.cmp .gt (.blt .len (.cons (.var 6) .nil)) (.cst (.int 0)))
 (.cons (.assignT [8, 10] (.call 21 (.cons (.var 6) (.cons (.var 2) .nil))))
 (.cons (.aug 7 .add (.blt .len (.cons (.var 6) .nil)))
 (.cons (.ife (.bop false (.cons (.cmp .gt (.var 7) (.glob 3)) (.cons (.call 11 (.cons (.var 10) .nil)) (.cons (.blt .any (.cons (.lcomp [none, none, some 9] [1] .plain (.var 8) .nil (.cmp .gt (.var 1) (.var 2))) .nil)) .nil))))
 (.cons .raise
 .nil)
 .nil)
 (.cons (.assign 11 (.call 22 (.cons (.var 8) (.cons (.var 3) .nil))))
 (.cons (.ife (.cmp .lt (.var 11) (.cst (.int 0)))
 (.cons (.setItem (.var 5) (.var 8) (.var 10))
 (.cons (.expr (.meth .pop (.var 6) (.cons (.var 8) .nil)))
 (.cons .cont
 .nil)))
 .nil)
 (.cons (.assignT [12, 13] (.tup (.cons (.call 3 (.cons (.var 8) (.cons (.idx (.idx (.var 3) (.var 11)) (.cst (.int 0))) .nil))) (.cons (.call 9 (.cons (.var 10) (.cons (.idx (.idx (.var 3) (.var 11)) (.cst (.int 1))) .nil))) .nil))))
 (.cons (.expr (.call 14 (.cons (.idx (.var 4) (.var 11)) (.cons (.var 12) (.cons (.var 13) .nil)))))
 (.cons (.assign 6 (.call 17 (.cons (.var 6) (.cons (.call 18 (.cons (.idx (.var 1) (.var 11)) (.cons (.var 12) (.cons (.var 13) .nil)))) .nil))))
 .nil)))))))))
 (.cons (.ret (.tup (.cons (.var 4) (.cons (.var 5) .nil))))
 .nil))))))⟩

noncomputable def f_rest_of : Fn := ⟨3, [("f", .local), ("some", .local), ("order", .local), ("mvdivide", .globalImplicit)],
 (.cons (.ret (.idx (.call 23 (.cons (.var 0) (.cons (.var 1) (.cons (.var 2) .nil)))) (.cst (.int 1))))
 .nil)⟩

noncomputable def f__law_draw : Fn := ⟨2, [("pool", .local), ("many", .local), ("spot", .local), ("len", .globalImplicit), ("abs", .globalImplicit)],
 (.cons (.assign 2 (.idx (.var 0) (.cst (.int 1))))
 (.cons (.setItem (.var 0) (.cst (.int 1)) (.bin .add (.var 2) (.cst (.int 1))))
 (.cons (.ife (.cmp .lt (.var 2) (.blt .len (.cons (.idx (.var 0) (.cst (.int 0))) .nil)))
 (.cons (.ret (.bin .mod (.blt .abs (.cons (.idx (.idx (.var 0) (.cst (.int 0))) (.var 2)) .nil)) (.var 1)))
 .nil)
 .nil)
 (.cons (.ret (.bin .mod (.idx (.tup (.cons (.cst (.int 0)) (.cons (.cst (.int 0)) (.cons (.cst (.int 0)) (.cons (.cst (.int 0)) (.cons (.cst (.int 0)) (.cons (.cst (.int 1)) (.cons (.cst (.int 1)) (.cons (.cst (.int 0)) (.cons (.cst (.int 2)) (.cons (.cst (.int 2)) (.cons (.cst (.int 1)) .nil)))))))))))) (.bin .mod (.var 2) (.cst (.int 11)))) (.var 1)))
 .nil))))⟩

noncomputable def f__law_powers : Fn := ⟨2, [("n", .local), ("some", .cell), ("tuple", .globalImplicit), ("range", .globalImplicit)],
 (.cons (.ret (.blt .tuple (.cons (.lcomp [none, none, none, some 1] [1] .range (.var 0) .nil (.blt .len (.cons (.lcomp [none, none, some 1] [1] .plain (.var 3) (.cmp .eq (.var 1) (.var 2)) (.cst (.int 1))) .nil))) .nil)))
 .nil)⟩

noncomputable def f__law_points : Fn := ⟨2, [("p", .cell), ("n", .local), ("found", .local), ("turn", .local), ("range", .globalImplicit)],
 (.cons (.assign 2 (.listI (.cons (.tup .nil) .nil)))
 (.cons (.fore [3] .range (.var 1)
 (.cons (.assign 2 (.lcomp2 [none, none, none, none, some 0] [1] .plain (.var 2) [2] .range (.var 4) (.bin .add (.var 1) (.tup (.cons (.var 2) .nil)))))
 .nil))
 (.cons (.ret (.var 2))
 .nil)))⟩

noncomputable def f__law_worth : Fn := ⟨3, [("f", .local), ("point", .local), ("p", .local), ("found", .local), ("powers", .local), ("product", .local), ("at", .local), ("many", .local), ("enumerate", .globalImplicit)],
 (.cons (.assign 3 (.cst (.int 0)))
 (.cons (.fore [4] .plain (.var 0)
 (.cons (.assign 5 (.idx (.idx (.var 0) (.var 4)) (.cst (.int 0))))
 (.cons (.fore [6, 7] .enum (.var 4)
 (.cons (.assign 5 (.bin .mul (.var 5) (.bin .pow (.idx (.var 1) (.var 6)) (.var 7))))
 .nil))
 (.cons (.assign 3 (.bin .add (.var 3) (.var 5)))
 .nil))))
 (.cons (.ret (.bin .mod (.var 3) (.var 2)))
 .nil)))⟩

noncomputable def f__law_first_of : Fn := ⟨3, [("pool", .local), ("p", .local), ("n", .local), ("found", .cell), ("turn", .local), ("one", .local), ("other", .local), ("powers", .local), ("range", .globalImplicit), ("_law_draw", .globalImplicit), ("_law_powers", .globalImplicit)],
 (.cons (.assign 3 (.dict .nil))
 (.cons (.fore [4] .range (.cst (.int 3))
 (.cons (.assignT [5, 6] (.tup (.cons (.call 25 (.cons (.var 0) (.cons (.bin .add (.var 2) (.cst (.int 1))) .nil))) (.cons (.call 25 (.cons (.var 0) (.cons (.bin .add (.var 2) (.cst (.int 1))) .nil))) .nil))))
 (.cons (.assign 7 (.call 26 (.cons (.var 2) (.cons (.tup (.cons (.var 5) (.cons (.var 6) .nil))) .nil))))
 (.cons (.setItem (.var 3) (.var 7) (.bin .mod (.bin .add (.bin .add (.meth .get (.var 3) (.cons (.var 7) (.cons (.cst (.int 0)) .nil))) (.cst (.int 1))) (.call 25 (.cons (.var 0) (.cons (.bin .sub (.var 1) (.cst (.int 1))) .nil)))) (.var 1)))
 .nil))))
 (.cons (.ret (.dcomp [none, none, some 3] [1] .plain (.var 3) (.cmp .ne (.idx (.var 2) (.var 1)) (.cst (.int 0))) (.var 1) (.tup (.cons (.idx (.var 2) (.var 1)) (.cons (.cst (.int 1)) .nil)))))
 .nil)))⟩

noncomputable def f__law_second_of : Fn := ⟨2, [("pool", .local), ("n", .local), ("found", .local), ("_law_powers", .globalImplicit), ("_law_draw", .globalImplicit)],
 (.cons (.assign 2 (.dict (.cons (.call 26 (.cons (.var 1) (.cons (.tup (.cons (.call 25 (.cons (.var 0) (.cons (.var 1) .nil))) .nil)) .nil))) (.cons (.tup (.cons (.cst (.int 1)) (.cons (.cst (.int 1)) .nil))) .nil))))
 (.cons (.ife (.cmp .eq (.call 25 (.cons (.var 0) (.cons (.cst (.int 2)) .nil))) (.cst (.int 1)))
 (.cons (.setItem (.var 2) (.bin .mul (.tup (.cons (.cst (.int 0)) .nil)) (.var 1)) (.tup (.cons (.cst (.int 1)) (.cons (.cst (.int 1)) .nil))))
 .nil)
 .nil)
 (.cons (.ret (.var 2))
 .nil)))⟩

noncomputable def f_law : Fn := ⟨1, [("script", .local), ("pool", .local), ("p", .cell), ("n", .cell), ("lots", .local), ("order", .local), ("some", .cell), ("one", .local), ("told", .local), ("f", .local), ("turned", .local), ("rest", .local), ("shown", .cell), ("powers", .local), ("points", .local), ("met", .cell), ("degrees", .local), ("left", .local), ("top", .local), ("_law_draw", .globalImplicit), ("_law_first_of", .globalImplicit), ("_law_second_of", .globalImplicit), ("mvnumber", .globalImplicit), ("mvmul", .globalImplicit), ("mvsub", .globalImplicit), ("mvpower", .globalImplicit), ("range", .globalImplicit), ("rest_of", .globalImplicit), ("max", .globalImplicit), ("_law_points", .globalImplicit), ("sum", .globalImplicit), ("len", .globalImplicit)],
 (.cons (.assign 1 (.listM (.cons (.lcomp [none, none, none] [1] .plain (.head (.var 0) 13) .nil (.blt .int (.cons (.var 1) .nil))) (.cons (.cst (.int 0)) .nil))))
 (.cons (.assignT [2, 3, 4] (.idx (.tup (.cons (.tup (.cons (.cst (.int 3)) (.cons (.cst (.int 2)) (.cons (.cst (.int 1)) .nil)))) (.cons (.tup (.cons (.cst (.int 2)) (.cons (.cst (.int 3)) (.cons (.cst (.int 1)) .nil)))) (.cons (.tup (.cons (.cst (.int 3)) (.cons (.cst (.int 3)) (.cons (.cst (.int 1)) .nil)))) (.cons (.tup (.cons (.cst (.int 2)) (.cons (.cst (.int 4)) (.cons (.cst (.int 2)) .nil)))) (.cons (.tup (.cons (.cst (.int 2)) (.cons (.cst (.int 4)) (.cons (.cst (.int 1)) .nil)))) (.cons (.tup (.cons (.cst (.int 2)) (.cons (.cst (.int 5)) (.cons (.cst (.int 1)) .nil)))) .nil))))))) (.call 25 (.cons (.var 1) (.cons (.cst (.int 6)) .nil)))))
 (.cons (.assign 5 (.idx (.tup (.cons (.cst (.str "grevlex")) (.cons (.cst (.str "lex")) (.cons (.cst (.str "grlex")) .nil)))) (.call 25 (.cons (.var 1) (.cons (.cst (.int 3)) .nil)))))
 (.cons (.assign 6 (.listM (.cons (.call 29 (.cons (.var 1) (.cons (.var 2) (.cons (.var 3) .nil)))) .nil)))
 (.cons (.ife (.cmp .eq (.var 4) (.cst (.int 2)))
 (.cons (.expr (.meth .append (.var 6) (.cons (.call 30 (.cons (.var 1) (.cons (.var 3) .nil))) .nil)))
 .nil)
 .nil)
 (.cons (.assignT [7, 8] (.tup (.cons (.call 13 (.cons (.tup (.cons (.cst (.int 1)) (.cons (.cst (.int 1)) .nil))) (.cons (.var 3) .nil))) (.cons (.call 13 (.cons (.tup (.cons (.cst (.int 1)) (.cons (.cst (.int 1)) .nil))) (.cons (.var 3) .nil))) .nil))))
 (.cons (.fore [9] .plain (.var 6)
 (.cons (.assign 8 (.call 19 (.cons (.var 8) (.cons (.call 17 (.cons (.var 7) (.cons (.call 20 (.cons (.var 9) (.cons (.bin .sub (.var 2) (.cst (.int 1))) (.cons (.var 3) .nil)))) .nil))) .nil))))
 .nil))
 (.cons (.assign 10 (.lcomp [none, none, none, some 3, some 2] [1] .range (.var 3) .nil (.dict (.cons (.call 26 (.cons (.var 3) (.cons (.bin .mul (.tup (.cons (.var 1) .nil)) (.var 4)) .nil))) (.cons (.tup (.cons (.cst (.int 1)) (.cons (.cst (.int 1)) .nil))) (.cons (.call 26 (.cons (.var 3) (.cons (.tup (.cons (.var 1) .nil)) .nil))) (.cons (.tup (.cons (.neg (.cst (.int 1))) (.cons (.cst (.int 1)) .nil))) .nil)))))))
 (.cons (.assignT [11, 12] (.tup (.cons (.call 24 (.cons (.var 8) (.cons (.var 10) (.cons (.var 5) .nil)))) (.cons (.dict .nil) .nil))))
 (.cons (.fore [13] .plain (.var 11)
 (.cons (.ife (.bop false (.cons (.cmp .ne (.idx (.idx (.var 11) (.var 13)) (.cst (.int 1))) (.cst (.int 1))) (.cons (.cmp .ge (.blt .max (.cons (.var 13) .nil)) (.var 2)) .nil)))
 (.cons (.ret (.cst (.bool false)))
 .nil)
 .nil)
 (.cons (.setItem (.var 12) (.var 13) (.tup (.cons (.bin .mod (.idx (.idx (.var 11) (.var 13)) (.cst (.int 0))) (.var 2)) (.cons (.cst (.int 1)) .nil))))
 .nil)))
 (.cons (.assign 14 (.call 27 (.cons (.var 2) (.cons (.var 3) .nil))))
 (.cons (.assign 15 (.lcomp [none, none, none, some 2, some 12] [1] .plain (.var 14) (.cmp .eq (.call 28 (.cons (.var 4) (.cons (.var 1) (.cons (.var 3) .nil)))) (.cst (.int 1))) (.var 1)))
 (.cons (.assign 16 (.lcomp [none, none, none] [1] .plain (.var 6) .nil (.blt .max (.cons (.bin .add (.listI (.cons (.cst (.int 1)) .nil)) (.lcomp [none, none, none] [1] .plain (.var 1) .nil (.blt .sum (.cons (.var 1) .nil)))) .nil))))
 (.cons (.assignT [17, 18] (.tup (.cons (.bin .sub (.var 3) (.blt .sum (.cons (.var 16) .nil))) (.cons (.idx (.meth .get (.var 12) (.cons (.bin .mul (.tup (.cons (.bin .sub (.var 2) (.cst (.int 1))) .nil)) (.var 3)) (.cons (.tup (.cons (.cst (.int 0)) (.cons (.cst (.int 1)) .nil))) .nil))) (.cst (.int 0))) .nil))))
 (.cons (.ife (.cmp .ne (.bin .mod (.bin .sub (.var 18) (.bin .mul (.bin .pow (.neg (.cst (.int 1))) (.var 3)) (.blt .len (.cons (.var 15) .nil)))) (.var 2)) (.cst (.int 0)))
 (.cons (.ret (.cst (.bool false)))
 .nil)
 .nil)
 (.cons (.ife (.bop true (.cons (.cmp .gt (.var 17) (.cst (.int 0))) (.cons (.bop false (.cons (.cmp .ne (.bin .mod (.blt .len (.cons (.var 15) .nil)) (.bin .pow (.var 2) (.bin .sub (.cst (.int 0)) (.bin .div (.bin .sub (.cst (.int 0)) (.var 17)) (.blt .max (.cons (.var 16) .nil)))))) (.cst (.int 0))) (.cons (.cmp2 .lt .lt (.cst (.int 0)) (.blt .len (.cons (.var 15) .nil)) (.bin .pow (.var 2) (.var 17))) .nil))) .nil)))
 (.cons (.ret (.cst (.bool false)))
 .nil)
 .nil)
 (.cons (.ife (.cmp .ne (.lcomp [none, none, none, some 15, some 2, some 12] [1] .plain (.var 14) (.bop true (.cons (.cmp .nin (.var 1) (.var 3)) (.cons (.cmp .ne (.call 28 (.cons (.var 5) (.cons (.var 1) (.cons (.var 4) .nil)))) (.cst (.int 0))) .nil))) (.var 1)) (.listI .nil))
 (.cons (.ret (.cst (.bool false)))
 .nil)
 .nil)
 (.cons (.ret (.cmp .eq (.var 15) (.lcomp [none, none, some 2, some 6] [1] .plain (.var 14) (.cmp .eq (.lcomp [none, none, none, some 2, some 1] [1] .plain (.var 3) (.cmp .ne (.call 28 (.cons (.var 1) (.cons (.var 4) (.cons (.var 3) .nil)))) (.cst (.int 0))) (.var 1)) (.listI .nil)) (.var 1))))
 .nil))))))))))))))))))⟩

noncomputable def tab : List Fn := [f_order_key, f_powers_product, f_powers_divide, f_powers_quotient, f_gcd, f_bits_of, f_rat, f_radd, f_rmul, f_rdiv, f_rneg, f_is_vast, f_mvterm, f_mvnumber, f_add_term, f_mvadd, f_mvneg, f_mvsub, f_mvshift, f_mvmul, f_mvpower, f_mvlead, f_first_divisor, f_mvdivide, f_rest_of, f__law_draw, f__law_powers, f__law_points, f__law_worth, f__law_first_of, f__law_second_of, f_law]

end Mine
end
section
open PySem PySem.W PyProof.Rows
namespace Mine
noncomputable def onBoolOp (f : BoolOp → List Expr → Pos → Bool) (x : Expr) : Bool := if h : x.ctorIdx = 0 then Expr.BoolOp.elim x h f else false
theorem onBoolOp_s {f : BoolOp → List Expr → Pos → Bool} {x : Expr} (h : onBoolOp f x = true) : ∃ a b c, x = Expr.BoolOp a b c ∧ f a b c = true := by
  obtain ⟨hk, h⟩ := selB h
  exact Expr.BoolOp.elim (motive_1 := fun x => ∀ hk : x.ctorIdx = 0, Expr.BoolOp.elim (motive_1 := fun _ => Bool) x hk f = true → ∃ a b c, x = Expr.BoolOp a b c ∧ f a b c = true) x hk (fun a b c _ h => ⟨a, b, c, rfl, h⟩) hk h
noncomputable def onBinOp (f : Expr → Operator → Expr → Pos → Bool) (x : Expr) : Bool := if h : x.ctorIdx = 2 then Expr.BinOp.elim x h f else false
theorem onBinOp_s {f : Expr → Operator → Expr → Pos → Bool} {x : Expr} (h : onBinOp f x = true) : ∃ a b c d, x = Expr.BinOp a b c d ∧ f a b c d = true := by
  obtain ⟨hk, h⟩ := selB h
  exact Expr.BinOp.elim (motive_1 := fun x => ∀ hk : x.ctorIdx = 2, Expr.BinOp.elim (motive_1 := fun _ => Bool) x hk f = true → ∃ a b c d, x = Expr.BinOp a b c d ∧ f a b c d = true) x hk (fun a b c d _ h => ⟨a, b, c, d, rfl, h⟩) hk h
noncomputable def onUnaryOp (f : UnaryOp → Expr → Pos → Bool) (x : Expr) : Bool := if h : x.ctorIdx = 3 then Expr.UnaryOp.elim x h f else false
theorem onUnaryOp_s {f : UnaryOp → Expr → Pos → Bool} {x : Expr} (h : onUnaryOp f x = true) : ∃ a b c, x = Expr.UnaryOp a b c ∧ f a b c = true := by
  obtain ⟨hk, h⟩ := selB h
  exact Expr.UnaryOp.elim (motive_1 := fun x => ∀ hk : x.ctorIdx = 3, Expr.UnaryOp.elim (motive_1 := fun _ => Bool) x hk f = true → ∃ a b c, x = Expr.UnaryOp a b c ∧ f a b c = true) x hk (fun a b c _ h => ⟨a, b, c, rfl, h⟩) hk h
noncomputable def onIfExp (f : Expr → Expr → Expr → Pos → Bool) (x : Expr) : Bool := if h : x.ctorIdx = 5 then Expr.IfExp.elim x h f else false
theorem onIfExp_s {f : Expr → Expr → Expr → Pos → Bool} {x : Expr} (h : onIfExp f x = true) : ∃ a b c d, x = Expr.IfExp a b c d ∧ f a b c d = true := by
  obtain ⟨hk, h⟩ := selB h
  exact Expr.IfExp.elim (motive_1 := fun x => ∀ hk : x.ctorIdx = 5, Expr.IfExp.elim (motive_1 := fun _ => Bool) x hk f = true → ∃ a b c d, x = Expr.IfExp a b c d ∧ f a b c d = true) x hk (fun a b c d _ h => ⟨a, b, c, d, rfl, h⟩) hk h
noncomputable def onDict (f : List (Option Expr) → List Expr → Pos → Bool) (x : Expr) : Bool := if h : x.ctorIdx = 6 then Expr.Dict.elim x h f else false
theorem onDict_s {f : List (Option Expr) → List Expr → Pos → Bool} {x : Expr} (h : onDict f x = true) : ∃ a b c, x = Expr.Dict a b c ∧ f a b c = true := by
  obtain ⟨hk, h⟩ := selB h
  exact Expr.Dict.elim (motive_1 := fun x => ∀ hk : x.ctorIdx = 6, Expr.Dict.elim (motive_1 := fun _ => Bool) x hk f = true → ∃ a b c, x = Expr.Dict a b c ∧ f a b c = true) x hk (fun a b c _ h => ⟨a, b, c, rfl, h⟩) hk h
noncomputable def onListComp (f : Expr → List Comprehension → Scope → Pos → Bool) (x : Expr) : Bool := if h : x.ctorIdx = 8 then Expr.ListComp.elim x h f else false
theorem onListComp_s {f : Expr → List Comprehension → Scope → Pos → Bool} {x : Expr} (h : onListComp f x = true) : ∃ a b c d, x = Expr.ListComp a b c d ∧ f a b c d = true := by
  obtain ⟨hk, h⟩ := selB h
  exact Expr.ListComp.elim (motive_1 := fun x => ∀ hk : x.ctorIdx = 8, Expr.ListComp.elim (motive_1 := fun _ => Bool) x hk f = true → ∃ a b c d, x = Expr.ListComp a b c d ∧ f a b c d = true) x hk (fun a b c d _ h => ⟨a, b, c, d, rfl, h⟩) hk h
noncomputable def onDictComp (f : Expr → Expr → List Comprehension → Scope → Pos → Bool) (x : Expr) : Bool := if h : x.ctorIdx = 10 then Expr.DictComp.elim x h f else false
theorem onDictComp_s {f : Expr → Expr → List Comprehension → Scope → Pos → Bool} {x : Expr} (h : onDictComp f x = true) : ∃ a b c d e, x = Expr.DictComp a b c d e ∧ f a b c d e = true := by
  obtain ⟨hk, h⟩ := selB h
  exact Expr.DictComp.elim (motive_1 := fun x => ∀ hk : x.ctorIdx = 10, Expr.DictComp.elim (motive_1 := fun _ => Bool) x hk f = true → ∃ a b c d e, x = Expr.DictComp a b c d e ∧ f a b c d e = true) x hk (fun a b c d e _ h => ⟨a, b, c, d, e, rfl, h⟩) hk h
noncomputable def onCompare (f : Expr → List CmpOp → List Expr → Pos → Bool) (x : Expr) : Bool := if h : x.ctorIdx = 15 then Expr.Compare.elim x h f else false
theorem onCompare_s {f : Expr → List CmpOp → List Expr → Pos → Bool} {x : Expr} (h : onCompare f x = true) : ∃ a b c d, x = Expr.Compare a b c d ∧ f a b c d = true := by
  obtain ⟨hk, h⟩ := selB h
  exact Expr.Compare.elim (motive_1 := fun x => ∀ hk : x.ctorIdx = 15, Expr.Compare.elim (motive_1 := fun _ => Bool) x hk f = true → ∃ a b c d, x = Expr.Compare a b c d ∧ f a b c d = true) x hk (fun a b c d _ h => ⟨a, b, c, d, rfl, h⟩) hk h
noncomputable def onCall (f : Expr → List Expr → List Keyword → Pos → Bool) (x : Expr) : Bool := if h : x.ctorIdx = 16 then Expr.Call.elim x h f else false
theorem onCall_s {f : Expr → List Expr → List Keyword → Pos → Bool} {x : Expr} (h : onCall f x = true) : ∃ a b c d, x = Expr.Call a b c d ∧ f a b c d = true := by
  obtain ⟨hk, h⟩ := selB h
  exact Expr.Call.elim (motive_1 := fun x => ∀ hk : x.ctorIdx = 16, Expr.Call.elim (motive_1 := fun _ => Bool) x hk f = true → ∃ a b c d, x = Expr.Call a b c d ∧ f a b c d = true) x hk (fun a b c d _ h => ⟨a, b, c, d, rfl, h⟩) hk h
noncomputable def onConstant (f : Const → Nat → Pos → Bool) (x : Expr) : Bool := if h : x.ctorIdx = 19 then Expr.Constant.elim x h f else false
theorem onConstant_s {f : Const → Nat → Pos → Bool} {x : Expr} (h : onConstant f x = true) : ∃ a b c, x = Expr.Constant a b c ∧ f a b c = true := by
  obtain ⟨hk, h⟩ := selB h
  exact Expr.Constant.elim (motive_1 := fun x => ∀ hk : x.ctorIdx = 19, Expr.Constant.elim (motive_1 := fun _ => Bool) x hk f = true → ∃ a b c, x = Expr.Constant a b c ∧ f a b c = true) x hk (fun a b c _ h => ⟨a, b, c, rfl, h⟩) hk h
noncomputable def onAttribute (f : Expr → Str → Pos → Bool) (x : Expr) : Bool := if h : x.ctorIdx = 20 then Expr.Attribute.elim x h f else false
theorem onAttribute_s {f : Expr → Str → Pos → Bool} {x : Expr} (h : onAttribute f x = true) : ∃ a b c, x = Expr.Attribute a b c ∧ f a b c = true := by
  obtain ⟨hk, h⟩ := selB h
  exact Expr.Attribute.elim (motive_1 := fun x => ∀ hk : x.ctorIdx = 20, Expr.Attribute.elim (motive_1 := fun _ => Bool) x hk f = true → ∃ a b c, x = Expr.Attribute a b c ∧ f a b c = true) x hk (fun a b c _ h => ⟨a, b, c, rfl, h⟩) hk h
noncomputable def onSubscript (f : Expr → Expr → Pos → Bool) (x : Expr) : Bool := if h : x.ctorIdx = 21 then Expr.Subscript.elim x h f else false
theorem onSubscript_s {f : Expr → Expr → Pos → Bool} {x : Expr} (h : onSubscript f x = true) : ∃ a b c, x = Expr.Subscript a b c ∧ f a b c = true := by
  obtain ⟨hk, h⟩ := selB h
  exact Expr.Subscript.elim (motive_1 := fun x => ∀ hk : x.ctorIdx = 21, Expr.Subscript.elim (motive_1 := fun _ => Bool) x hk f = true → ∃ a b c, x = Expr.Subscript a b c ∧ f a b c = true) x hk (fun a b c _ h => ⟨a, b, c, rfl, h⟩) hk h
noncomputable def onName (f : Str → Pos → Bool) (x : Expr) : Bool := if h : x.ctorIdx = 23 then Expr.Name.elim x h f else false
theorem onName_s {f : Str → Pos → Bool} {x : Expr} (h : onName f x = true) : ∃ a b, x = Expr.Name a b ∧ f a b = true := by
  obtain ⟨hk, h⟩ := selB h
  exact Expr.Name.elim (motive_1 := fun x => ∀ hk : x.ctorIdx = 23, Expr.Name.elim (motive_1 := fun _ => Bool) x hk f = true → ∃ a b, x = Expr.Name a b ∧ f a b = true) x hk (fun a b _ h => ⟨a, b, rfl, h⟩) hk h
noncomputable def onList (f : List Expr → Pos → Bool) (x : Expr) : Bool := if h : x.ctorIdx = 24 then Expr.List.elim x h f else false
theorem onList_s {f : List Expr → Pos → Bool} {x : Expr} (h : onList f x = true) : ∃ a b, x = Expr.List a b ∧ f a b = true := by
  obtain ⟨hk, h⟩ := selB h
  exact Expr.List.elim (motive_1 := fun x => ∀ hk : x.ctorIdx = 24, Expr.List.elim (motive_1 := fun _ => Bool) x hk f = true → ∃ a b, x = Expr.List a b ∧ f a b = true) x hk (fun a b _ h => ⟨a, b, rfl, h⟩) hk h
noncomputable def onTuple (f : List Expr → Nat → Pos → Bool) (x : Expr) : Bool := if h : x.ctorIdx = 25 then Expr.Tuple.elim x h f else false
theorem onTuple_s {f : List Expr → Nat → Pos → Bool} {x : Expr} (h : onTuple f x = true) : ∃ a b c, x = Expr.Tuple a b c ∧ f a b c = true := by
  obtain ⟨hk, h⟩ := selB h
  exact Expr.Tuple.elim (motive_1 := fun x => ∀ hk : x.ctorIdx = 25, Expr.Tuple.elim (motive_1 := fun _ => Bool) x hk f = true → ∃ a b c, x = Expr.Tuple a b c ∧ f a b c = true) x hk (fun a b c _ h => ⟨a, b, c, rfl, h⟩) hk h
noncomputable def onSlice (f : Option Expr → Option Expr → Option Expr → Pos → Bool) (x : Expr) : Bool := if h : x.ctorIdx = 26 then Expr.Slice.elim x h f else false
theorem onSlice_s {f : Option Expr → Option Expr → Option Expr → Pos → Bool} {x : Expr} (h : onSlice f x = true) : ∃ a b c d, x = Expr.Slice a b c d ∧ f a b c d = true := by
  obtain ⟨hk, h⟩ := selB h
  exact Expr.Slice.elim (motive_1 := fun x => ∀ hk : x.ctorIdx = 26, Expr.Slice.elim (motive_1 := fun _ => Bool) x hk f = true → ∃ a b c d, x = Expr.Slice a b c d ∧ f a b c d = true) x hk (fun a b c d _ h => ⟨a, b, c, d, rfl, h⟩) hk h
noncomputable def stReturn (f : Option Expr → Pos → Bool) (x : Stmt) : Bool := if h : x.ctorIdx = 3 then Stmt.Return.elim x h f else false
theorem stReturn_s {f : Option Expr → Pos → Bool} {x : Stmt} (h : stReturn f x = true) : ∃ a b, x = Stmt.Return a b ∧ f a b = true := by
  obtain ⟨hk, h⟩ := selB h
  exact Stmt.Return.elim (motive_2 := fun x => ∀ hk : x.ctorIdx = 3, Stmt.Return.elim (motive_2 := fun _ => Bool) x hk f = true → ∃ a b, x = Stmt.Return a b ∧ f a b = true) x hk (fun a b _ h => ⟨a, b, rfl, h⟩) hk h
noncomputable def stAssign (f : List Expr → Expr → Pos → Bool) (x : Stmt) : Bool := if h : x.ctorIdx = 5 then Stmt.Assign.elim x h f else false
theorem stAssign_s {f : List Expr → Expr → Pos → Bool} {x : Stmt} (h : stAssign f x = true) : ∃ a b c, x = Stmt.Assign a b c ∧ f a b c = true := by
  obtain ⟨hk, h⟩ := selB h
  exact Stmt.Assign.elim (motive_2 := fun x => ∀ hk : x.ctorIdx = 5, Stmt.Assign.elim (motive_2 := fun _ => Bool) x hk f = true → ∃ a b c, x = Stmt.Assign a b c ∧ f a b c = true) x hk (fun a b c _ h => ⟨a, b, c, rfl, h⟩) hk h
noncomputable def stAugAssign (f : Expr → Operator → Expr → Pos → Bool) (x : Stmt) : Bool := if h : x.ctorIdx = 7 then Stmt.AugAssign.elim x h f else false
theorem stAugAssign_s {f : Expr → Operator → Expr → Pos → Bool} {x : Stmt} (h : stAugAssign f x = true) : ∃ a b c d, x = Stmt.AugAssign a b c d ∧ f a b c d = true := by
  obtain ⟨hk, h⟩ := selB h
  exact Stmt.AugAssign.elim (motive_2 := fun x => ∀ hk : x.ctorIdx = 7, Stmt.AugAssign.elim (motive_2 := fun _ => Bool) x hk f = true → ∃ a b c d, x = Stmt.AugAssign a b c d ∧ f a b c d = true) x hk (fun a b c d _ h => ⟨a, b, c, d, rfl, h⟩) hk h
noncomputable def stFor (f : Expr → Expr → List Stmt → List Stmt → Pos → Bool) (x : Stmt) : Bool := if h : x.ctorIdx = 9 then Stmt.For.elim x h f else false
theorem stFor_s {f : Expr → Expr → List Stmt → List Stmt → Pos → Bool} {x : Stmt} (h : stFor f x = true) : ∃ a b c d e, x = Stmt.For a b c d e ∧ f a b c d e = true := by
  obtain ⟨hk, h⟩ := selB h
  exact Stmt.For.elim (motive_2 := fun x => ∀ hk : x.ctorIdx = 9, Stmt.For.elim (motive_2 := fun _ => Bool) x hk f = true → ∃ a b c d e, x = Stmt.For a b c d e ∧ f a b c d e = true) x hk (fun a b c d e _ h => ⟨a, b, c, d, e, rfl, h⟩) hk h
noncomputable def stWhile (f : Expr → List Stmt → List Stmt → Pos → Bool) (x : Stmt) : Bool := if h : x.ctorIdx = 11 then Stmt.While.elim x h f else false
theorem stWhile_s {f : Expr → List Stmt → List Stmt → Pos → Bool} {x : Stmt} (h : stWhile f x = true) : ∃ a b c d, x = Stmt.While a b c d ∧ f a b c d = true := by
  obtain ⟨hk, h⟩ := selB h
  exact Stmt.While.elim (motive_2 := fun x => ∀ hk : x.ctorIdx = 11, Stmt.While.elim (motive_2 := fun _ => Bool) x hk f = true → ∃ a b c d, x = Stmt.While a b c d ∧ f a b c d = true) x hk (fun a b c d _ h => ⟨a, b, c, d, rfl, h⟩) hk h
noncomputable def stIf (f : Expr → List Stmt → List Stmt → Pos → Bool) (x : Stmt) : Bool := if h : x.ctorIdx = 12 then Stmt.If.elim x h f else false
theorem stIf_s {f : Expr → List Stmt → List Stmt → Pos → Bool} {x : Stmt} (h : stIf f x = true) : ∃ a b c d, x = Stmt.If a b c d ∧ f a b c d = true := by
  obtain ⟨hk, h⟩ := selB h
  exact Stmt.If.elim (motive_2 := fun x => ∀ hk : x.ctorIdx = 12, Stmt.If.elim (motive_2 := fun _ => Bool) x hk f = true → ∃ a b c d, x = Stmt.If a b c d ∧ f a b c d = true) x hk (fun a b c d _ h => ⟨a, b, c, d, rfl, h⟩) hk h
noncomputable def stExpr (f : Expr → Pos → Bool) (x : Stmt) : Bool := if h : x.ctorIdx = 24 then Stmt.Expr.elim x h f else false
theorem stExpr_s {f : Expr → Pos → Bool} {x : Stmt} (h : stExpr f x = true) : ∃ a b, x = Stmt.Expr a b ∧ f a b = true := by
  obtain ⟨hk, h⟩ := selB h
  exact Stmt.Expr.elim (motive_2 := fun x => ∀ hk : x.ctorIdx = 24, Stmt.Expr.elim (motive_2 := fun _ => Bool) x hk f = true → ∃ a b, x = Stmt.Expr a b ∧ f a b = true) x hk (fun a b _ h => ⟨a, b, rfl, h⟩) hk h
noncomputable def stContinue (f : Pos → Bool) (x : Stmt) : Bool := if h : x.ctorIdx = 27 then Stmt.Continue.elim x h f else false
theorem stContinue_s {f : Pos → Bool} {x : Stmt} (h : stContinue f x = true) : ∃ a, x = Stmt.Continue a ∧ f a = true := by
  obtain ⟨hk, h⟩ := selB h
  exact Stmt.Continue.elim (motive_2 := fun x => ∀ hk : x.ctorIdx = 27, Stmt.Continue.elim (motive_2 := fun _ => Bool) x hk f = true → ∃ a, x = Stmt.Continue a ∧ f a = true) x hk (fun a _ h => ⟨a, rfl, h⟩) hk h
noncomputable def onInt (f : Int → Bool) (c : Const) : Bool := Const.rec false (fun _ => false) f (fun _ => false) (fun _ _ => false) (fun _ => false) (fun _ => false) false c
theorem onInt_s {f : Int → Bool} {c : Const} (h : onInt f c = true) : ∃ i, c = .int i ∧ f i = true := by
  rcases c with _ | _ | i | _ | _ | _ | _ | _
  case int => exact ⟨i, rfl, h⟩
  all_goals exact notFT h
theorem nil_s {α : Type} {l : List α} (h : l.isEmpty = true) : l = [] := List.isEmpty_iff.mp h
end Mine
end
section
open PySem PySem.W PyProof.Rows
set_option linter.unusedVariables false
namespace Mine
inductive BinI : BOp → D → D → D → Prop
  | int {op : BOp} {a b c : Int} (h : intBin op a b = some c) : BinI op (.int a) (.int b) (.int c)
  | tadd {a b : List D} (h : a.length + b.length < lim) : BinI .add (.tup a) (.tup b) (.tup (a ++ b))
  | ladd {a b : List D} (h : a.length + b.length < lim) : BinI .add (.ilst a) (.ilst b) (.ilst (a ++ b))
  | tmul {a : List D} {n : Int} (h : 0 ≤ n ∧ n < 1000 ∧ a.length = 1) : BinI .mul (.tup a) (.int n) (.tup (reps a n.toNat))
theorem binI {op : BOp} {x y z : D} (h : binD op x y = some z) : BinI op x y z := by
  rcases x with _ | _ | a | _ | a | a | _
  case int =>
    obtain ⟨b, rfl, h1⟩ := dInt_s h
    obtain ⟨c, hc, rfl⟩ := mapE h1
    exact .int hc
  case tup =>
    rcases y with _ | _ | n | _ | b | _ | _
    case int =>
      rcases op with _ | _ | _ | _ | _ | _
      case mul => obtain ⟨hc, rfl⟩ := iteS h; exact .tmul hc
      all_goals exact none_ne h
    case tup =>
      rcases op with _ | _ | _ | _ | _ | _
      case add => obtain ⟨hc, rfl⟩ := iteS h; exact .tadd hc
      all_goals exact none_ne h
    all_goals exact none_ne h
  case ilst =>
    obtain ⟨b, rfl, h1⟩ := dIls_s h
    rcases op with _ | _ | _ | _ | _ | _
    case add => obtain ⟨hc, rfl⟩ := iteS h1; exact .ladd hc
    all_goals exact none_ne h1
  all_goals exact none_ne h
inductive LstE (a b : List D) : Bool → Prop
  | same {x y : List (List Int)} (hl : a.length = b.length) (hx : keysOf a = some x) (hy : keysOf b = some y) : LstE a b (decide (x = y))
  | other (hl : ¬ a.length = b.length) : LstE a b false
inductive EqI : D → D → Bool → Prop
  | int {a b : Int} : EqI (.int a) (.int b) (decide (a = b))
  | str {a b : Str} : EqI (.str a) (.str b) (decide (a = b))
  | tup {a b : List D} {x y : List Int} (hx : D.ints a = some x) (hy : D.ints b = some y) : EqI (.tup a) (.tup b) (decide (x = y))
  | ils {a b : List D} {r : Bool} (h : LstE a b r) : EqI (.ilst a) (.ilst b) r
theorem lstE {a b : List D} {r : Bool} (h : (if a.length = b.length then (keysOf a).bind fun x => (keysOf b).map fun y => decide (x = y) else some false) = some r) : LstE a b r := by
  by_cases hl : a.length = b.length
  · obtain ⟨x, hx, h1⟩ := bindE ((if_pos hl).symm.trans h)
    obtain ⟨y, hy, rfl⟩ := mapE h1
    exact .same hl hx hy
  · obtain rfl := Option.some.inj ((if_neg hl).symm.trans h)
    exact .other hl
theorem eqI {x y : D} {b : Bool} (h : eqD x y = some b) : EqI x y b := by
  rcases x with _ | _ | a | a | a | a | _
  case int => obtain ⟨b, rfl, h1⟩ := dInt_s h; obtain rfl := Option.some.inj h1; exact .int
  case str => obtain ⟨b, rfl, h1⟩ := dStr_s h; obtain rfl := Option.some.inj h1; exact .str
  case tup =>
    obtain ⟨b, rfl, h1⟩ := dTup_s h
    obtain ⟨x, hx, h2⟩ := bindE h1
    obtain ⟨y, hy, rfl⟩ := mapE h2
    exact .tup hx hy
  case ilst => obtain ⟨b, rfl, h1⟩ := dIls_s h; exact .ils (lstE h1)
  all_goals exact none_ne h
inductive CmpI (st : St) : COp → D → D → Bool → Prop
  | eq {x y : D} {b : Bool} (h : eqD x y = some b) : CmpI st .eq x y b
  | ne {a b : Int} : CmpI st .ne (.int a) (.int b) (!decide (a = b))
  | neL {a b : List D} {r : Bool} (h : LstE a b r) : CmpI st .ne (.ilst a) (.ilst b) (!r)
  | lt {a b : Int} : CmpI st .lt (.int a) (.int b) (decide (a < b))
  | gt {a b : Int} : CmpI st .gt (.int a) (.int b) (decide (a > b))
  | gtT {a b : List D} {x y : List Int} (hx : D.ints a = some x) (hy : D.ints b = some y) : CmpI st .gt (.tup a) (.tup b) (lexGt x y)
  | ge {a b : Int} : CmpI st .ge (.int a) (.int b) (decide (a ≥ b))
  | is : CmpI st .is .none .none true
  | isT {a : List D} : CmpI st .is (.tup a) .none false
  | isnt : CmpI st .isnt .none .none false
  | isntT {a : List D} : CmpI st .isnt (.tup a) .none true
  | inn {x : D} {r : Nat} {es : List (List Int × D)} {k : List Int} (he : st[r]? = some (.dic es)) (hk : keyOf x = some k) : CmpI st .inn x (.obj r) (dget es k).isSome
  | nin {x : D} {xs : List D} {k : List Int} {ks : List (List Int)} (hk : keyOf x = some k) (hs : keysOf xs = some ks) : CmpI st .nin x (.ilst xs) (!ks.any fun x => decide (x = k))
theorem isNone_s {x : D} {b : Bool} (h : isNoneD x = some b) : (x = .none ∧ b = true) ∨ ∃ a, x = .tup a ∧ b = false := by
  rcases x with _ | _ | _ | _ | a | _ | _
  case none => exact .inl ⟨rfl, (Option.some.inj h).symm⟩
  case tup => exact .inr ⟨a, rfl, (Option.some.inj h).symm⟩
  all_goals exact none_ne h
theorem cmpI {st : St} {op : COp} {x y : D} {b : Bool} (h : cmpD st op x y = some b) : CmpI st op x y b := by
  rcases op with _ | _ | _ | _ | _ | _ | _ | _ | _
  case eq => exact .eq h
  case ne =>
    rcases x with _ | _ | a | _ | _ | a | _
    case int => obtain ⟨b, rfl, h1⟩ := dInt_s h; obtain rfl := Option.some.inj h1; exact .ne
    case ilst => obtain ⟨b, rfl, h1⟩ := dIls_s h; obtain ⟨r, hr, rfl⟩ := mapE h1; exact .neL (lstE hr)
    all_goals exact none_ne h
  case lt => obtain ⟨a, rfl, h1⟩ := dInt_s h; obtain ⟨b, rfl, h2⟩ := dInt_s h1; obtain rfl := Option.some.inj h2; exact .lt
  case ge => obtain ⟨a, rfl, h1⟩ := dInt_s h; obtain ⟨b, rfl, h2⟩ := dInt_s h1; obtain rfl := Option.some.inj h2; exact .ge
  case gt =>
    rcases x with _ | _ | a | _ | a | _ | _
    case int => obtain ⟨b, rfl, h1⟩ := dInt_s h; obtain rfl := Option.some.inj h1; exact .gt
    case tup =>
      obtain ⟨b, rfl, h1⟩ := dTup_s h
      obtain ⟨x, hx, h2⟩ := bindE h1
      obtain ⟨y, hy, rfl⟩ := mapE h2
      exact .gtT hx hy
    all_goals exact none_ne h
  case is =>
    obtain ⟨rfl, h1⟩ := dNone_s h
    rcases isNone_s h1 with ⟨rfl, rfl⟩ | ⟨a, rfl, rfl⟩
    · exact .is
    · exact .isT
  case isnt =>
    obtain ⟨rfl, h1⟩ := dNone_s h
    obtain ⟨c, hc, rfl⟩ := mapE h1
    rcases isNone_s hc with ⟨rfl, rfl⟩ | ⟨a, rfl, rfl⟩
    · exact .isnt
    · exact .isntT
  case inn =>
    obtain ⟨r, rfl, h1⟩ := dObj_s h
    obtain ⟨es, he, h2⟩ := cDic_s h1
    obtain ⟨k, hk, rfl⟩ := mapE h2
    exact .inn he hk
  case nin =>
    obtain ⟨xs, rfl, h1⟩ := dIls_s h
    obtain ⟨k, hk, h2⟩ := bindE h1
    obtain ⟨ks, hs, rfl⟩ := mapE h2
    exact .nin hk hs
inductive SubI (st : St) : D → D → D → Prop
  | tup {xs : List D} {i : Int} {z : D} (hi : 0 ≤ i ∧ i < 1024) (h : xs[i.toNat]? = some z) : SubI st (.tup xs) (.int i) z
  | ils {xs : List D} {i : Int} {z : D} (hi : 0 ≤ i ∧ i < 1024) (h : xs[i.toNat]? = some z) : SubI st (.ilst xs) (.int i) z
  | lst {r : Nat} {xs : List D} {i : Int} {z : D} (he : st[r]? = some (.lst xs)) (hi : 0 ≤ i ∧ i < 1024) (h : xs[i.toNat]? = some z) : SubI st (.obj r) (.int i) z
  | dic {r : Nat} {es : List (List Int × D)} {y z : D} {k : List Int} (he : st[r]? = some (.dic es)) (hk : keyOf y = some k) (h : dget es k = some z) : SubI st (.obj r) y z
theorem subI {st : St} {x y z : D} (h : subD st x y = some z) : SubI st x y z := by
  rcases x with _ | _ | _ | _ | xs | xs | r
  case tup => obtain ⟨i, rfl, h1⟩ := dInt_s h; exact .tup (iteO h1).1 (iteO h1).2
  case ilst => obtain ⟨i, rfl, h1⟩ := dInt_s h; exact .ils (iteO h1).1 (iteO h1).2
  case obj =>
    rcases cTwo_s (f := subL y) (g := subC y) h with ⟨xs, he, h1⟩ | ⟨es, he, h1⟩
    · obtain ⟨i, rfl, h2⟩ := dInt_s h1; exact .lst he (iteO h2).1 (iteO h2).2
    · obtain ⟨k, hk, h2⟩ := bindE h1; exact .dic he hk h2
  all_goals exact none_ne h
inductive SetI (fz : List Nat) (st : St) : D → D → D → St → Prop
  | lst {r : Nat} {xs : List D} {i : Int} {v : D} (hr : r ∉ fz) (he : st[r]? = some (.lst xs)) (hi : 0 ≤ i ∧ i < 1024 ∧ i.toNat < xs.length) : SetI fz st (.obj r) (.int i) v (st.set r (.lst (xs.set i.toNat v)))
  | dic {r : Nat} {es : List (List Int × D)} {y v : D} {k : List Int} (hr : r ∉ fz) (he : st[r]? = some (.dic es)) (hk : keyOf y = some k) (hl : es.length < lim) : SetI fz st (.obj r) y v (st.set r (.dic (dput es k v)))
theorem setI {fz : List Nat} {st st' : St} {x k v : D} (h : setItemD fz st x k v = some st') : SetI fz st x k v st' := by
  obtain ⟨r, rfl, h1⟩ := dObj_s (f := setR fz st k v) h
  obtain ⟨hr, h2⟩ := iteN h1
  rcases cTwo_s (f := setL' st r k v) (g := setC st r k v) h2 with ⟨xs, he, h3⟩ | ⟨es, he, h3⟩
  · obtain ⟨i, rfl, h4⟩ := dInt_s h3
    obtain ⟨hi, rfl⟩ := iteS h4
    exact .lst hr he hi
  · obtain ⟨k, hk, h4⟩ := bindE h3
    obtain ⟨hl, rfl⟩ := iteS h4
    exact .dic hr he hk hl
inductive MetI (fz : List Nat) (st : St) : Meth → D → List D → D → St → Prop
  | app {r : Nat} {x : D} {xs : List D} (hr : r ∉ fz) (he : st[r]? = some (.lst xs)) (hl : xs.length < lim) : MetI fz st .append (.obj r) [x] .none (st.set r (.lst (xs ++ [x])))
  | pop {r : Nat} {k z : D} {more : List D} {es : List (List Int × D)} {k' : List Int} {st' : St} (hr : r ∉ fz) (he : st[r]? = some (.dic es)) (hl : ¬ lim ≤ es.length) (hk : keyOf k = some k') (h : popD r st es k' more = some (z, st')) : MetI fz st .pop (.obj r) (k :: more) z st'
  | get {r : Nat} {k x : D} {es : List (List Int × D)} {k' : List Int} (he : st[r]? = some (.dic es)) (hk : keyOf k = some k') : MetI fz st .get (.obj r) [k, x] ((dget es k').getD x) st
theorem metI {fz : List Nat} {st st' : St} {m : Meth} {o z : D} {ds : List D} (h : methD fz m o ds st = some (z, st')) : MetI fz st m o ds z st' := by
  rcases m with _ | _ | _
  · obtain ⟨r, rfl, h1⟩ := dObj_s (f := appM fz st ds) h
    obtain ⟨x, rfl, h2⟩ := lOne_s (f := appR fz st r) h1
    obtain ⟨hr, h3⟩ := iteN h2
    obtain ⟨xs, he, h4⟩ := cLst_s (f := appC st r x) h3
    obtain ⟨hl, rfl, rfl⟩ := iteP h4
    exact .app hr he hl
  · obtain ⟨r, rfl, h1⟩ := dObj_s (f := popM fz st ds) h
    obtain ⟨k, more, rfl, h2⟩ := lCon_s (f := popR fz st r) h1
    obtain ⟨hr, h3⟩ := iteN h2
    obtain ⟨es, he, h4⟩ := cDic_s (f := popC st r k more) h3
    obtain ⟨hl, h5⟩ := iteN h4
    obtain ⟨k', hk, h6⟩ := bindE h5
    exact .pop hr he hl hk h6
  · obtain ⟨r, rfl, h1⟩ := dObj_s (f := getM st ds) h
    obtain ⟨k, more, rfl, h2⟩ := lCon_s (f := fun k => lOne (getR st r k)) h1
    obtain ⟨x, rfl, h3⟩ := lOne_s (f := getR st r k) h2
    obtain ⟨es, he, h4⟩ := cDic_s (f := getC st k x) h3
    obtain ⟨k', hk, h5⟩ := mapE h4
    obtain ⟨rfl, rfl⟩ := Prod.mk.inj h5
    exact .get he hk
theorem popO_s {r : Nat} {st st' : St} {es : List (List Int × D)} {k : List Int} {more : List D} {o : Option D} {z : D} (h : popO r st es k more o = some (z, st')) :
    (∃ x, o = none ∧ more = [x] ∧ x = z ∧ st = st') ∨ (o = some z ∧ st.set r (.dic (ddel es k)) = st' ∧ (more = [] ∨ ∃ y, more = [y])) := by
  rcases o with _ | v
  · obtain ⟨x, rfl, h1⟩ := lOne_s (f := fun x => some (x, st)) h
    exact .inl ⟨x, rfl, rfl, someP h1⟩
  · rcases more with _ | ⟨y, _ | _⟩
    · obtain ⟨rfl, rfl⟩ := someP h; exact .inr ⟨rfl, rfl, .inl rfl⟩
    · obtain ⟨rfl, rfl⟩ := someP h; exact .inr ⟨rfl, rfl, .inr ⟨y, rfl⟩⟩
    · exact none_ne h
inductive IteI (st : St) : SK → D → List D → Prop
  | tup {xs : List D} : IteI st .plain (.tup xs) xs
  | ils {xs : List D} : IteI st .plain (.ilst xs) xs
  | lst {r : Nat} {xs : List D} (he : st[r]? = some (.lst xs)) : IteI st .plain (.obj r) xs
  | dic {r : Nat} {es : List (List Int × D)} (he : st[r]? = some (.dic es)) : IteI st .plain (.obj r) (es.map fun e => pw e.1)
  | range {n : Int} (hn : 0 ≤ n ∧ n ≤ 10000) : IteI st .range (.int n) ((List.range n.toNat).map fun i => .int (i : Nat))
  | etup {xs : List D} : IteI st .enum (.tup xs) (enumFrom 0 xs)
  | eils {xs : List D} : IteI st .enum (.ilst xs) (enumFrom 0 xs)
theorem iteI {st : St} {k : SK} {d : D} {its : List D} (h : items k d st = some its) : IteI st k d its := by
  rcases k with _ | _ | _
  · rcases d with _ | _ | _ | _ | xs | xs | r
    case tup => obtain rfl := Option.some.inj h; exact .tup
    case ilst => obtain rfl := Option.some.inj h; exact .ils
    case obj =>
      rcases cTwo_s (f := some) (g := itsD) h with ⟨xs, he, h1⟩ | ⟨es, he, h1⟩
      · obtain rfl := Option.some.inj h1; exact .lst he
      · obtain rfl := Option.some.inj h1; exact .dic he
    all_goals exact none_ne h
  · obtain ⟨n, rfl, h1⟩ := dInt_s h
    obtain ⟨hn, rfl⟩ := iteS h1
    exact .range hn
  · rcases d with _ | _ | _ | _ | xs | xs | r
    case tup => obtain rfl := Option.some.inj h; exact .etup
    case ilst => obtain rfl := Option.some.inj h; exact .eils
    all_goals exact none_ne h
inductive LenI (st : St) : D → Int → Prop
  | tup {xs : List D} (hl : xs.length < lim) : LenI st (.tup xs) xs.length
  | ils {xs : List D} (hl : xs.length < lim) : LenI st (.ilst xs) xs.length
  | lst {r : Nat} {xs : List D} (he : st[r]? = some (.lst xs)) (hl : xs.length < lim) : LenI st (.obj r) xs.length
  | dic {r : Nat} {es : List (List Int × D)} (he : st[r]? = some (.dic es)) (hl : es.length < lim) : LenI st (.obj r) es.length
inductive BI (st : St) : Blt → List D → D → St → Prop
  | len {d : D} {m : Int} (h : LenI st d m) : BI st .len [d] (.int m) st
  | abs {i : Int} : BI st .abs [.int i] (.int (if i < 0 then -i else i)) st
  | sum {d : D} {xs : List D} {ns : List Int} (hxs : seqD d = some xs) (hns : D.ints xs = some ns) : BI st .sum [d] (.int ns.sum) st
  | max1 {d : D} {xs : List D} {ns : List Int} {m : Int} (hxs : seqD d = some xs) (hns : D.ints xs = some ns) (hm : maxInts ns = some m) : BI st .max [d] (.int m) st
  | max2 {i j : Int} : BI st .max [.int i, .int j] (.int (if j > i then j else i)) st
  | any {xs : List D} {bs : List Bool} (hbs : D.bools xs = some bs) : BI st .any [.ilst xs] (.bool (bs.any id)) st
  | tuple {xs : List D} (hl : xs.length < lim) : BI st .tuple [.ilst xs] (.tup xs) st
  | dict {r : Nat} {es : List (List Int × D)} (he : st[r]? = some (.dic es)) (hl : es.length < lim) (hn : (es.map fun e => hsh e.1).Nodup) : BI st .dict [.obj r] (newObj' (.dic es) st).1 (newObj' (.dic es) st).2
  | int {i : Int} : BI st .int [.int i] (.int i) st
theorem lenI {st st' : St} {d z : D} (h : bLen st d = some (z, st')) : BI st .len [d] z st' := by
  rcases d with _ | _ | _ | _ | xs | xs | r
  case tup => obtain ⟨hl, rfl, rfl⟩ := iteP h; exact .len (.tup hl)
  case ilst => obtain ⟨hl, rfl, rfl⟩ := iteP h; exact .len (.ils hl)
  case obj =>
    rcases cTwo_s (f := bLenS st) (g := bLenS st) h with ⟨xs, he, h1⟩ | ⟨es, he, h1⟩
    · obtain ⟨hl, rfl, rfl⟩ := iteP h1; exact .len (.lst he hl)
    · obtain ⟨hl, rfl, rfl⟩ := iteP h1; exact .len (.dic he hl)
  all_goals exact none_ne h
theorem bi_of {b : Blt} {ds : List D} {st : St} {z : D} {st' : St} (h : bltD b ds st = some (z, st')) : BI st b ds z st' := by
  rcases b with _ | _ | _ | _ | _ | _ | _ | _
  · obtain ⟨d, rfl, h1⟩ := lOne_s (f := bLen st) h; exact lenI h1
  · obtain ⟨d, rfl, h1⟩ := lOne_s (f := bAbsD st) h
    obtain ⟨i, rfl, h2⟩ := dInt_s h1
    obtain ⟨rfl, rfl⟩ := someP h2; exact .abs
  · obtain ⟨d, rfl, h1⟩ := lOne_s (f := bSumD st) h
    obtain ⟨xs, hx, h2⟩ := bindE h1
    obtain ⟨ns, hn, h3⟩ := bindE h2
    obtain ⟨_, rfl, rfl⟩ := iteP h3; exact .sum hx hn
  · rcases ds with _ | ⟨d, _ | ⟨e, _ | _⟩⟩
    · exact none_ne h
    · obtain ⟨xs, hx, h2⟩ := bindE (show bMax1 st d = _ from h)
      obtain ⟨ns, hn, h3⟩ := bindE h2
      obtain ⟨m, hm, h4⟩ := mapE h3
      obtain ⟨rfl, rfl⟩ := Prod.mk.inj h4; exact .max1 hx hn hm
    · obtain ⟨i, rfl, h2⟩ := dInt_s (show bMax2 st d e = _ from h)
      obtain ⟨j, rfl, h3⟩ := dInt_s h2
      obtain ⟨rfl, rfl⟩ := someP h3; exact .max2
    · exact none_ne h
  · obtain ⟨d, rfl, h1⟩ := lOne_s (f := bAnyD st) h
    obtain ⟨xs, rfl, h2⟩ := dIls_s h1
    obtain ⟨bs, hb, h3⟩ := mapE h2
    obtain ⟨rfl, rfl⟩ := Prod.mk.inj h3; exact .any hb
  · obtain ⟨d, rfl, h1⟩ := lOne_s (f := bTupD st) h
    obtain ⟨xs, rfl, h2⟩ := dIls_s h1
    obtain ⟨hl, rfl, rfl⟩ := iteP h2; exact .tuple hl
  · obtain ⟨d, rfl, h1⟩ := lOne_s (f := bDicD st) h
    obtain ⟨r, rfl, h2⟩ := dObj_s h1
    obtain ⟨es, he, h3⟩ := cDic_s (f := bDicC st) h2
    obtain ⟨hl, h4⟩ := iteS h3
    obtain ⟨rfl, rfl⟩ := Prod.mk.inj h4; exact .dict he hl.1 hl.2
  · obtain ⟨d, rfl, h1⟩ := lOne_s (f := bIntD st) h
    obtain ⟨i, rfl, h2⟩ := dInt_s h1
    obtain ⟨rfl, rfl⟩ := someP h2; exact .int
end Mine
end
section
open PySem PySem.W PyProof.Rows
namespace Mine

variable {prog : Program} {w : World}
noncomputable abbrev ik (prog : Program) (w : World) : KeyKind prog w Int := intKind prog w
noncomputable abbrev tk (prog : Program) (w : World) : HeapKind prog w (List Int) := tupleKind (intKind prog w)

/-- addresses of the mutable containers, and addresses that no value may hold -/
structure Mu where
  l : List Addr
  z : List Addr
/-- an address that a relation keeps apart -/
noncomputable def Mu.Has (μ : Mu) (a : Addr) : Prop := a ∈ μ.l ∨ a ∈ μ.z
theorem Mu.mem {μ : Mu} {r : Nat} {a : Addr} (h : μ.l[r]? = some a) : μ.Has a := Or.inl (List.mem_of_getElem? h)
theorem Mu.memL {μ : Mu} {a : Addr} (h : a ∈ μ.l) : μ.Has a := Or.inl h
theorem Mu.memZ {μ : Mu} {a : Addr} (h : a ∈ μ.z) : μ.Has a := Or.inr h

mutual
noncomputable def VR (μ : Mu) (h : Heap) : D → Value → Prop
  | .none, v => v = .none
  | .bool b, v => v = .bool b
  | .int i, v => ∃ t, v = .int i t
  | .str x, v => ∃ t, v = .str x t
  | .tup xs, v => ∃ a vs, v = .ref a ∧ ¬ μ.Has a ∧ h.IsTuple a (List.toArray vs) ∧ VRs μ h xs vs
  | .ilst xs, v => ∃ a vs, v = .ref a ∧ ¬ μ.Has a ∧ h.IsList a (List.toArray vs) ∧ VRs μ h xs vs
  | .obj r, v => ∃ a, v = .ref a ∧ μ.l[r]? = some a
noncomputable def VRs (μ : Mu) (h : Heap) : List D → List Value → Prop
  | [], vs => vs = []
  | x :: xs, vs => ∃ v r, vs = v :: r ∧ VR μ h x v ∧ VRs μ h xs r
end

/-- one step of the world: what may have changed -/
structure Stp (W : Addr → Prop) (fz : List Nat) (μ : Mu) (s : Shared) (μ' : Mu) (s' : Shared) : Prop where
  pre : μ.l <+: μ'.l
  fresh : ∀ a, μ'.Has a → μ.Has a ∨ s.heap.get? a = none
  keep : ∀ b o, s.heap.get? b = some o → ¬ μ.Has b → ¬ W b → s'.heap.get? b = some o
  live : ∀ b o, s.heap.get? b = some o → ∃ o', s'.heap.get? b = some o'
  frz : ∀ r ∈ fz, ∀ a, μ.l[r]? = some a → s'.heap.get? a = s.heap.get? a
  zeq : μ'.z = μ.z
  zk : ∀ a ∈ μ.z, ¬ W a → s'.heap.get? a = s.heap.get? a
  gens : s'.gens = s.gens
  os : s'.os = s.os

noncomputable abbrev NoW : Addr → Prop := fun _ => False

theorem pre_get {α : Type} {l l' : List α} (h : l <+: l') {r : Nat} {a : α} (e : l[r]? = some a) : l'[r]? = some a := by
  obtain ⟨t, rfl⟩ := h
  have := (List.getElem?_eq_some_iff.mp e).1
  rw [List.getElem?_append_left this]; exact e

theorem Stp.refl {W : Addr → Prop} {fz : List Nat} {μ : Mu} {s : Shared} : Stp W fz μ s μ s :=
  ⟨List.prefix_refl _, fun _ h => .inl h, fun _ _ e _ _ => e, fun _ o e => ⟨o, e⟩, fun _ _ _ _ => rfl, rfl, fun _ _ _ => rfl, rfl, rfl⟩

theorem Stp.trans {W : Addr → Prop} {fz : List Nat} {μ μ₁ μ₂ : Mu} {s s₁ s₂ : Shared} (a : Stp W fz μ s μ₁ s₁) (b : Stp W fz μ₁ s₁ μ₂ s₂) : Stp W fz μ s μ₂ s₂ where
  pre := a.pre.trans b.pre
  fresh := fun x hx => by
    rcases b.fresh x hx with h | h
    · exact a.fresh x h
    · refine .inr ?_
      cases e : s.heap.get? x with
      | none => rfl
      | some o => obtain ⟨o', e'⟩ := a.live x o e; rw [h] at e'; exact none_ne e'
  keep := fun x o e hx hw => by
    refine b.keep x o (a.keep x o e hx hw) (fun q => ?_) hw
    rcases a.fresh x q with h | h
    · exact hx h
    · rw [e] at h; cases h
  live := fun x o e => by obtain ⟨o', e'⟩ := a.live x o e; exact b.live x o' e'
  frz := fun r hr x e => (b.frz r hr x (pre_get a.pre e)).trans (a.frz r hr x e)
  zeq := b.zeq.trans a.zeq
  zk := fun x hx hw => (b.zk x (by rw [a.zeq]; exact hx) hw).trans (a.zk x hx hw)
  gens := b.gens.trans a.gens
  os := b.os.trans a.os

theorem Stp.weaken {W W' : Addr → Prop} {fz fz' : List Nat} {μ μ₁ : Mu} {s s₁ : Shared} (a : Stp W fz μ s μ₁ s₁) (hW : ∀ b, W b → W' b) (hf : ∀ r ∈ fz', r ∈ fz) : Stp W' fz' μ s μ₁ s₁ :=
  ⟨a.pre, a.fresh, fun b o e hx hw => a.keep b o e hx fun q => hw (hW b q), a.live, fun r hr => a.frz r (hf r hr), a.zeq, fun x hx hw => a.zk x hx fun q => hw (hW x q), a.gens, a.os⟩
theorem Stp.up {W : Addr → Prop} {fz : List Nat} {μ μ₁ : Mu} {s s₁ : Shared} (a : Stp NoW fz μ s μ₁ s₁) : Stp W fz μ s μ₁ s₁ := a.weaken (fun _ h => h.elim) fun _ h => h

/-- nothing old changed at all -/
theorem Stp.ofKeep {W : Addr → Prop} {fz : List Nat} {μ : Mu} {s s' : Shared} (hk : ∀ b o, s.heap.get? b = some o → s'.heap.get? b = some o) (hm : ∀ a, μ.Has a → ∃ o, s.heap.get? a = some o)
    (hg : s'.gens = s.gens := by rfl) (ho : s'.os = s.os := by rfl) : Stp W fz μ s μ s' where
  pre := List.prefix_refl _
  fresh := fun _ h => .inl h
  keep := fun b o e _ _ => hk b o e
  live := fun b o e => ⟨o, hk b o e⟩
  frz := fun r _ a e => by
    obtain ⟨o, ho⟩ := hm a (Mu.mem e)
    rw [ho, hk a o ho]
  zeq := rfl
  zk := fun a ha _ => by
    obtain ⟨o, ho⟩ := hm a (Mu.memZ ha)
    rw [ho, hk a o ho]
  gens := hg
  os := ho

/-- all but the objects at W kept (W no mutable container) -/
theorem Stp.ofBut {W : Addr → Prop} {fz : List Nat} {μ : Mu} {s s' : Shared} (hk : ∀ b o, s.heap.get? b = some o → ¬ W b → s'.heap.get? b = some o) (hm : ∀ a, μ.Has a → (∃ o, s.heap.get? a = some o) ∧ ¬ W a)
    (hl : ∀ b o, s.heap.get? b = some o → ∃ o', s'.heap.get? b = some o')
    (hg : s'.gens = s.gens := by rfl) (ho : s'.os = s.os := by rfl) : Stp W fz μ s μ s' where
  pre := List.prefix_refl _
  fresh := fun _ h => .inl h
  keep := fun b o e _ hw => hk b o e hw
  live := hl
  frz := fun r _ a e => by
    obtain ⟨⟨o, ho⟩, hw⟩ := hm a (Mu.mem e)
    rw [ho, hk a o ho hw]
  zeq := rfl
  zk := fun a ha _ => by
    obtain ⟨⟨o, ho⟩, hw⟩ := hm a (Mu.memZ ha)
    rw [ho, hk a o ho hw]
  gens := hg
  os := ho

noncomputable def isSeq (o : Obj) : Prop := ∃ xs n, o.data = .seq xs n
theorem isTuple_seq {h : Heap} {a : Addr} {xs : Array Value} (t : h.IsTuple a xs) : ∃ o, h.get? a = some o ∧ isSeq o := let ⟨o, ho, _, n, hd⟩ := t; ⟨o, ho, xs, n, hd⟩
theorem isList_seq {h : Heap} {a : Addr} {xs : Array Value} (t : h.IsList a xs) : ∃ o, h.get? a = some o ∧ isSeq o := let ⟨o, ho, _, n, hd⟩ := t; ⟨o, ho, xs, n, hd⟩

mutual
theorem VR.mono {μ μ' : Mu} {h h' : Heap} (hp : μ.l <+: μ'.l) (hf : ∀ a, μ'.Has a → μ.Has a ∨ h.get? a = none) (hk : ∀ b o, h.get? b = some o → isSeq o → ¬ μ.Has b → h'.get? b = some o) :
    ∀ {d : D} {v : Value}, VR μ h d v → VR μ' h' d v
  | .none, _, e => e
  | .bool _, _, e => e
  | .int _, _, e => e
  | .str _, _, e => e
  | .tup xs, v, e => by
    unfold VR at e ⊢
    obtain ⟨a, vs, e1, e2, e3, e4⟩ := e
    obtain ⟨o, ho, hs⟩ := isTuple_seq e3
    refine ⟨a, vs, e1, fun q => ?_, e3.at fun o' ho' => ?_, VRs.mono hp hf hk e4⟩
    · rcases hf a q with q | q
      · exact e2 q
      · rw [ho] at q; cases q
    · rw [ho] at ho'; obtain rfl := Option.some.inj ho'; exact hk a o ho hs e2
  | .ilst xs, v, e => by
    unfold VR at e ⊢
    obtain ⟨a, vs, e1, e2, e3, e4⟩ := e
    obtain ⟨o, ho, hs⟩ := isList_seq e3
    refine ⟨a, vs, e1, fun q => ?_, e3.at fun o' ho' => ?_, VRs.mono hp hf hk e4⟩
    · rcases hf a q with q | q
      · exact e2 q
      · rw [ho] at q; cases q
    · rw [ho] at ho'; obtain rfl := Option.some.inj ho'; exact hk a o ho hs e2
  | .obj r, v, e => by
    unfold VR at e ⊢
    obtain ⟨a, e1, e2⟩ := e
    exact ⟨a, e1, pre_get hp e2⟩
theorem VRs.mono {μ μ' : Mu} {h h' : Heap} (hp : μ.l <+: μ'.l) (hf : ∀ a, μ'.Has a → μ.Has a ∨ h.get? a = none) (hk : ∀ b o, h.get? b = some o → isSeq o → ¬ μ.Has b → h'.get? b = some o) :
    ∀ {ds : List D} {vs : List Value}, VRs μ h ds vs → VRs μ' h' ds vs
  | [], _, e => e
  | x :: xs, vs, e => by
    unfold VRs at e ⊢
    obtain ⟨v, r, e1, e2, e3⟩ := e
    exact ⟨v, r, e1, VR.mono hp hf hk e2, VRs.mono hp hf hk e3⟩
end

theorem VR.stp {W : Addr → Prop} {fz : List Nat} {μ μ' : Mu} {s s' : Shared} (T : Stp W fz μ s μ' s') (hW : ∀ b o, W b → s.heap.get? b = some o → ¬ isSeq o) {d : D} {v : Value} (e : VR μ s.heap d v) : VR μ' s'.heap d v :=
  e.mono T.pre T.fresh fun b o ho hs hb => T.keep b o ho hb fun q => hW b o q ho hs
theorem VRs.stp {W : Addr → Prop} {fz : List Nat} {μ μ' : Mu} {s s' : Shared} (T : Stp W fz μ s μ' s') (hW : ∀ b o, W b → s.heap.get? b = some o → ¬ isSeq o) {d : List D} {v : List Value} (e : VRs μ s.heap d v) : VRs μ' s'.heap d v :=
  e.mono T.pre T.fresh fun b o ho hs hb => T.keep b o ho hb fun q => hW b o q ho hs
theorem VR.stp0 {fz : List Nat} {μ μ' : Mu} {s s' : Shared} (T : Stp NoW fz μ s μ' s') {d : D} {v : Value} (e : VR μ s.heap d v) : VR μ' s'.heap d v := e.stp T fun _ _ h => h.elim
theorem VRs.stp0 {fz : List Nat} {μ μ' : Mu} {s s' : Shared} (T : Stp NoW fz μ s μ' s') {d : List D} {v : List Value} (e : VRs μ s.heap d v) : VRs μ' s'.heap d v := e.stp T fun _ _ h => h.elim

noncomputable def ERs (μ : Mu) (h : Heap) : List (List Int × D) → List (List Int × Addr × Value) → Prop
  | [], kvs => kvs = []
  | (k, d) :: es, kvs => ∃ a v r, kvs = (k, a, v) :: r ∧ VR μ h d v ∧ ERs μ h es r

theorem ERs.mono {μ μ' : Mu} {h h' : Heap} (hp : μ.l <+: μ'.l) (hf : ∀ a, μ'.Has a → μ.Has a ∨ h.get? a = none) (hk : ∀ b o, h.get? b = some o → isSeq o → ¬ μ.Has b → h'.get? b = some o) :
    ∀ {es : List (List Int × D)} {kvs : List (List Int × Addr × Value)}, ERs μ h es kvs → ERs μ' h' es kvs
  | [], _, e => e
  | (k, d) :: es, kvs, e => by
    unfold ERs at e ⊢
    obtain ⟨a, v, r, e1, e2, e3⟩ := e
    exact ⟨a, v, r, e1, e2.mono hp hf hk, e3.mono hp hf hk⟩

noncomputable def CR (prog : Program) (w : World) (μ : Mu) (h : Heap) (a : Addr) : Cont → Prop
  | .lst xs => ∃ vs n, h.get? a = some ⟨.type "list", none, .seq (List.toArray vs) n, #[]⟩ ∧ VRs μ h xs vs
  | .dic es => ∃ kvs, h.DictOfH (tk prog w) a kvs ∧ (∀ x ∈ kvs, ¬ μ.Has x.2.1) ∧ ERs μ h es kvs

structure SI (prog : Program) (w : World) (base : Heap) (μ : Mu) (st : St) (h : Heap) : Prop where
  keep : ∀ b o, base.get? b = some o → h.get? b = some o
  len : μ.l.length = st.length
  nodup : μ.l.Nodup
  above : ∀ a, μ.Has a → base.get? a = none
  big : ∀ a, μ.Has a → 1 < a
  zlive : ∀ a ∈ μ.z, ∃ o, h.get? a = some o
  apart : ∀ a ∈ μ.z, a ∉ μ.l
  cont : ∀ (r : Nat) (a : Addr) (c : Cont), μ.l[r]? = some a → st[r]? = some c → CR prog w μ h a c

theorem isTupleKey_tuple {h : Heap} {ks : List Int} {a : Addr} (x : IsTupleKey (ik prog w) h ks a) : ∃ o, h.get? a = some o ∧ isSeq o := let ⟨o, items, n, ho, _, hd, _⟩ := x; ⟨o, ho, items, n, hd⟩
theorem IsTupleKey.at' {h h' : Heap} {ks : List Int} {a : Addr} (x : IsTupleKey (ik prog w) h ks a) (e : ∀ o, h.get? a = some o → h'.get? a = some o) : IsTupleKey (ik prog w) h' ks a :=
  let ⟨o, items, n, ho, r⟩ := x; ⟨o, items, n, e o ho, r⟩

theorem CR.alive {μ : Mu} {h : Heap} {a : Addr} {c : Cont} (x : CR prog w μ h a c) : ∃ o, h.get? a = some o := by
  cases c with
  | lst xs => obtain ⟨vs, n, e, _⟩ := x; exact ⟨_, e⟩
  | dic es => obtain ⟨kvs, ⟨o, _, _, e, _⟩, _⟩ := x; exact ⟨_, e⟩

theorem SI.get {base : Heap} {μ : Mu} {st : St} {h : Heap} (I : SI prog w base μ st h) {r : Nat} {c : Cont} (e : st[r]? = some c) : ∃ a, μ.l[r]? = some a := by
  have := (List.getElem?_eq_some_iff.mp e).1
  rw [← I.len] at this
  exact ⟨μ.l[r], List.getElem?_eq_some_iff.mpr ⟨this, rfl⟩⟩
theorem SI.alive {base : Heap} {μ : Mu} {st : St} {h : Heap} (I : SI prog w base μ st h) : ∀ a, μ.Has a → ∃ o, h.get? a = some o := fun a ha => by
  refine ha.elim (fun ha => ?_) fun ha => I.zlive a ha
  obtain ⟨r, hr⟩ := List.mem_iff_getElem?.mp ha
  have hl := (List.getElem?_eq_some_iff.mp hr).1
  rw [I.len] at hl
  exact (I.cont r a st[r] hr (List.getElem?_eq_some_iff.mpr ⟨hl, rfl⟩)).alive

theorem CR.mono {μ μ' : Mu} {h h' : Heap} {a : Addr} {c : Cont} (hp : μ.l <+: μ'.l) (hf : ∀ a, μ'.Has a → μ.Has a ∨ h.get? a = none) (hk : ∀ b o, h.get? b = some o → isSeq o → ¬ μ.Has b → h'.get? b = some o)
    (ha : h'.get? a = h.get? a) (x : CR prog w μ h a c) : CR prog w μ' h' a c := by
  cases c with
  | lst xs => obtain ⟨vs, n, e, r⟩ := x; exact ⟨vs, n, ha.trans e, r.mono hp hf hk⟩
  | dic es =>
    obtain ⟨kvs, ⟨o, ess, ep, e, hx, hd, he, hkk, hn⟩, hm, r⟩ := x
    refine ⟨kvs, ⟨o, ess, ep, ha.trans e, hx, hd, he, fun y hy => ?_, hn⟩, fun y hy q => ?_, r.mono hp hf hk⟩
    · obtain ⟨o', ho', hs'⟩ := isTupleKey_tuple (hkk y hy)
      exact IsTupleKey.at' (hkk y hy) fun o2 h2 => by rw [ho'] at h2; obtain rfl := Option.some.inj h2; exact hk _ _ ho' hs' (hm y hy)
    · obtain ⟨o', ho', hs'⟩ := isTupleKey_tuple (hkk y hy)
      rcases hf _ q with q | q
      · exact hm y hy q
      · rw [ho'] at q; cases q

/-- nothing mutable changed, nothing made -/
theorem SI.mono {base : Heap} {μ : Mu} {st : St} {h h' : Heap} (I : SI prog w base μ st h) (hb : ∀ b o, base.get? b = some o → h'.get? b = some o)
    (hk : ∀ b o, h.get? b = some o → isSeq o → ¬ μ.Has b → h'.get? b = some o) (hm : ∀ a, μ.Has a → h'.get? a = h.get? a) : SI prog w base μ st h' :=
  ⟨hb, I.len, I.nodup, I.above, I.big, fun a ha => by obtain ⟨o, ho⟩ := I.zlive a ha; exact ⟨o, (hm a (Mu.memZ ha)).trans ho⟩, I.apart, fun r a c e1 e2 => (I.cont r a c e1 e2).mono (List.prefix_refl _) (fun _ h => .inl h) hk (hm a (Mu.mem e1))⟩
theorem SI.keeps {base : Heap} {μ : Mu} {st : St} {h h' : Heap} (I : SI prog w base μ st h) (hk : ∀ b o, h.get? b = some o → h'.get? b = some o) : SI prog w base μ st h' :=
  I.mono (fun b o e => hk b o (I.keep b o e)) (fun b o e _ _ => hk b o e) fun a ha => by obtain ⟨o, ho⟩ := I.alive a ha; rw [ho, hk a o ho]
end Mine
end
section
open PySem PySem.W PyProof.Rows
namespace Mine
variable {prog : Program} {w : World} {A : Around} {E' : Value → Shared → Prop} {s : Shared} {base : Heap} {μ : Mu} {st : St} {fz : List Nat}

inductive PE (prog : Program) (w : World) (base : Heap) (μ : Mu) (fz : List Nat) (s : Shared) (st' : St) (d : D) (v : Value) (s' : Shared) : Prop
  | mk (μ' : Mu) (T : Stp NoW fz μ s μ' s') (I : SI prog w base μ' st' s'.heap) (V : VR μ' s'.heap d v) : PE prog w base μ fz s st' d v s'

theorem PE.same {d : D} {v : Value} {tk : Nat} (I : SI prog w base μ st s.heap) (x : VR μ s.heap d v) : PE prog w base μ fz s st d v { s with toks := tk } :=
  ⟨μ, Stp.ofKeep (fun _ _ e => e) I.alive, I, x⟩
theorem PE.keeps {d : D} {v : Value} {h' : Heap} {tk : Nat} (I : SI prog w base μ st s.heap) (hk : ∀ b o, s.heap.get? b = some o → h'.get? b = some o)
    (x : VR μ h' d v) : PE prog w base μ fz s st d v { s with heap := h', toks := tk } :=
  ⟨μ, Stp.ofKeep hk I.alive, I.keeps hk, x⟩
theorem PE.here {d : D} {v : Value} (I : SI prog w base μ st s.heap) (x : VR μ s.heap d v) : PE prog w base μ fz s st d v s :=
  ⟨μ, Stp.refl, I, x⟩

theorem size_notMem (I : SI prog w base μ st s.heap) : ¬ μ.Has s.heap.objs.size := fun h => by
  obtain ⟨o, ho⟩ := I.alive _ h
  exact Nat.lt_irrefl _ (Heap.lt_size ho)
theorem fresh_none {h : Heap} {a : Addr} (ha : h.objs.size ≤ a) : h.get? a = none := by
  cases e : h.get? a with
  | none => rfl
  | some o => exact absurd (Heap.lt_size e) (Nat.not_lt.mpr ha)
theorem push_keeps {h : Heap} {o : Obj} : ∀ b x, h.get? b = some x → (h.push o).get? b = some x := fun _ _ e => Heap.get?_push_of_some o e

theorem VR.keeps {h h' : Heap} {d : D} {v : Value} (x : VR μ h d v) (hk : ∀ b o, h.get? b = some o → h'.get? b = some o) : VR μ h' d v :=
  x.mono (List.prefix_refl _) (fun _ h => .inl h) fun b o e _ _ => hk b o e
theorem VRs.keeps {h h' : Heap} {d : List D} {v : List Value} (x : VRs μ h d v) (hk : ∀ b o, h.get? b = some o → h'.get? b = some o) : VRs μ h' d v :=
  x.mono (List.prefix_refl _) (fun _ h => .inl h) fun b o e _ _ => hk b o e

theorem VRs.length {h : Heap} : ∀ {ds : List D} {vs : List Value}, VRs μ h ds vs → vs.length = ds.length
  | [], _, e => by unfold VRs at e; subst e; rfl
  | _ :: _, _, e => by unfold VRs at e; obtain ⟨v, r, rfl, _, e3⟩ := e; simp [e3.length]
theorem VRs.append {h : Heap} : ∀ {ds es : List D} {vs us : List Value}, VRs μ h ds vs → VRs μ h es us → VRs μ h (ds ++ es) (vs ++ us)
  | [], _, _, _, e, f => by unfold VRs at e; subst e; exact f
  | _ :: _, _, _, _, e, f => by
    unfold VRs at e; obtain ⟨v, r, rfl, e2, e3⟩ := e
    rw [List.cons_append]; unfold VRs; exact ⟨v, r ++ _, rfl, e2, e3.append f⟩
theorem VRs.nil {h : Heap} : VRs μ h [] [] := by unfold VRs; rfl
theorem VRs.cons {h : Heap} {d : D} {v : Value} {ds : List D} {vs : List Value} (x : VR μ h d v) (y : VRs μ h ds vs) : VRs μ h (d :: ds) (v :: vs) := by unfold VRs; exact ⟨v, vs, rfl, x, y⟩
theorem VRs.get {h : Heap} : ∀ {ds : List D} {vs : List Value} {i : Nat} {d : D}, VRs μ h ds vs → ds[i]? = some d → ∃ v, vs[i]? = some v ∧ VR μ h d v
  | [], _, _, _, _, e => by simp at e
  | x :: xs, _, i, d, e, f => by
    unfold VRs at e; obtain ⟨v, r, rfl, e2, e3⟩ := e
    cases i with
    | zero => simp at f; subst f; exact ⟨v, rfl, e2⟩
    | succ j => simp at f; obtain ⟨u, h1, h2⟩ := e3.get f; exact ⟨u, by simpa using h1, h2⟩
theorem VRs.getV {h : Heap} {ds : List D} {vs : List Value} {i : Nat} {v : Value} (e : VRs μ h ds vs) (f : vs[i]? = some v) : ∃ d, ds[i]? = some d ∧ VR μ h d v := by
  have hl := (List.getElem?_eq_some_iff.mp f).1
  rw [e.length] at hl
  obtain ⟨u, h1, h2⟩ := e.get (List.getElem?_eq_some_iff.mpr ⟨hl, rfl⟩)
  rw [f] at h1; obtain rfl := Option.some.inj h1
  exact ⟨_, List.getElem?_eq_some_iff.mpr ⟨hl, rfl⟩, h2⟩

theorem VR.newTup {ds : List D} {vs : List Value} {h : Heap} (hn : ¬ μ.Has h.objs.size) (x : VRs μ h ds vs) :
    VR μ (h.push { cls := .type "tuple", data := .seq (List.toArray vs) }) (.tup ds) (.ref h.objs.size) := by
  unfold VR
  exact ⟨_, vs, rfl, hn, ⟨_, Heap.get?_push_size _ rfl, rfl, 0, rfl⟩, x.keeps push_keeps⟩
theorem VR.newLst {ds : List D} {vs : List Value} {h : Heap} (hn : ¬ μ.Has h.objs.size) (x : VRs μ h ds vs) :
    VR μ (h.push { cls := .type "list", data := .seq (List.toArray vs) }) (.ilst ds) (.ref h.objs.size) := by
  unfold VR
  exact ⟨_, vs, rfl, hn, ⟨_, Heap.get?_push_size _ rfl, rfl, 0, rfl⟩, x.keeps push_keeps⟩

noncomputable def opOf : BOp → Operator
  | .add => .Add | .sub => .Sub | .mul => .Mult | .div => .FloorDiv | .mod => .Mod | .pow => .Pow
noncomputable def copOf : COp → CmpOp
  | .eq => .Eq | .ne => .NotEq | .lt => .Lt | .gt => .Gt | .ge => .GtE | .is => .Is | .isnt => .IsNot | .inn => .In | .nin => .NotIn

theorem intBits_small {a : Int} (h : a.natAbs < 2 ^ 64) : PySem.Builtin.Int.intBits a ≤ 64 := intBits_le_64 (by lia) (by lia)

theorem op_int {op : BOp} {a b c : Int} {t u : Tok} (I : SI prog w base μ st s.heap) (h : intBin op a b = some c) :
    wpAny (model prog w) A (binaryOp (opOf op) (.int a t) (.int b u)) (PE prog w base μ fz s st (.int c)) E' s := by
  have fin : ∀ (c : Int) (t : Tok) (tk : Nat), PE prog w base μ fz s st (.int c) (.int c t) { s with toks := tk } := fun c t tk => PE.same I (by unfold VR; exact ⟨t, rfl⟩)
  cases op with
  | add => obtain rfl := Option.some.inj h; exact PySem.P.add_int (fin _ _ _)
  | sub => obtain rfl := Option.some.inj h; exact PySem.P.sub_int (fin _ _ _)
  | mul =>
    simp only [intBin] at h
    split at h
    · rename_i hh; obtain rfl := Option.some.inj h
      exact PySem.P.mul_int (fin _ _ _) (IntMulOk.of_left (intBits_small hh.1))
    · exact none_ne h
  | div =>
    simp only [intBin] at h
    split at h
    · rename_i hh; obtain rfl := Option.some.inj h
      refine PyProof.Rows.floordiv_int hh.1 (fin _ _ _) (.inl ?_)
      have h3 : ¬ ((if (b == 0) = true then 0 else b.natAbs.log2 / 30 + 1) > 300) := by
        have hl : b.natAbs.log2 < 64 := (Nat.log2_lt (by lia)).mpr hh.2
        split <;> lia
      simp only [PySem.Builtin.divisionGoesByPylong, decide_eq_false h3, Bool.false_and]
    · exact none_ne h
  | mod =>
    simp only [intBin] at h
    split at h
    · exact none_ne h
    · rename_i hh; obtain rfl := Option.some.inj h
      exact PyProof.Rows.mod_int' hh (fin _ _ _)
  | pow =>
    simp only [intBin] at h
    split at h
    · rename_i hh; obtain rfl := Option.some.inj h
      obtain ⟨h0, h1, h2⟩ := hh
      by_cases hb0 : b = 0
      · subst hb0
        exact PySem.AutoIntOps.pow_0 (Int.le_refl 0) rfl (show PE prog w base μ fz s st (.int (a ^ (0 : Int).toNat)) (.int 1 s.toks) { s with toks := s.toks + 1 } from by
          have e : a ^ (0 : Int).toNat = 1 := by simp
          rw [e]; exact fin 1 _ _)
      · have hb : ¬ (b == 0) = true := by simpa using hb0
        by_cases ha : (a == 0 || a == 1) = true
        · have e : a ^ b.toNat = a := by
            have hp : b.toNat = (b.toNat - 1) + 1 := by lia
            rcases Bool.or_eq_true_iff.mp ha with q | q
            · have := eq_of_beq q; subst this; rw [hp, Int.pow_succ]; simp
            · have := eq_of_beq q; subst this; exact Int.one_pow
          rw [e]
          exact PySem.AutoIntOps.pow_1 h0 hb ha (show PE prog w base μ fz s st _ (.int _ s.toks) { s with toks := s.toks + 1 } from fin _ _ _)
        · by_cases hm : (a == -1) = true
          · have e : a ^ b.toNat = if (b % 2 == 0) = true then 1 else -1 := by
              have := eq_of_beq hm; subst this
              have hq : ∀ n : Nat, (-1 : Int) ^ n = if ((n : Int) % 2 == 0) = true then 1 else -1 := by
                intro n
                induction n with
                | zero => rfl
                | succ n ih =>
                  rw [Int.pow_succ, ih]
                  by_cases hn : ((n : Int) % 2 == 0) = true
                  · have h1 := eq_of_beq hn
                    have h2 : ¬ (((n + 1 : Nat) : Int) % 2 == 0) = true := by simp only [beq_iff_eq]; lia
                    rw [if_pos hn, if_neg h2]; rfl
                  · have h1 : ¬ (n : Int) % 2 = 0 := by simpa using hn
                    have h2 : (((n + 1 : Nat) : Int) % 2 == 0) = true := by simp only [beq_iff_eq]; lia
                    rw [if_neg hn, if_pos h2]; rfl
              rw [hq, Int.toNat_of_nonneg h0]
            rw [e]
            exact PySem.AutoIntOps.pow_2 h0 hb ha hm (show PE prog w base μ fz s st _ (.int _ s.toks) { s with toks := s.toks + 1 } from fin _ _ _)
          · refine PySem.AutoIntOps.pow_4 h0 hb ha hm ?_ (show PE prog w base μ fz s st _ (.int _ s.toks) { s with toks := s.toks + 1 } from fin _ _ _)
            have hz : PySem.Builtin.Int.intBits a ≤ 64 := intBits_small (by lia)
            have : ((PySem.Builtin.Int.intBits a : Nat) : Int) * b ≤ 64 * 64 := by
              have := Int.mul_le_mul (show ((PySem.Builtin.Int.intBits a : Nat) : Int) ≤ 64 by lia) h1 h0 (by lia)
              exact this
            have h27 : ((bitsLine : Nat) : Int) = 134217728 := by decide
            have hn : ¬ (((PySem.Builtin.Int.intBits a : Nat) : Int) * b > ((bitsLine : Nat) : Int)) := by rw [h27]; lia
            simp only [PySem.Builtin.Int.intTooBig, decide_eq_false hn]
            exact Bool.false_ne_true
    · exact none_ne h
end Mine
end
section
open PySem PySem.W PyProof.Rows
namespace Mine
variable {prog : Program} {w : World} {A : Around} {E' : Value → Shared → Prop} {s : Shared} {base : Heap} {μ : Mu} {st : St} {fz : List Nat}

theorem lim_size {n : Nat} (h : n < lim) : n ≤ sizeLine := by
  have : sizeLine = 16777216 := by decide
  unfold lim at h; lia

theorem op_tadd {xs ys : List D} {u v : Value} (I : SI prog w base μ st s.heap) (hx : VR μ s.heap (.tup xs) u) (hy : VR μ s.heap (.tup ys) v) (h : xs.length + ys.length < lim) :
    wpAny (model prog w) A (binaryOp .Add u v) (PE prog w base μ fz s st (.tup (xs ++ ys))) E' s := by
  have hx0 := hx; have hy0 := hy
  obtain ⟨a, vs, rfl, ha, ta, va⟩ := hx
  obtain ⟨b, us, rfl, hb, tb, vb⟩ := hy
  obtain ⟨⟨cls, dd, data, sl⟩, ho, hc, n, hd⟩ := id ta
  obtain ⟨⟨cls2, dd2, data2, sl2⟩, ho2, hc2, n2, hd2⟩ := id tb
  simp only at hc hd hc2 hd2
  subst hc hd hc2 hd2
  by_cases hv : vs = []
  · have e : xs = [] := List.eq_nil_of_length_eq_zero (by rw [← va.length, hv]; rfl)
    subst e
    exact concat_meets ⟨_, ho, rfl⟩ ⟨_, ho2, rfl⟩ noFill_tuple_add seq_tuple_add PySem.F.slot_tuple_add PySem.F.entry_tuple_add (PySem.F.args_tuple_add_2 _ _)
      (tuple_addW0 a b (List.toArray vs) (List.toArray us) n n2 dd dd2 sl sl2 (by simp [hv])) ⟨ho, ho2, PE.here I hy0⟩
  · by_cases hw : us = []
    · have e : ys = [] := List.eq_nil_of_length_eq_zero (by rw [← vb.length, hw]; rfl)
      subst e
      rw [List.append_nil]
      exact concat_meets ⟨_, ho, rfl⟩ ⟨_, ho2, rfl⟩ noFill_tuple_add seq_tuple_add PySem.F.slot_tuple_add PySem.F.entry_tuple_add (PySem.F.args_tuple_add_2 _ _)
        (tuple_addW1 a b (List.toArray vs) (List.toArray us) n n2 dd dd2 sl sl2 (by simpa using hv) (by simp [hw])) ⟨ho, ho2, PE.here I hx0⟩
    · refine concat_meets ⟨_, ho, rfl⟩ ⟨_, ho2, rfl⟩ noFill_tuple_add seq_tuple_add PySem.F.slot_tuple_add PySem.F.entry_tuple_add (PySem.F.args_tuple_add_2 _ _)
        (tuple_addW2 a b (List.toArray vs) (List.toArray us) n n2 dd dd2 sl sl2 (by simpa using hv) (by simpa using hw) (by
          rw [List.size_toArray, List.size_toArray, va.length, vb.length]; exact lim_size h)) ⟨ho, ho2, ?_⟩
      have e : List.toArray vs ++ List.toArray us = List.toArray (vs ++ us) := by simp
      rw [e]
      exact PE.keeps I push_keeps (VR.newTup (size_notMem I) (va.append vb))

theorem noFill_list_add : fillsNumberSlot (.type "list") "add" = pure false :=
  PySem.fillsNumberSlot_seq (id := "list.__add__") (r := none) PySem.F.slot_list_add.lookup (by decide +kernel) (by rw [typeLookup_type, builtinLookup_eq_fast]; kernel_rfl) rfl
theorem seq_list_add : seqSlot? (.type "list") "__add__" = pure (some (.builtin "list.__add__")) := PySem.seqSlot_of PySem.F.slot_list_add.lookup (by decide +kernel)

theorem op_ladd {xs ys : List D} {u v : Value} (I : SI prog w base μ st s.heap) (hx : VR μ s.heap (.ilst xs) u) (hy : VR μ s.heap (.ilst ys) v) (h : xs.length + ys.length < lim) :
    wpAny (model prog w) A (binaryOp .Add u v) (PE prog w base μ fz s st (.ilst (xs ++ ys))) E' s := by
  obtain ⟨a, vs, rfl, ha, ta, va⟩ := hx
  obtain ⟨b, us, rfl, hb, tb, vb⟩ := hy
  obtain ⟨⟨cls, dd, data, sl⟩, ho, hc, n, hd⟩ := id ta
  obtain ⟨⟨cls2, dd2, data2, sl2⟩, ho2, hc2, n2, hd2⟩ := id tb
  simp only at hc hd hc2 hd2
  subst hc hd hc2 hd2
  refine concat_meets ⟨_, ho, rfl⟩ ⟨_, ho2, rfl⟩ noFill_list_add seq_list_add PySem.F.slot_list_add PySem.F.entry_list_add (PySem.F.args_list_add_2 _ _)
    (list_addW a b (List.toArray vs) (List.toArray us) n n2 dd dd2 sl sl2 (by
      rw [List.size_toArray, List.size_toArray, va.length, vb.length]; exact lim_size h)) ⟨ho, ho2, ?_⟩
  have e : List.toArray vs ++ List.toArray us = List.toArray (vs ++ us) := by simp
  rw [e]
  exact PE.keeps I push_keeps (VR.newLst (size_notMem I) (va.append vb))

set_option maxRecDepth 100000 in
theorem noFill_tuple_mul : fillsNumberSlot (.type "tuple") "mul" = pure false :=
  PySem.fillsNumberSlot_seq (id := "tuple.__mul__") (r := some (.builtin "tuple.__rmul__")) PySem.F.slot_tuple_mul.lookup (by decide +kernel) PySem.F.slot_tuple_rmul.lookup (by decide +kernel)
set_option maxRecDepth 100000 in
theorem repeat_tuple : seqRepeat? (.type "tuple") = pure (some (.builtin "tuple.__mul__")) := by
  unfold seqRepeat?
  rw [PySem.seqSlot_of (T := "tuple") (name := "__mul__") (id := "tuple.__mul__") PySem.F.slot_tuple_mul.lookup (by decide +kernel), PySem.seqSlot_of (T := "tuple") (name := "__rmul__") (id := "tuple.__rmul__") PySem.F.slot_tuple_rmul.lookup (by decide +kernel)]
  rfl
set_option maxRecDepth 100000 in
theorem int_rmul_tuple (a : Int) (t : Tok) (l : Addr) (items : Array Value) (n : Nat) (dd : Option Addr) (sl : Array (Option Value)) :
    Meets (PySem.Builtin.«int.__rmul__» ⟨[.int a t, .ref l], []⟩) (fun _ R s => s.heap.get? l = some { cls := .type "tuple", dict := dd, data := .seq items n, slots := sl } ∧ R (.ok (.ret Value.notImplemented)) s) :=
  .of_wp fun prog w A R s h => by obtain ⟨hp, g, d, tk, os⟩ := s; obtain ⟨hl, h⟩ := h; wp_walk; exact ⟨_, rfl, h⟩

theorem joinOne (v : Value) (n : Nat) : List.foldl (fun x1 x2 => x1 ++ x2) #[] (List.replicate n #[v]) = List.toArray (List.replicate n v) := by
  have h : ∀ (n : Nat) (acc : Array Value), List.foldl (fun x1 x2 => x1 ++ x2) acc (List.replicate n #[v]) = acc ++ List.toArray (List.replicate n v) := by
    intro n
    induction n with
    | zero => intro acc; simp
    | succ n ih => intro acc; rw [List.replicate_succ, List.foldl_cons, ih, List.replicate_succ]; apply Array.toList_inj.mp; simp
  rw [h]; simp

set_option maxRecDepth 100000 in
theorem tuple_mul_one (l : Addr) (v : Value) (n : Nat) (dd : Option Addr) (sl : Array (Option Value)) (x : Int) (u : Tok) (h0 : 0 < x) (h1 : x < 1000) (hne : ¬ x = 1) :
    Meets (PySem.Builtin.«tuple.__mul__» ⟨[.ref l, .int x u], []⟩) (fun _ R s => s.heap.get? l = some { cls := .type "tuple", dict := dd, data := .seq #[v] n, slots := sl } ∧
      R (.ok (.ret (Value.ref s.heap.objs.size))) { s with heap := s.heap.push { cls := Value.type "tuple", data := Data.seq (List.toArray (List.replicate x.toNat v)) }, toks := s.toks }) :=
  .of_wp fun prog w A R s h => by
    obtain ⟨hp, g, d, tk, os⟩ := s; obtain ⟨hl, h⟩ := h
    have f1 := AutoSeq1.idx_int
    have c0 : ¬ ((decide (x < -2 ^ 63) || decide (x ≥ 2 ^ 63)) = true) := by
      rw [decide_eq_false (by lia), decide_eq_false (by lia)]; decide
    have c1 : ¬ (((#[v] : Array Value).isEmpty || x == 1) = true) := by
      have : (x == 1) = false := by simpa using hne
      rw [this]; exact Bool.false_ne_true
    have c2 : ¬ ((decide (x ≤ 0) || (#[v] : Array Value).isEmpty) = true) := by
      rw [decide_eq_false (by lia)]; exact Bool.false_ne_true
    have c3 : ¬ (((#[v] : Array Value).size : Int) * x > (2 ^ 63 - 1) / 8) := by
      show ¬ ((1 : Int) * x > _); lia
    have c4 : ¬ (PySem.Builtin.Tuple.tupleTooMany (((#[v] : Array Value).size : Int) * x) = true) := by
      have h27 : ((sizeLine : Nat) : Int) = 16777216 := by decide
      have : ¬ (((#[v] : Array Value).size : Int) * x > (sizeLine : Int)) := by show ¬ ((1 : Int) * x > _); rw [h27]; lia
      simp only [PySem.Builtin.Tuple.tupleTooMany, decide_eq_false this]; exact Bool.false_ne_true
    have c5 : (List.toArray (List.replicate x.toNat v)).size ≤ sizeLine := by
      have : sizeLine = 16777216 := by decide
      rw [List.size_toArray, List.length_replicate]; lia
    wp_walk using AutoSeq1.wpAny_loadPart' hl
    refine wpAny_ite_false (decide_eq_false c0) ?_
    wp_walk using AutoSeq1.wpAny_loadPart' hl
    refine wpAny_ite_false (decide_eq_false c3) ?_
    wp_walk
    refine wpAny_ite_false (decide_eq_false c4) ?_
    wp_walk
    refine wpAny_ite_false (decide_eq_false (by rw [joinOne]; exact Nat.not_lt.mpr c5)) ?_
    wp_walk
    rw [joinOne]
    exact ⟨_, rfl, h⟩

set_option maxRecDepth 100000 in
theorem tuple_mul_zero (l : Addr) (v : Value) (n : Nat) (dd : Option Addr) (sl : Array (Option Value)) (u : Tok) :
    Meets (PySem.Builtin.«tuple.__mul__» ⟨[.ref l, .int 0 u], []⟩) (fun _ R s => s.heap.get? l = some { cls := .type "tuple", dict := dd, data := .seq #[v] n, slots := sl } ∧
      R (.ok (.ret (Value.ref s.heap.objs.size))) { s with heap := s.heap.push { cls := Value.type "tuple", data := Data.seq #[] }, toks := s.toks }) :=
  .of_wp fun prog w A R s h => by
    obtain ⟨hp, g, d, tk, os⟩ := s; obtain ⟨hl, h⟩ := h
    have f1 := AutoSeq1.idx_int
    wp_walk using AutoSeq1.wpAny_loadPart' hl
    exact ⟨_, rfl, h⟩
set_option maxRecDepth 100000 in
theorem tuple_mul_1 (l : Addr) (v : Value) (n : Nat) (dd : Option Addr) (sl : Array (Option Value)) (u : Tok) :
    Meets (PySem.Builtin.«tuple.__mul__» ⟨[.ref l, .int 1 u], []⟩) (fun _ R s => s.heap.get? l = some { cls := .type "tuple", dict := dd, data := .seq #[v] n, slots := sl } ∧
      R (.ok (.ret (Value.ref l))) s) :=
  .of_wp fun prog w A R s h => by
    obtain ⟨hp, g, d, tk, os⟩ := s; obtain ⟨hl, h⟩ := h
    have f1 := AutoSeq1.idx_int
    wp_walk using AutoSeq1.wpAny_loadPart' hl
    exact ⟨_, rfl, h⟩

theorem reps_one {α : Type} (a : α) : ∀ n, reps [a] n = List.replicate n a
  | 0 => rfl
  | n + 1 => by rw [reps, reps_one a n, List.replicate_succ]; rfl
theorem VRs.rep {h : Heap} {d : D} {v : Value} (x : VR μ h d v) : ∀ n, VRs μ h (List.replicate n d) (List.replicate n v)
  | 0 => VRs.nil
  | n + 1 => by rw [List.replicate_succ, List.replicate_succ]; exact .cons x (VRs.rep x n)

theorem op_tmul {xs : List D} {n : Int} {u v : Value} (I : SI prog w base μ st s.heap) (hx : VR μ s.heap (.tup xs) u) (hy : VR μ s.heap (.int n) v) (h : 0 ≤ n ∧ n < 1000 ∧ xs.length = 1) :
    wpAny (model prog w) A (binaryOp .Mult u v) (PE prog w base μ fz s st (.tup (reps xs n.toNat))) E' s := by
  have hx0 := hx
  obtain ⟨a, vs, rfl, ha, ta, va⟩ := hx
  obtain ⟨t, rfl⟩ := hy
  obtain ⟨⟨cls, dd, data, sl⟩, ho, hc, k, hd⟩ := id ta
  simp only at hc hd
  subst hc hd
  obtain ⟨d, rfl⟩ : ∃ d, xs = [d] := by
    match xs, h.2.2 with
    | [d], _ => exact ⟨d, rfl⟩
  obtain ⟨v, r, rfl, vd, vr⟩ := (show ∃ v r, vs = v :: r ∧ VR μ s.heap d v ∧ VRs μ s.heap [] r by exact va)
  have : r = [] := by exact vr
  subst this
  rw [reps_one]
  have road : ∀ {Q : Value → Shared → Prop}, wpAny (model prog w) A (call (.builtin "tuple.__mul__") [.ref a, .int n t]) Q E' s → wpAny (model prog w) A (binaryOp .Mult (.ref a) (.int n t)) Q E' s := by
    intro Q hq
    refine wpAny_binaryOp_repeat_ref (T := "tuple") (U := "int") (by decide) ⟨_, ho, rfl⟩ (fun _ => rfl) noFill_tuple_mul PySem.F.fills_int_mul PySem.F.slot_int_rmul repeat_tuple AutoSeq1.idx_int ?_
    exact call_meets PySem.F.slot_int_rmul (typeIs_int s n t) PySem.F.entry_int_rmul (PySem.F.args_int_rmul_2 _ _) (int_rmul_tuple n t a _ k dd sl) ⟨ho, rfl, ⟨_, ho, rfl⟩, hq⟩
  refine road ?_
  by_cases h1 : n = 1
  · subst h1
    exact call_meets PySem.F.slot_tuple_mul ⟨_, ho, rfl⟩ PySem.F.entry_tuple_mul (PySem.F.args_tuple_mul_2 _ _) (tuple_mul_1 a v k dd sl t) ⟨ho, PE.here I hx0⟩
  · by_cases h0 : n = 0
    · subst h0
      exact call_meets PySem.F.slot_tuple_mul ⟨_, ho, rfl⟩ PySem.F.entry_tuple_mul (PySem.F.args_tuple_mul_2 _ _) (tuple_mul_zero a v k dd sl t)
        ⟨ho, PE.keeps I push_keeps (VR.newTup (vs := []) (size_notMem I) VRs.nil)⟩
    · exact call_meets PySem.F.slot_tuple_mul ⟨_, ho, rfl⟩ PySem.F.entry_tuple_mul (PySem.F.args_tuple_mul_2 _ _) (tuple_mul_one a v k dd sl n t (by lia) h.2.1 h1)
        ⟨ho, PE.keeps I push_keeps (VR.newTup (size_notMem I) (VRs.rep vd _))⟩

theorem op_bin {op : BOp} {x y z : D} {u v : Value} (I : SI prog w base μ st s.heap) (hx : VR μ s.heap x u) (hy : VR μ s.heap y v) (h : binD op x y = some z) :
    wpAny (model prog w) A (binaryOp (opOf op) u v) (PE prog w base μ fz s st z) E' s := by
  have q := binI h
  clear h
  cases q with
  | int hc => obtain ⟨t, rfl⟩ := hx; obtain ⟨t', rfl⟩ := hy; exact op_int I hc
  | tadd hl => exact op_tadd I hx hy hl
  | ladd hl => exact op_ladd I hx hy hl
  | tmul hl => exact op_tmul I hx hy hl
end Mine
end
section
open PySem PySem.W PyProof.Rows
namespace Mine
variable {prog : Program} {w : World} {A : Around} {E' : Value → Shared → Prop} {s : Shared} {base : Heap} {μ : Mu} {st : St} {fz : List Nat}

theorem PE.bool (I : SI prog w base μ st s.heap) (b : Bool) : PE prog w base μ fz s st (.bool b) (.bool b) s := PE.here I (by unfold VR; rfl)
theorem PE.int (I : SI prog w base μ st s.heap) (b : Int) (t : Tok) (k : Nat) : PE prog w base μ fz s st (.int b) (.int b t) { s with toks := k } := PE.same I (by unfold VR; exact ⟨t, rfl⟩)

theorem itemsAre_of {h : Heap} {ds : List D} : ∀ {vs : List Value} {ks : List Int}, D.ints ds = some ks → VRs μ h ds vs → ItemsAre (intKind prog w) ks vs := by
  induction ds with
  | nil =>
    intro vs ks e x
    subst x
    simp only [D.ints, Option.some.injEq] at e; subst e; exact .nil
  | cons d ds ih =>
    intro vs ks e x
    obtain ⟨v, r, rfl, x1, x2⟩ := x
    cases d with
    | int i =>
      simp only [D.ints] at e
      obtain ⟨q, hq, rfl⟩ := Option.map_eq_some_iff.mp e
      obtain ⟨t, rfl⟩ := x1
      exact .cons (by show (i == i) = true; simp) (ih hq x2)
    | _ => simp [D.ints] at e

theorem VR.key {h : Heap} {d : D} {v : Value} {k : List Int} (e : keyOf d = some k) (x : VR μ h d v) : ∃ a, v = .ref a ∧ ¬ μ.Has a ∧ IsTupleKey (intKind prog w) h k a := by
  cases d with
  | tup xs =>
    obtain ⟨a, vs, rfl, ha, ⟨o, ho, hc, n, hd⟩, va⟩ := x
    exact ⟨a, rfl, ha, o, _, n, ho, hc, hd, by simpa using itemsAre_of e va⟩
  | _ => simp [keyOf] at e

theorem rcEq_tup {x y : List Int} {a b : Addr} (hu : A.units < cLine) (hx : ∀ prog w, IsTupleKey (intKind prog w) s.heap x a) (hy : ∀ prog w, IsTupleKey (intKind prog w) s.heap y b) :
    SeqAt.RcAt A s (.ref a) (.ref b) (decide (x = y)) := fun prog w E Q h =>
  wpAny_richCompare_same_room (op := .Eq) (hx prog w).typeIs (hy prog w).typeIs PySem.F.slot_tuple_eq
    (wpAny_call_entry PySem.F.slot_tuple_eq (hx prog w).typeIs PySem.F.entry_tuple_eq (tuple_eq_tree (hx prog w) (hy prog w) ⟨_, rfl, (fun e => nomatch e), h⟩) (PySem.F.args_tuple_eq_2 _ _)) hu
theorem eqAt_tup {x y : List Int} {a b : Addr} (hu : A.units < cLine) (hx : ∀ prog w, IsTupleKey (intKind prog w) s.heap x a) (hy : ∀ prog w, IsTupleKey (intKind prog w) s.heap y b) :
    SeqAt.EqAt A s (.ref a) (.ref b) (decide (x = y)) := fun prog w _ _ h => wpAny_eqBool_tuple hu (hx prog w) (hy prog w) h

theorem bd {α : Type} [BEq α] [LawfulBEq α] [DecidableEq α] (a b : α) : (a == b) = decide (a = b) := by rw [Bool.eq_iff_iff]; simp

theorem all_eq {α : Type} [DecidableEq α] : ∀ (x y : List α), x.length = y.length → ((List.range x.length).all fun j => decide (x[j]? = y[j]?)) = decide (x = y) := by
  intro x y hl
  rw [Bool.eq_iff_iff, List.all_eq_true, decide_eq_true_iff]
  constructor
  · intro h
    refine List.ext_getElem? fun i => ?_
    by_cases hi : i < x.length
    · exact of_decide_eq_true (h i (List.mem_range.mpr hi))
    · rw [List.getElem?_eq_none (by lia), List.getElem?_eq_none (by lia)]
  · rintro rfl i _; exact decide_eq_true rfl

theorem keysOf_len {ds : List D} : ∀ {ks : List (List Int)}, keysOf ds = some ks → ks.length = ds.length := by
  induction ds with
  | nil =>
    intro ks h
    simp only [keysOf, Option.some.injEq] at h; subst h; rfl
  | cons d ds ih =>
    intro ks h
    simp only [keysOf] at h
    obtain ⟨k, _, h⟩ := Option.bind_eq_some_iff.mp h
    obtain ⟨r, hr, rfl⟩ := Option.map_eq_some_iff.mp h
    simp [ih hr]
theorem keysOf_get {ds : List D} : ∀ {ks : List (List Int)} {i : Nat} {d : D}, keysOf ds = some ks → ds[i]? = some d → ∃ k, ks[i]? = some k ∧ keyOf d = some k := by
  induction ds with
  | nil =>
    intro _ _ _ _ h
    simp at h
  | cons d ds ih =>
    intro ks i e h g
    simp only [keysOf] at h
    obtain ⟨k, hk, h⟩ := Option.bind_eq_some_iff.mp h
    obtain ⟨r, hr, rfl⟩ := Option.map_eq_some_iff.mp h
    cases i with
    | zero => simp at g; subst g; exact ⟨k, rfl, hk⟩
    | succ j => simp at g; obtain ⟨k', h1, h2⟩ := ih hr g; exact ⟨k', by simpa using h1, h2⟩

theorem eqAt_items {xs ys : List D} {kx ky : List (List Int)} {vs us : List Value} (hu : A.units < cLine) (hx : keysOf xs = some kx) (hy : keysOf ys = some ky) (vx : VRs μ s.heap xs vs) (vy : VRs μ s.heap ys us) :
    ∀ j (h1 : j < (List.toArray vs).size) (h2 : j < (List.toArray us).size), SeqAt.EqAt A s (List.toArray vs)[j] (List.toArray us)[j] (decide (kx[j]? = ky[j]?)) := by
  intro j h1 h2
  rw [List.size_toArray] at h1 h2
  simp only [List.getElem_toArray]
  obtain ⟨d, hd, vd⟩ := vx.getV (List.getElem?_eq_some_iff.mpr ⟨h1, rfl⟩)
  obtain ⟨e, he, ve⟩ := vy.getV (List.getElem?_eq_some_iff.mpr ⟨h2, rfl⟩)
  obtain ⟨k, hk, hkd⟩ := keysOf_get hx hd
  obtain ⟨k', hk', hke⟩ := keysOf_get hy he
  rw [hk, hk']
  obtain ⟨a, ea, _, _⟩ := vd.key (prog := default) (w := ⟨fun _ _ => 0, { strHash := fun _ => 0, shareClass := fun _ => 0, mergeTok := id, idOf := fun _ => 0, idOfShared := fun _ _ => 0, followText := fun _ => false, idOfImm := fun _ => 0 }⟩) hkd
  obtain ⟨b, eb, _, _⟩ := ve.key (prog := default) (w := ⟨fun _ _ => 0, { strHash := fun _ => 0, shareClass := fun _ => 0, mergeTok := id, idOf := fun _ => 0, idOfShared := fun _ _ => 0, followText := fun _ => false, idOfImm := fun _ => 0 }⟩) hke
  rw [ea, eb]
  have : decide (some k = some k') = decide (k = k') := by simp
  rw [this]
  refine eqAt_tup hu (fun prog w => ?_) fun prog w => ?_
  · obtain ⟨a', ea', _, r⟩ := vd.key (prog := prog) (w := w) hkd
    rw [ea] at ea'; cases ea'; exact r
  · obtain ⟨a', ea', _, r⟩ := ve.key (prog := prog) (w := w) hke
    rw [eb] at ea'; cases ea'; exact r

theorem size_iff {h : Heap} {xs ys : List D} {vs us : List Value} (v1 : VRs μ h xs vs) (v2 : VRs μ h ys us) : (List.toArray vs).size = (List.toArray us).size ↔ xs.length = ys.length := by
  rw [List.size_toArray, List.size_toArray, v1.length, v2.length]
theorem size_keys {h : Heap} {xs : List D} {vs : List Value} {kx : List (List Int)} (v1 : VRs μ h xs vs) (hk : keysOf xs = some kx) : (List.toArray vs).size = kx.length := by
  rw [List.size_toArray, v1.length, keysOf_len hk]
theorem rcAt_lists {xs ys : List D} {b : Bool} {u v : Value} (hu : A.in1.units < cLine) (hx : VR μ s.heap (.ilst xs) u) (hy : VR μ s.heap (.ilst ys) v) (h : LstE xs ys b) : SeqAt.RcAt A s u v b := by
  obtain ⟨a1, vs, rfl, _, t1, v1⟩ := hx
  obtain ⟨b1, us, rfl, _, t2, v2⟩ := hy
  cases h with
  | @same kx ky hl hkx hky =>
    have := SeqAt.RcAt.lists (A := A) (e := fun j => decide (kx[j]? = ky[j]?)) t1 t2 ((size_iff v1 v2).mpr hl) (Nat.lt_of_succ_lt hu) (eqAt_items (A := A.in1) hu hkx hky v1 v2)
    rw [size_keys v1 hkx, all_eq kx ky (by rw [keysOf_len hkx, keysOf_len hky, hl])] at this
    exact this
  | other hl => exact SeqAt.RcAt.lists_lengths t1 t2 (bne_iff_ne.mpr fun e => hl ((size_iff v1 v2).mp e)) (Nat.lt_of_succ_lt hu)
theorem rcAt_tup {a b : List D} {x y : List Int} {u v : Value} (hu : A.units < cLine) (hx : VR μ s.heap (.tup a) u) (hy : VR μ s.heap (.tup b) v) (hkx : D.ints a = some x) (hky : D.ints b = some y) : SeqAt.RcAt A s u v (decide (x = y)) := by
  intro prog w E Q hq
  obtain ⟨a1, rfl, _, h1⟩ := hx.key (prog := prog) (w := w) (show keyOf (.tup a) = some x from hkx)
  obtain ⟨b1, rfl, _, h2⟩ := hy.key (prog := prog) (w := w) (show keyOf (.tup b) = some y from hky)
  refine rcEq_tup hu (fun p q => ?_) (fun p q => ?_) prog w E Q hq
  · obtain ⟨_, e, _, r⟩ := hx.key (prog := p) (w := q) (show keyOf (.tup a) = some x from hkx); cases e; exact r
  · obtain ⟨_, e, _, r⟩ := hy.key (prog := p) (w := q) (show keyOf (.tup b) = some y from hky); cases e; exact r
theorem rcAt_eqD {x y : D} {b : Bool} {u v : Value} (hu : A.in1.units < cLine) (hx : VR μ s.heap x u) (hy : VR μ s.heap y v) (h : eqD x y = some b) : SeqAt.RcAt A s u v b := by
  have q := eqI h
  clear h
  cases q with
  | int =>
    obtain ⟨t, rfl⟩ := hx; obtain ⟨t', rfl⟩ := hy
    intro prog w E Q hq
    exact PySem.P.eq_int (by rw [bd]; exact hq)
  | str =>
    obtain ⟨t, rfl⟩ := hx; obtain ⟨t', rfl⟩ := hy
    intro prog w E Q hq
    exact PyProof.Rows.eq_str (by rw [bd]; exact hq)
  | tup hkx hky => exact rcAt_tup (Nat.lt_of_succ_lt hu) hx hy hkx hky
  | ils h => exact rcAt_lists hu hx hy h
end Mine
end
section
open PySem PySem.W PyProof.Rows
namespace Mine
variable {prog : Program} {w : World} {A : Around} {E' : Value → Shared → Prop} {s : Shared} {base : Heap} {μ : Mu} {st : St} {fz : List Nat}

structure AOk (n : Nat) (A : Around) : Prop where
  handled : A.handled = none
  depth : A.depth + n < recursionLimit
  units : A.units + 4 * n + 20 < cLine

theorem AOk.in1 {n : Nat} (h : AOk n A) : A.in1.units < cLine := by have := h.units; show A.units + 1 < cLine; lia
theorem AOk.in0 {n : Nat} (h : AOk n A) : A.units < cLine := by have := h.units; lia

theorem neAt_lists {xs ys : List D} {b : Bool} {u v : Value} (hu : A.in1.units < cLine) (hx : VR μ s.heap (.ilst xs) u) (hy : VR μ s.heap (.ilst ys) v) (h : LstE xs ys b) : SeqAt.RcNeAt A s u v (!b) := by
  obtain ⟨a1, vs, rfl, _, t1, v1⟩ := hx
  obtain ⟨b1, us, rfl, _, t2, v2⟩ := hy
  cases h with
  | @same kx ky hl hkx hky =>
    have := SeqAt.RcNeAt.lists (A := A) (e := fun j => decide (kx[j]? = ky[j]?)) t1 t2 ((size_iff v1 v2).mpr hl) (Nat.lt_of_succ_lt hu) (eqAt_items (A := A.in1) hu hkx hky v1 v2)
    rw [size_keys v1 hkx, all_eq kx ky (by rw [keysOf_len hkx, keysOf_len hky, hl])] at this
    exact this
  | other hl => exact SeqAt.RcNeAt.lists_lengths t1 t2 (bne_iff_ne.mpr fun e => hl ((size_iff v1 v2).mp e)) (Nat.lt_of_succ_lt hu)

inductive GtI (prog : Program) (w : World) (x y : List Int) (b : Bool) (rest : List (Value × Value)) : Prop
  | mk (x' y' : List Int) (xs' ys' : List Value) (hz : rest = List.zip xs' ys') (hx : ItemsAre (intKind prog w) x' xs') (hy : ItemsAre (intKind prog w) y' ys') (hd : lexGt x' y' = lexGt x y) (hl : decide (xs'.length > ys'.length) = b)
theorem GtI.step {x y : List Int} {c : Bool} {u v : Value} {rest : List (Value × Value)} (h : GtI prog w x y c ((u, v) :: rest)) : ∃ k1 k2 t1 t2, u = .int k1 t1 ∧ v = .int k2 t2 ∧ (k1 = k2 → GtI prog w x y c rest) ∧ (k1 ≠ k2 → decide (k2 < k1) = lexGt x y) := by
  obtain ⟨x', y', xs', ys', hz, hx, hy, hd, hl⟩ := h
  rcases hx with _ | ⟨h1, hx⟩
  · exact absurd hz (List.cons_ne_nil _ _)
  rcases hy with _ | ⟨h2, hy⟩
  · exact absurd hz (List.cons_ne_nil _ _)
  obtain ⟨e, rfl⟩ := List.cons.inj hz
  obtain ⟨rfl, rfl⟩ := Prod.mk.inj e
  obtain ⟨t1, rfl⟩ := Value.isInt_shape h1
  obtain ⟨t2, rfl⟩ := Value.isInt_shape h2
  refine ⟨_, _, t1, t2, rfl, rfl, fun e => ⟨_, _, _, _, rfl, hx, hy, ?_, ?_⟩, fun e => ?_⟩
  · exact (if_pos e).symm.trans hd
  · rw [← hl]; exact decide_eq_decide.mpr Nat.succ_lt_succ_iff.symm
  · exact (if_neg e).symm.trans hd
theorem GtI.fin {x y : List Int} {c : Bool} (h : GtI prog w x y c []) : c = lexGt x y := by
  obtain ⟨x', y', xs', ys', hz, hx, hy, hd, hl⟩ := h
  rcases hx with _ | ⟨h1, hx⟩
  · rcases hy with _ | ⟨h2, hy⟩ <;> exact hl.symm.trans hd
  · rcases hy with _ | ⟨h2, hy⟩
    · exact hl.symm.trans hd
    · exact absurd hz.symm (List.cons_ne_nil _ _)
theorem tuple_gt_tree {x y : List Int} {a b : Addr} {P : PySem.Fin → Shared → Prop} (hx : IsTupleKey (intKind prog w) s.heap x a) (hy : IsTupleKey (intKind prog w) s.heap y b) (h : P (.done (.ret (.bool (lexGt x y)))) s) :
    wpAny (model prog w) A (PySem.Builtin.«tuple.__gt__» ⟨[.ref a, .ref b], []⟩) P E' s := by
  have hTb := hy.typeIs
  obtain ⟨oa, xs, na, hoa, _, hda, hia⟩ := hx
  obtain ⟨ob, ys, nb, hob, _, hdb, hib⟩ := hy
  show wpAny _ _ (isInstance (.ref b) (.type "tuple") >>= _) _ _ s
  refine wpAny_bind (wpAny_isInstance hTb isSubtype_tuple_tuple ?_)
  simp only [Bool.not_true, Bool.false_eq_true, if_false]
  refine wpAny_bind (wpAny_tupleItemsOf hoa hda ?_)
  refine wpAny_bind (wpAny_tupleItemsOf hob hdb ?_)
  refine wpAny_bind ?_
  refine wpAny_forIn_list _ (fun rest r s' => r.1 = none ∧ s' = s ∧ GtI prog w x y (decide (xs.size > ys.size)) rest) _ ?_ ?_ _ _ ⟨rfl, rfl, x, y, xs.toList, ys.toList, rfl, hia, hib, rfl, rfl⟩
  · rintro ⟨u, v⟩ rest r s' ⟨hr, rfl, hG⟩
    obtain ⟨k1, k2, t1, t2, rfl, rfl, hs, hn⟩ := hG.step
    refine wpAny_bind ((intKind prog w).eqBool (a := k1) (b := k2) (beq_self_eq_true _) (beq_self_eq_true _) ?_)
    by_cases hk : k1 = k2
    · rw [decide_eq_true hk]
      exact wpAny_pure ⟨rfl, rfl, hs hk⟩
    · rw [decide_eq_false hk]
      rw [← hn hk] at h
      refine wpAny_bind (wpAny_rule (wpAny_bind (m := richCompare .Gt _ _) ?_))
      exact PySem.P.gt_int (wpAny_bind (wpAny_pure (wpAny_pure (wpAny_pure h))))
  · rintro ⟨r1, r2⟩ s' ⟨hr, rfl, hG⟩
    obtain rfl : r1 = none := hr
    refine wpAny_pure ?_
    show P (.done (.ret (.bool (decide (xs.size > ys.size))))) s'
    rw [hG.fin]; exact h

theorem gt_tup {x y : List Int} {a b : Addr} {Q : Value → Shared → Prop} (hu : A.units < cLine) (hx : IsTupleKey (intKind prog w) s.heap x a) (hy : IsTupleKey (intKind prog w) s.heap y b) (h : Q (.bool (lexGt x y)) s) :
    wpAny (model prog w) A (compareOp .Gt (.ref a) (.ref b)) Q E' s :=
  wpAny_richCompare_same_room (op := .Gt) hx.typeIs hy.typeIs PySem.F.slot_tuple_gt
    (wpAny_call_entry PySem.F.slot_tuple_gt hx.typeIs PySem.F.entry_tuple_gt (tuple_gt_tree hx hy ⟨_, rfl, (fun e => nomatch e), h⟩) (PySem.F.args_tuple_gt_2 _ _)) hu

theorem ERs.at {h : Heap} (k : List Int) {es : List (List Int × D)} : ∀ {kvs : List (List Int × Addr × Value)}, ERs μ h es kvs →
    (dget es k = none ∧ atKey kvs k = none) ∨ (∃ d p, dget es k = some d ∧ atKey kvs k = some p ∧ VR μ h d p.2) := by
  induction es with
  | nil =>
    intro _ e
    unfold ERs at e; subst e; exact .inl ⟨rfl, rfl⟩
  | cons X_ es ih =>
    obtain ⟨k', d⟩ := X_
    intro kvs e
    unfold ERs at e; obtain ⟨a, v, r, rfl, e1, e2⟩ := e
    by_cases hk : k' = k
    · exact .inr ⟨d, (a, v), by simp [dget, hk], by simp [atKey, hk], e1⟩
    · rcases ih e2 with ⟨h1, h2⟩ | ⟨d', p, h1, h2, h3⟩
      · exact .inl ⟨by simpa [dget, hk] using h1, by simpa [atKey, hk] using h2⟩
      · exact .inr ⟨d', p, by simpa [dget, hk] using h1, by simpa [atKey, hk] using h2, h3⟩

theorem notSys (I : SI prog w base μ st s.heap) {a : Addr} (ha : μ.Has a) : (a == sysModules) = false := by
  have := I.big a ha
  show (a == 1) = false
  rw [beq_eq_false_iff_ne]; intro e; subst e; exact absurd this (by decide)

noncomputable def IsKeyOf (prog : Program) (w : World) (h : Heap) (k : List Int) (y : Value) : Prop := ∃ a, y = .ref a ∧ IsTupleKey (intKind prog w) h k a

open Classical in
theorem nin_list {x : D} {xs : List D} {k : List Int} {ks : List (List Int)} {u v : Value} (hu : A.in1.units < cLine) (I : SI prog w base μ st s.heap) (hk : keyOf x = some k) (hks : keysOf xs = some ks)
    (hx : VR μ s.heap x u) (hy : VR μ s.heap (.ilst xs) v) : wpAny (model prog w) A (compareOp .NotIn u v) (PE prog w base μ fz s st (.bool (!ks.any fun y => decide (y = k)))) E' s := by
  obtain ⟨a, vs, rfl, _, t1, v1⟩ := hy
  obtain ⟨ka, rfl, _, hkey⟩ := hx.key (prog := prog) (w := w) hk
  have it : ∀ (i : Nat) (y : Value), vs[i]? = some y → ∃ k', ks[i]? = some k' ∧ ∀ prog w, IsKeyOf prog w s.heap k' y := by
    intro i y hi
    obtain ⟨d, hd, vd⟩ := v1.getV hi
    obtain ⟨k', h1, h2⟩ := keysOf_get hks hd
    exact ⟨k', h1, fun p q => by obtain ⟨b, e, _, r⟩ := vd.key (prog := p) (w := q) h2; exact ⟨b, e, r⟩⟩
  have ee : ∀ (i : Nat) (y : Value) (k' : List Int), vs[i]? = some y → ks[i]? = some k' → (decide (IsKeyOf prog w s.heap k y)) = decide (k' = k) := by
    intro i y k' h1 h2
    obtain ⟨k2, h3, h4⟩ := it i y h1
    rw [h2] at h3; obtain rfl := Option.some.inj h3
    obtain ⟨b, rfl, r⟩ := h4 prog w
    rw [Bool.eq_iff_iff, decide_eq_true_iff, decide_eq_true_iff]
    constructor
    · rintro ⟨c, e, r'⟩; cases e; exact IsTupleKey.inj r r'
    · rintro rfl; exact ⟨b, rfl, r⟩
  refine SeqAt.notIn_listAt (fun y => decide (IsKeyOf prog w s.heap k y)) t1 (fun y hy => ?_) ?_
  · obtain ⟨i, hi⟩ := List.mem_iff_getElem?.mp (by simpa using hy : y ∈ vs)
    obtain ⟨k', h1, h2⟩ := it i y hi
    rw [ee i y k' hi h1]
    obtain ⟨b, rfl, r⟩ := h2 prog w
    refine eqAt_tup hu (fun p q => ?_) fun p q => ?_
    · obtain ⟨_, e, r'⟩ := h2 p q; cases e; exact r'
    · obtain ⟨_, e, _, r'⟩ := hx.key (prog := p) (w := q) hk; cases e; exact r'
  · have : ((List.toArray vs).any fun y => decide (IsKeyOf prog w s.heap k y)) = ks.any fun y => decide (y = k) := by
      rw [Bool.eq_iff_iff, List.any_toArray, List.any_eq_true, List.any_eq_true]
      constructor
      · rintro ⟨y, hy, hq⟩
        obtain ⟨i, hi⟩ := List.mem_iff_getElem?.mp hy
        obtain ⟨k', h1, _⟩ := it i y hi
        rw [ee i y k' hi h1] at hq
        exact ⟨k', List.mem_of_getElem? h1, hq⟩
      · rintro ⟨k', hk', hq⟩
        obtain ⟨i, hi⟩ := List.mem_iff_getElem?.mp hk'
        have hl := (List.getElem?_eq_some_iff.mp hi).1
        rw [keysOf_len hks, ← v1.length] at hl
        refine ⟨vs[i], List.getElem_mem hl, ?_⟩
        rw [ee i _ k' (List.getElem?_eq_some_iff.mpr ⟨hl, rfl⟩) hi]; exact hq
    rw [this]
    exact PE.bool I _

theorem op_inn {x : D} {r : Nat} {es : List (List Int × D)} {k : List Int} {u v : Value} {n : Nat} (hA : AOk n A) (I : SI prog w base μ st s.heap) (hx : VR μ s.heap x u) (hy : VR μ s.heap (.obj r) v) (he : st[r]? = some (.dic es)) (hk : keyOf x = some k) :
    wpAny (model prog w) A (compareOp .In u v) (PE prog w base μ fz s st (.bool (dget es k).isSome)) E' s := by
  obtain ⟨ka, rfl, _, hkey⟩ := hx.key (prog := prog) (w := w) hk
  obtain ⟨a, rfl, ha⟩ := hy
  obtain ⟨kvs, hD, _, hR⟩ := I.cont _ _ _ ha he
  refine wpAny_in_heap (knd := tk prog w) hA.in1 hkey (notSys I (Mu.mem ha)) hD ?_
  have e : (atKey kvs k).isSome = (dget es k).isSome := by
    rcases hR.at k with ⟨h1, h2⟩ | ⟨_, _, h1, h2, _⟩ <;> rw [h1, h2] <;> rfl
  rw [e]
  exact PE.same I (by exact rfl)
theorem op_cmp {op : COp} {x y : D} {b : Bool} {u v : Value} {n : Nat} (hA : AOk n A) (I : SI prog w base μ st s.heap) (hx : VR μ s.heap x u) (hy : VR μ s.heap y v) (h : cmpD st op x y = some b) :
    wpAny (model prog w) A (compareOp (copOf op) u v) (PE prog w base μ fz s st (.bool b)) E' s := by
  have q := cmpI h
  clear h
  cases q with
  | eq h => exact rcAt_eqD hA.in1 hx hy h prog w _ _ (PE.bool I b)
  | ne => obtain ⟨t, rfl⟩ := hx; obtain ⟨t', rfl⟩ := hy; exact PySem.P.ne_int (by rw [bne, bd]; exact PE.bool I _)
  | neL h => exact neAt_lists hA.in1 hx hy h prog w _ _ (PE.bool I _)
  | lt => obtain ⟨t, rfl⟩ := hx; obtain ⟨t', rfl⟩ := hy; exact PySem.P.lt_int (PE.bool I _)
  | gt => obtain ⟨t, rfl⟩ := hx; obtain ⟨t', rfl⟩ := hy; exact PySem.P.gt_int (PE.bool I _)
  | gtT hkx hky =>
    obtain ⟨a1, rfl, _, h1⟩ := hx.key (prog := prog) (w := w) (show keyOf (.tup _) = some _ from hkx)
    obtain ⟨b1, rfl, _, h2⟩ := hy.key (prog := prog) (w := w) (show keyOf (.tup _) = some _ from hky)
    exact gt_tup hA.in0 h1 h2 (PE.bool I _)
  | ge => obtain ⟨t, rfl⟩ := hx; obtain ⟨t', rfl⟩ := hy; exact PySem.P.ge_int (PE.bool I _)
  | is => cases hx; cases hy; exact wpAny_is_self rfl (PE.bool I _)
  | isT => obtain ⟨a, vs, rfl, _⟩ := hx; cases hy; exact wpAny_is_other rfl (fun e => nomatch e) (PE.bool I _)
  | isnt => cases hx; cases hy; exact wpAny_isNot_plain rfl (PE.bool I _)
  | isntT => obtain ⟨a, vs, rfl, _⟩ := hx; cases hy; exact wpAny_isNot_other rfl (fun e => nomatch e) (PE.bool I _)
  | inn he hk => exact op_inn hA I hx hy he hk
  | nin hk hs => exact nin_list hA.in1 I hk hs hx hy
end Mine
end
section
open PySem PySem.W PyProof.Rows
namespace Mine
variable {prog : Program} {w : World} {A : Around} {E' : Value → Shared → Prop} {s : Shared} {base : Heap} {μ : Mu} {st : St} {fz : List Nat}

theorem subscripted_ops {slice : Expr} {o i : Value} : ∃ ops, subscripted slice false o i = operate ops (getItem o i) := by
  cases slice
  case Slice a b c p => rcases c with _ | c <;> exact ⟨_, rfl⟩
  all_goals exact ⟨_, rfl⟩
theorem seqIx {vs : List Value} {i : Int} {u : Value} (hi : 0 ≤ i ∧ i < 1024) (hu : vs[i.toNat]? = some u) : seqIndex? i (List.toArray vs).size = some i.toNat := by
  unfold seqIndex?
  rw [List.size_toArray]
  have : i.toNat < vs.length := (List.getElem?_eq_some_iff.mp hu).1
  split <;> (try split) <;> first | lia | (congr 1; lia) | rfl | (simp; lia)
theorem op_sub {x y z : D} {u v : Value} {n : Nat} {value slice : Expr} (hA : AOk n A) (I : SI prog w base μ st s.heap) (hx : VR μ s.heap x u) (hy : VR μ s.heap y v) (h : subD st x y = some z) :
    wpAny (model prog w) A (subscriptTail value slice u v) (PE prog w base μ fz s st z) E' s := by
  obtain ⟨ops, hops⟩ := subscripted_ops (slice := slice) (o := u) (i := v)
  have q := subI h
  clear h
  cases q with
  | tup hi h =>
    obtain ⟨a, vs, rfl, _, t1, v1⟩ := hx; obtain ⟨t, rfl⟩ := hy
    obtain ⟨u', hu, vu⟩ := v1.get h
    exact tail_any t1.typeIs PyProof.Rows.slot_tuple_getitem.lookup (getItem_tuple t1 (by lia) (by lia) (seqIx hi hu) (by simpa using hu) (PE.here I vu)) hops
  | ils hi h =>
    obtain ⟨a, vs, rfl, _, t1, v1⟩ := hx; obtain ⟨t, rfl⟩ := hy
    obtain ⟨u', hu, vu⟩ := v1.get h
    exact tail_any t1.typeIs PySem.slot_list_getitem.lookup (wpAny_getItem_list t1 hi.1 (by lia) (by simpa using hu) (PE.here I vu)) hops
  | lst he hi h =>
    obtain ⟨a, rfl, ha⟩ := hx; obtain ⟨t, rfl⟩ := hy
    obtain ⟨vs, k, ho, v1⟩ := I.cont _ _ _ ha he
    obtain ⟨u', hu, vu⟩ := v1.get h
    exact tail_any (Heap.IsList.typeIs ⟨_, ho, rfl, k, rfl⟩) PySem.slot_list_getitem.lookup (wpAny_getItem_list ⟨_, ho, rfl, k, rfl⟩ hi.1 (by lia) (by simpa using hu) (PE.here I vu)) hops
  | dic he hk h =>
    obtain ⟨a, rfl, ha⟩ := hx
    obtain ⟨kvs, hD, _, hR⟩ := I.cont _ _ _ ha he
    obtain ⟨ka, rfl, _, hkey⟩ := hy.key (prog := prog) (w := w) hk
    rcases hR.at _ with ⟨h1, _⟩ | ⟨d, p, h1, h2, h3⟩
    · rw [h] at h1; exact none_ne h1.symm
    · obtain rfl := Option.some.inj (h.symm.trans h1)
      exact tail_any hD.typeIs PySem.slot_dict_getitem.lookup (wpAny_getItem_heap (knd := tk prog w) hA.in1 hkey hD h2 (PE.same I h3)) hops

theorem adjust_rev (n : Nat) : PySem.Builtin.Slice.sliceAdjust none none (-1) (n : Int) = ((n : Int) - 1, -1) := by
  unfold PySem.Builtin.Slice.sliceAdjust
  have h1 : ((-1 : Int) < 0) := by lia
  simp only [h1, if_true]
theorem places_rev (n : Nat) : PySem.Builtin.Slice.slicePlaces ((n : Int) - 1) (-1) (-1) = n := by
  unfold PySem.Builtin.Slice.slicePlaces
  have h1 : ¬ ((-1 : Int) > 0) := by lia
  simp only [h1, if_false]
  split
  · rw [show (-(-1) : Int) = 1 by decide, Int.ediv_one]; lia
  · lia
theorem sliceApplied_rev {sl : Addr} {n : Nat} {u : Tok} {Q : Int × Int × Nat → Shared → Prop} (hs : s.heap.IsSliceOf sl .none .none (.int (-1) u)) (h : Q ((n : Int) - 1, -1, n) s) :
    wpAny (model prog w) A (PySem.Builtin.Slice.sliceApplied (.ref sl) (pure (n : Int))) Q E' s := by
  obtain ⟨os, hos, hcs, hds⟩ := id hs
  unfold PySem.Builtin.Slice.sliceApplied PySem.Builtin.Slice.sliceFields
  refine wpAny_bind (wpAny_bind (wpAny_field hos hds (x := .none) rfl (wpAny_bind (wpAny_field hos hds (x := .none) rfl (wpAny_bind (wpAny_field hos hds (x := .int (-1) u) rfl (wpAny_pure ?_)))))))
  refine wpAny_bind (slicePart_int ?_)
  show wpAny _ _ (if ((-1 : Int) == 0) = true then _ else _) _ _ s
  rw [if_neg (by decide)]
  refine wpAny_bind (slicePart_none (wpAny_bind (slicePart_none (wpAny_bind (wpAny_pure ?_)))))
  show wpAny _ _ (match PySem.Builtin.Slice.sliceAdjust none none (-1) (n : Int) with | (lo, hi) => pure (lo, (-1 : Int), PySem.Builtin.Slice.slicePlaces lo hi (-1))) _ _ s
  rw [adjust_rev n]
  show wpAny _ _ (pure ((n : Int) - 1, (-1 : Int), PySem.Builtin.Slice.slicePlaces ((n : Int) - 1) (-1) (-1))) _ _ s
  rw [places_rev n]
  exact wpAny_pure h
theorem fm_some {α β : Type} (f : α → Option β) (g : α → β) (l : List α) : (∀ x ∈ l, f x = some (g x)) → l.filterMap f = l.map g := by
  induction l with
  | nil =>
    intro _
    exact rfl
  | cons x r ih =>
    intro h
    rw [List.filterMap_cons, h x List.mem_cons_self, List.map_cons, ih fun y hy => h y (List.mem_cons_of_mem _ hy)]
theorem pick_rev (vs : List Value) : ((List.range vs.length).filterMap fun (k : Nat) => (List.toArray vs)[(((vs.length : Nat) : Int) - 1 + (k : Int) * -1).toNat]?).toArray = List.toArray vs.reverse := by
  congr 1
  have h : ∀ k ∈ List.range vs.length, (List.toArray vs)[(((vs.length : Nat) : Int) - 1 + (k : Int) * -1).toNat]? = some (vs.reverse.getD k default) := by
    intro k hk
    have hk := List.mem_range.mp hk
    have e : (((vs.length : Nat) : Int) - 1 + (k : Int) * -1).toNat = vs.length - 1 - k := by lia
    rw [e, List.getElem?_toArray, List.getElem?_eq_getElem (by lia), List.getD_eq_getElem?_getD, List.getElem?_reverse hk, List.getElem?_eq_getElem (by lia)]
    rfl
  have h2 : (List.range vs.length).filterMap (fun (k : Nat) => (List.toArray vs)[(((vs.length : Nat) : Int) - 1 + (k : Int) * -1).toNat]?) = (List.range vs.length).map fun k => vs.reverse.getD k default := by
    exact fm_some _ _ _ h
  rw [h2]
  apply List.ext_getElem
  · simp
  · intro i h1 h2
    simp at h1 h2
    simp [List.getD_eq_getElem?_getD, h1]

theorem getItem_tuple_rev {t sl : Addr} {vs : List Value} {u : Tok} {Q : Value → Shared → Prop} (ht : IsTup s.heap t (List.toArray vs)) (hs : s.heap.IsSliceOf sl .none .none (.int (-1) u))
    (h : Q (.ref s.heap.objs.size) { s with heap := s.heap.push { cls := .type "tuple", data := .seq (List.toArray vs.reverse) } })
    (hsz : vs.length ≤ sizeLine) : wpAny (model prog w) A (getItem (.ref t) (.ref sl)) Q E' s := by
  have hdrop : sizeOk (.seq (List.toArray vs.reverse)) := by
    show (List.toArray vs.reverse).size ≤ sizeLine
    rw [List.size_toArray, List.length_reverse]; exact hsz
  obtain ⟨os, hos, hcs, hds⟩ := id hs
  have hTs : s.TypeIs (.ref sl) "slice" := ⟨os, hos, hcs⟩
  unfold getItem
  refine wpAny_holding ?_
  refine wpAny_bind (wpAny_sequenceKey ht.typeIs (by decide) ?_)
  refine wpAny_bind (wpAny_callSpecial?_slot (name := Str.ofString "__getitem__") ht.typeIs PyProof.Rows.slot_tuple_getitem
    (wpAny_call_entry PyProof.Rows.slot_tuple_getitem ht.typeIs PyProof.Rows.entry_tuple_getitem ?_ (PyProof.Rows.args_tuple_getitem _ _)))
  show wpAny _ _ (PySem.Builtin.Tuple.tupleItemsOf (.ref t) >>= _) _ _ s
  refine wpAny_bind (tupleItemsOf_ ht ?_)
  refine wpAny_bind (wpAny_typeOf hTs ?_)
  rw [if_pos (by decide)]
  rw [show (List.toArray vs).size = vs.length from List.size_toArray ..]
  refine wpAny_bind (sliceApplied_rev hs ?_)
  have hno : ¬ ((((vs.length : Nat) : Int) - 1 == 0 && (-1 : Int) == 1 && vs.length == vs.length) = true) := by
    rw [show ((-1 : Int) == 1) = false by decide, Bool.and_false, Bool.false_and]; exact Bool.false_ne_true
  show wpAny _ _ (if (((vs.length : Nat) : Int) - 1 == 0 && (-1 : Int) == 1 && vs.length == vs.length) = true then _ else _) _ _ s
  rw [if_neg hno, pick_rev vs]
  first
    | exact wpAny_bind (m := PySem.Builtin.Tuple.tupleExact _) (wpAny_newObj_type (wpAny_pure ⟨_, rfl, wpAny_pure h⟩) hdrop)
    | exact wpAny_bind (m := PySem.Builtin.Tuple.tupleExact _) (wpAny_newObj_type (wpAny_bind (wpAny_pure (wpAny_pure ⟨_, rfl, wpAny_pure h⟩))) hdrop)
    | exact wpAny_bind (wpAny_bind (m := PySem.Builtin.Tuple.tupleExact _) (wpAny_newObj_type (wpAny_pure (wpAny_pure ⟨_, rfl, wpAny_pure h⟩)) hdrop))
    | exact wpAny_bind (wpAny_bind (m := PySem.Builtin.Tuple.tupleExact _) (wpAny_newObj_type (wpAny_pure ⟨_, rfl, wpAny_pure h⟩) hdrop))
end Mine
end
section
open PySem PySem.W PyProof.Rows
namespace Mine
variable {prog : Program} {w : World} {A : Around} {E' : Value → Shared → Prop} {s : Shared} {base : Heap} {μ : Mu} {st : St} {fz : List Nat}

/-- an iterator over a tuple or a list that is not changed -/
theorem seq_iter {d : D} {xs : List D} {v : Value} (hd : seqD d = some xs) (x : VR μ s.heap d v) : ∃ vs, VRs μ s.heap xs vs ∧
    ∀ (A : Around) (Q : Value → Shared → Prop) (E' : Value → Shared → Prop), A.handled = none →
      (∀ h' ax St, (∀ b o, s.heap.get? b = some o → h'.get? b = some o) → Walks prog w A s.heap.objs.size [s.heap.objs.size, ax] [s.heap.objs.size] vs.length (fun i v => vs[i]? = some v) St →
        St 0 h' → ax < s.heap.objs.size → h'.objs.size = s.heap.objs.size + 1 → Q (.ref s.heap.objs.size) { s with heap := h' }) → wpAny (model prog w) A (pyIter v) Q E' s := by
  cases d with
  | tup ys =>
    obtain rfl := Option.some.inj hd
    obtain ⟨a, vs, rfl, _, t1, v1⟩ := x
    refine ⟨vs, v1, fun A Q E' hh h => ?_⟩
    have hlt : a < s.heap.objs.size := by obtain ⟨_, e, _⟩ := t1; exact Heap.lt_size e
    refine wpAny_pyIter_tuple t1 (h _ a (fun i h => h.IsTupleIter s.heap.objs.size a i ∧ h.IsTuple a (List.toArray vs)) push_keeps ?_ ⟨⟨_, Heap.get?_push_size _ rfl, rfl, rfl⟩, t1.push _⟩ hlt (Heap.size_push ..))
    have := Walks.tuple (prog := prog) (w := w) hh s.heap.objs.size a (Nat.ne_of_lt hlt) (List.toArray vs)
    simpa using this
  | ilst ys =>
    obtain rfl := Option.some.inj hd
    obtain ⟨a, vs, rfl, _, t1, v1⟩ := x
    refine ⟨vs, v1, fun A Q E' hh h => ?_⟩
    have hlt : a < s.heap.objs.size := by obtain ⟨_, e, _⟩ := t1; exact Heap.lt_size e
    refine wpAny_pyIter_list t1 (h _ a (fun i h => h.IsListIter s.heap.objs.size a i ∧ h.IsList a (List.toArray vs)) push_keeps ?_ ⟨⟨_, Heap.get?_push_size _ rfl, rfl, rfl⟩, t1.push _⟩ hlt (Heap.size_push ..))
    have := Walks.list (prog := prog) (w := w) hh s.heap.objs.size a (Nat.ne_of_lt hlt) (List.toArray vs)
    simpa using this
  | _ => exact none_ne hd

theorem but_new {h h' h'' : Heap} (hk : ∀ b o, h.get? b = some o → h'.get? b = some o) (hw : ∀ b o, b ∉ [h.objs.size] → h'.get? b = some o → h''.get? b = some o) :
    ∀ b o, h.get? b = some o → h''.get? b = some o := fun b o e => hw b o (fun q => by
      rw [List.mem_singleton] at q; subst q; exact absurd (Heap.lt_size e) (Nat.lt_irrefl _)) (hk b o e)

theorem ints_len {ds : List D} : ∀ {ks : List Int}, D.ints ds = some ks → ks.length = ds.length := by
  induction ds with
  | nil =>
    intro ks h
    simp only [D.ints, Option.some.injEq] at h; subst h; rfl
  | cons d ds ih =>
    intro ks h
    cases d with
    | int i => simp only [D.ints] at h; obtain ⟨r, hr, rfl⟩ := Option.map_eq_some_iff.mp h; simp [ih hr]
    | _ => simp [D.ints] at h
theorem ints_get {ds : List D} : ∀ {ks : List Int} {i : Nat} {d : D}, D.ints ds = some ks → ds[i]? = some d → ∃ k, ks[i]? = some k ∧ d = .int k := by
  induction ds with
  | nil =>
    intro _ _ _ _ h
    simp at h
  | cons d ds ih =>
    intro ks i e h g
    cases d with
    | int j =>
      simp only [D.ints] at h; obtain ⟨r, hr, rfl⟩ := Option.map_eq_some_iff.mp h
      cases i with
      | zero => simp at g; subst g; exact ⟨j, rfl, rfl⟩
      | succ i => simp at g; obtain ⟨k', h1, h2⟩ := ih hr g; exact ⟨k', by simpa using h1, h2⟩
    | _ => simp [D.ints] at h
theorem bools_len {ds : List D} : ∀ {ks : List Bool}, D.bools ds = some ks → ks.length = ds.length := by
  induction ds with
  | nil =>
    intro ks h
    simp only [D.bools, Option.some.injEq] at h; subst h; rfl
  | cons d ds ih =>
    intro ks h
    cases d with
    | bool i => simp only [D.bools] at h; obtain ⟨r, hr, rfl⟩ := Option.map_eq_some_iff.mp h; simp [ih hr]
    | _ => simp [D.bools] at h
theorem bools_get {ds : List D} : ∀ {ks : List Bool} {i : Nat} {d : D}, D.bools ds = some ks → ds[i]? = some d → ∃ k, ks[i]? = some k ∧ d = .bool k := by
  induction ds with
  | nil =>
    intro _ _ _ _ h
    simp at h
  | cons d ds ih =>
    intro ks i e h g
    cases d with
    | bool j =>
      simp only [D.bools] at h; obtain ⟨r, hr, rfl⟩ := Option.map_eq_some_iff.mp h
      cases i with
      | zero => simp at g; subst g; exact ⟨j, rfl, rfl⟩
      | succ i => simp at g; obtain ⟨k', h1, h2⟩ := ih hr g; exact ⟨k', by simpa using h1, h2⟩
    | _ => simp [D.bools] at h

theorem preSum_take (ns : List Int) : ∀ k, k ≤ ns.length → preSum (fun i => ns.getD i 0) k = (ns.take k).sum := by
  intro k
  induction k with
  | zero => intro _; rfl
  | succ k ih =>
    intro hk
    have h1 : preSum (fun i => ns.getD i 0) (k + 1) = preSum (fun i => ns.getD i 0) k + ns.getD k 0 := by rfl
    have h2 : ns.take (k + 1) = ns.take k ++ [ns[k]] := by rw [List.take_add_one, List.getElem?_eq_getElem (by lia)]; rfl
    rw [h1, ih (by lia), h2, List.sum_append, List.getD_eq_getElem?_getD, List.getElem?_eq_getElem (show k < ns.length by lia)]
    simp

theorem argBest_max (x : Int) (r : List Int) : ∀ k, k ≤ r.length → (x :: r).getD (argBest (fun i j => decide ((x :: r).getD i 0 > (x :: r).getD j 0)) k) 0 = (r.take k).foldl (fun m y => if m < y then y else m) x := by
  intro k
  induction k with
  | zero => intro _; simp [argBest]
  | succ k ih =>
    intro hk
    have ih := ih (by lia)
    rw [List.take_add_one, List.getElem?_eq_getElem (by lia), Option.toList_some, List.foldl_append, ← ih]
    have e : (x :: r).getD (k + 1) 0 = r[k] := by simp [List.getD_eq_getElem?_getD, show k < r.length by lia]
    simp only [List.foldl_cons, List.foldl_nil]
    show (x :: r).getD (if decide ((x :: r).getD (k + 1) 0 > (x :: r).getD (argBest (fun i j => decide ((x :: r).getD i 0 > (x :: r).getD j 0)) k) 0) = true then k + 1 else argBest (fun i j => decide ((x :: r).getD i 0 > (x :: r).getD j 0)) k) 0 = _
    generalize argBest (fun i j => decide ((x :: r).getD i 0 > (x :: r).getD j 0)) k = B
    by_cases hc : (x :: r).getD B 0 < r[k]
    · rw [if_pos hc, if_pos (decide_eq_true (by rw [e]; exact hc)), e]
    · rw [if_neg hc, if_neg (by rw [e]; simpa using hc)]

theorem op_sum {d : D} {xs : List D} {ns : List Int} {v : Value} (hh : A.handled = none) (I : SI prog w base μ st s.heap) (hd : seqD d = some xs) (hn : D.ints xs = some ns) (x : VR μ s.heap d v) :
    wpAny (model prog w) A (call (.builtin "sum") [v]) (PE prog w base μ fz s st (.int ns.sum)) E' s := by
  obtain ⟨vs, hvs, hit⟩ := seq_iter (prog := prog) (w := w) hd x
  have hl : vs.length = ns.length := by rw [hvs.length, ints_len hn]
  refine call_sum_walkG (hit _ _ _ hh fun h' ax St hk W hst hax hsz => ⟨_, _, _, _, _, _, fun i => ns.getD i 0, rfl, W, hst, ?_, ?_, fun h'' tk t' hw => ?_⟩)
  · intro b hb
    rcases List.mem_cons.mp hb with rfl | hb
    · show s.heap.objs.size < h'.objs.size; rw [hsz]; exact Nat.lt_succ_self _
    · rw [List.mem_singleton] at hb; subst hb; show b < h'.objs.size; rw [hsz]; exact Nat.lt_succ_of_lt hax
  · intro i u hu
    obtain ⟨d', hd', vd⟩ := hvs.getV hu
    obtain ⟨k, hk', rfl⟩ := ints_get hn hd'
    obtain ⟨t, rfl⟩ := vd
    exact ⟨t, by show _ = Value.int (ns.getD i 0) t; rw [List.getD_eq_getElem?_getD, hk']; rfl⟩
  · rw [hl, preSum_take ns _ (Nat.le_refl _), List.take_length]
    exact PE.keeps I (but_new hk hw) (by unfold VR; exact ⟨_, rfl⟩)

theorem op_max1 {d : D} {xs : List D} {ns : List Int} {m : Int} {v : Value} (hh : A.handled = none) (I : SI prog w base μ st s.heap) (hd : seqD d = some xs) (hn : D.ints xs = some ns) (hm : maxInts ns = some m) (x : VR μ s.heap d v) :
    wpAny (model prog w) A (call (.builtin "max") [v]) (PE prog w base μ fz s st (.int m)) E' s := by
  obtain ⟨vs, hvs, hit⟩ := seq_iter (prog := prog) (w := w) hd x
  have hl : vs.length = ns.length := by rw [hvs.length, ints_len hn]
  have hval : ∀ i u, vs[i]? = some u → ∃ t, u = Value.int (ns.getD i 0) t := by
    intro i u hu
    obtain ⟨d', hd', vd⟩ := hvs.getV hu
    obtain ⟨k, hk', rfl⟩ := ints_get hn hd'
    obtain ⟨t, rfl⟩ := vd
    exact ⟨t, by show _ = Value.int (ns.getD i 0) t; rw [List.getD_eq_getElem?_getD, hk']; rfl⟩
  cases ns with
  | nil => exact none_ne hm
  | cons y r =>
    obtain rfl := Option.some.inj hm
    refine call_max_walk (hit _ _ _ hh fun h' ax St hk W hst hax hsz => ⟨_, _, _, _, _, _, fun i j => decide ((y :: r).getD i 0 > (y :: r).getD j 0), rfl, W, hst, ?_, ?_, CmpOf.ints_gt _ hval, fun u h'' tk hP hw => ?_⟩)
    · intro b hb
      rcases List.mem_cons.mp hb with rfl | hb
      · show s.heap.objs.size < h'.objs.size; rw [hsz]; exact Nat.lt_succ_self _
      · rw [List.mem_singleton] at hb; subst hb; show b < h'.objs.size; rw [hsz]; exact Nat.lt_succ_of_lt hax
    · rw [hl]; simp
    · obtain ⟨t, rfl⟩ := hval _ _ hP
      refine PE.keeps I (but_new hk hw) ?_
      unfold VR
      refine ⟨t, ?_⟩
      congr 1
      have := argBest_max y r r.length (Nat.le_refl _)
      rw [List.take_length] at this
      rw [← this, hl]; rfl

theorem op_any {xs : List D} {bs : List Bool} {v : Value} (hh : A.handled = none) (I : SI prog w base μ st s.heap) (hn : D.bools xs = some bs) (x : VR μ s.heap (.ilst xs) v) :
    wpAny (model prog w) A (call (.builtin "any") [v]) (PE prog w base μ fz s st (.bool (bs.any id))) E' s := by
  obtain ⟨vs, hvs, hit⟩ := seq_iter (prog := prog) (w := w) (show seqD (.ilst xs) = some xs from rfl) x
  have hl : vs.length = bs.length := by rw [hvs.length, bools_len hn]
  refine call_any_walk (hit _ _ _ hh fun h' ax St hk W hst hax hsz => ⟨_, _, _, _, _, _, fun i => bs.getD i false, rfl, W, hst, ?_, fun h'' tk hw => ?_⟩)
  · intro i u s' Q E hu hQ
    obtain ⟨d', hd', vd⟩ := hvs.getV hu
    obtain ⟨k, hk', rfl⟩ := bools_get hn hd'
    subst vd
    have e : bs.getD i false = k := by rw [List.getD_eq_getElem?_getD, hk']; rfl
    exact wpAny_truthy_bool (e ▸ hQ)
  · have e : ((List.range vs.length).any fun i => bs.getD i false) = bs.any id := by
      rw [hl, Bool.eq_iff_iff, List.any_eq_true, List.any_eq_true]
      constructor
      · rintro ⟨i, hi, hq⟩
        have hi := List.mem_range.mp hi
        rw [List.getD_eq_getElem?_getD, List.getElem?_eq_getElem hi] at hq
        exact ⟨bs[i], List.getElem_mem hi, hq⟩
      · rintro ⟨b, hb, hq⟩
        obtain ⟨i, hi, rfl⟩ := List.mem_iff_getElem.mp hb
        exact ⟨i, List.mem_range.mpr hi, by rw [List.getD_eq_getElem?_getD, List.getElem?_eq_getElem hi]; exact hq⟩
    rw [e]
    exact PE.keeps I (but_new hk hw) (by unfold VR; rfl)
end Mine
end
section
open PySem PySem.W PyProof.Rows
namespace Mine
variable {prog : Program} {w : World} {A : Around} {E' : Value → Shared → Prop} {s : Shared} {base : Heap} {μ : Mu} {st : St} {fz : List Nat}

noncomputable def Mu.push (μ : Mu) (a : Addr) : Mu := ⟨μ.l ++ [a], μ.z⟩
theorem Mu.push_mem {a x : Addr} (h : (μ.push a).Has x) : μ.Has x ∨ x = a := by
  rcases h with h | h
  · rcases List.mem_append.mp h with h | h
    · exact .inl (.inl h)
    · rw [List.mem_singleton] at h; exact .inr h
  · exact .inl (.inr h)
theorem fresh_pre {a : Addr} {h : Heap} (ha : h.get? a = none) : ∀ x, (μ.push a).Has x → μ.Has x ∨ h.get? x = none := fun x hx => by
  rcases Mu.push_mem hx with h | h
  · exact .inl h
  · subst h; exact .inr ha

/-- a new container -/
theorem PE.new {a : Addr} {c : Cont} {h' : Heap} {k : Nat} (I : SI prog w base μ st s.heap) (hk : ∀ b o, s.heap.get? b = some o → h'.get? b = some o) (ha : s.heap.get? a = none) (h1 : 1 < a)
    (hc : CR prog w (μ.push a) h' a c) : PE prog w base μ fz s (st ++ [c]) (.obj st.length) (.ref a) { s with heap := h', toks := k } := by
  have hn : ¬ μ.Has a := fun q => by obtain ⟨o, ho⟩ := I.alive a q; rw [ha] at ho; exact none_ne ho
  refine ⟨μ.push a, ⟨⟨[a], rfl⟩, fresh_pre ha, fun b o e _ _ => hk b o e, fun b o e => ⟨o, hk b o e⟩, fun r _ x e => ?_, rfl, fun x hx _ => ?_, rfl, rfl⟩, ⟨fun b o e => hk b o (I.keep b o e), ?_, ?_, ?_, ?_, ?_, ?_, ?_⟩, ?_⟩
  · obtain ⟨o, ho⟩ := I.alive x (Mu.mem e)
    show h'.get? x = s.heap.get? x
    rw [ho, hk x o ho]
  · obtain ⟨o, ho⟩ := I.zlive x hx
    show h'.get? x = s.heap.get? x
    rw [ho, hk x o ho]
  · show (μ.l ++ [a]).length = _
    simp [I.len]
  · show (μ.l ++ [a]).Nodup
    rw [List.nodup_append]
    exact ⟨I.nodup, by simp, fun x hx y hy => by rw [List.mem_singleton] at hy; subst hy; exact fun e => hn (e ▸ Mu.memL hx)⟩
  · intro x hx
    rcases Mu.push_mem hx with h | h
    · exact I.above x h
    · subst h
      cases e : base.get? x with
      | none => rfl
      | some o => rw [I.keep x o e] at ha; cases ha
  · intro x hx
    rcases Mu.push_mem hx with h | h
    · exact I.big x h
    · subst h; exact h1
  · intro x hx
    obtain ⟨o, ho⟩ := I.zlive x hx
    exact ⟨o, hk x o ho⟩
  · intro x hx q
    rcases List.mem_append.mp (show x ∈ μ.l ++ [a] from q) with q | q
    · exact I.apart x hx q
    · rw [List.mem_singleton] at q; subst q; exact hn (Mu.memZ hx)
  · intro r x c' e1 e2
    have e1 : (μ.l ++ [a])[r]? = some x := e1
    by_cases hr : r < μ.l.length
    · rw [List.getElem?_append_left hr] at e1
      rw [List.getElem?_append_left (by rw [← I.len]; exact hr)] at e2
      obtain ⟨o, ho⟩ := I.alive x (Mu.mem e1)
      exact (I.cont r x c' e1 e2).mono ⟨[a], rfl⟩ (fresh_pre ha) (fun b o e _ _ => hk b o e) (by rw [ho, hk x o ho])
    · have hr' := (List.getElem?_eq_some_iff.mp e1).1
      rw [List.length_append, List.length_singleton] at hr'
      have : r = μ.l.length := by lia
      subst this
      rw [List.getElem?_append_right (Nat.le_refl _), Nat.sub_self] at e1
      rw [I.len, List.getElem?_append_right (Nat.le_refl _), Nat.sub_self] at e2
      obtain rfl := Option.some.inj e1; cases e2; exact hc
  · unfold VR
    exact ⟨a, rfl, by show (μ.l ++ [a])[st.length]? = some a; rw [← I.len, List.getElem?_append_right (Nat.le_refl _), Nat.sub_self]; rfl⟩

theorem call_len_dictH {d : Addr} {kvs : List (List Int × Addr × Value)} {Q : Value → Shared → Prop} (hd : (d == sysModules) = false) (hm : s.heap.DictOfH (tk prog w) d kvs) (hfit : (kvs.length : Int) < 2 ^ 63)
    (h : Q (.int kvs.length (s.toks + 1)) { s with toks := s.toks + 1 + 1 }) : wpAny (model prog w) A (call (.builtin "len") [.ref d]) Q E' s := by
  refine call_len_slot (n := (kvs.length : Int)) hm.typeIs PySem.F.slot_dict_len (fun Q' hq => ?_) (by lia) (by lia) h
  refine wpAny_call_entry PySem.F.slot_dict_len hm.typeIs PySem.F.entry_dict_len ?_ (PySem.F.args_dict_len_1 _)
  obtain ⟨o, es, ep, ho, _, hdat, he, _, _⟩ := hm
  show wpAny _ _ (dictSize d >>= _) _ _ s
  unfold dictSize
  refine wpAny_bind (wpAny_bind (wpAny_dictEntries ho hdat (wpAny_pure ?_)))
  show wpAny _ _ (PySem.Builtin.Dict.pendingCount d >>= _) _ _ s
  refine wpAny_bind (wpAny_pendingCount_other hd ?_)
  refine wpAny_ret_mkInt ?_
  have : es.size = kvs.length := size_of_entries he
  rw [this]; exact hq

theorem ERs.length {h : Heap} : ∀ {es : List (List Int × D)} {kvs : List (List Int × Addr × Value)}, ERs μ h es kvs → kvs.length = es.length
  | [], _, e => by unfold ERs at e; subst e; rfl
  | (k, d) :: es, _, e => by unfold ERs at e; obtain ⟨a, v, r, rfl, _, e2⟩ := e; simp [e2.length]
theorem ERs.keys {h : Heap} : ∀ {es : List (List Int × D)} {kvs : List (List Int × Addr × Value)}, ERs μ h es kvs → kvs.map (·.1) = es.map (·.1)
  | [], _, e => by unfold ERs at e; subst e; rfl
  | (k, d) :: es, _, e => by unfold ERs at e; obtain ⟨a, v, r, rfl, _, e2⟩ := e; simp [e2.keys]

theorem size_lim {h : Heap} {xs : List D} {vs : List Value} (v1 : VRs μ h xs vs) (hl : xs.length < lim) : (List.toArray vs).size < lim := by rw [List.size_toArray, v1.length]; exact hl
theorem op_len {x : D} {m : Int} {v : Value} (I : SI prog w base μ st s.heap) (hx : VR μ s.heap x v) (h : LenI st x m) :
    wpAny (model prog w) A (call (.builtin "len") [v]) (PE prog w base μ fz s st (.int m)) E' s := by
  have hL : lim = 100000 := rfl
  cases h with
  | lst he hl =>
    obtain ⟨a, rfl, ha⟩ := hx
    obtain ⟨vs, k, ho, v1⟩ := I.cont _ _ _ ha he
    refine Calls.call_len_list (items := List.toArray vs) ⟨_, ho, rfl, k, rfl⟩ (by have := size_lim v1 hl; lia) ?_
    rw [List.size_toArray, v1.length]; exact PE.int I _ _ _
  | dic he hl =>
    obtain ⟨a, rfl, ha⟩ := hx
    obtain ⟨kvs, hD, _, hR⟩ := I.cont _ _ _ ha he
    refine call_len_dictH (notSys I (Mu.mem ha)) hD (by rw [hR.length]; lia) ?_
    rw [hR.length]; exact PE.int I _ _ _
  | tup hl =>
    obtain ⟨a, vs, rfl, _, t1, v1⟩ := hx
    exact PyProof.Rows.len_tuple t1 (by have := size_lim v1 hl; lia) (by rw [List.size_toArray, v1.length]; exact PE.int I _ _ _)
  | ils hl =>
    obtain ⟨a, vs, rfl, _, t1, v1⟩ := hx
    refine Calls.call_len_list t1 (by have := size_lim v1 hl; lia) ?_
    rw [List.size_toArray, v1.length]; exact PE.int I _ _ _
end Mine
end
section
open PySem PySem.W PyProof.Rows
namespace Mine
variable {prog : Program} {w : World} {A : Around} {E' : Value → Shared → Prop} {s : Shared} {base : Heap} {μ : Mu} {st : St} {fz : List Nat}

theorem filter_once {es : List DictEntry} (hn : (es.map (·.hash)).Nodup) : ∀ e ∈ es, ((es.filter (·.hash == e.hash)).length ≤ 1) := by
  induction es with
  | nil => intro e h; cases h
  | cons x r ih =>
    intro e he
    rw [List.map_cons, List.nodup_cons] at hn
    rw [List.filter_cons]
    by_cases hx : (x.hash == e.hash) = true
    · rw [if_pos hx, List.length_cons]
      have hz : r.filter (·.hash == e.hash) = [] := by
        rw [List.filter_eq_nil_iff]
        intro y hy hq
        have e1 : x.hash = e.hash := by simpa using hx
        have e2 : y.hash = e.hash := by simpa using hq
        exact hn.1 (List.mem_map.mpr ⟨y, hy, e2.trans e1.symm⟩)
      rw [hz]; exact Nat.le_refl _
    · rw [if_neg hx]
      rcases List.mem_cons.mp he with rfl | he
      · exact absurd (by simp) hx
      · exact ih hn.2 e he

theorem entriesForEmptyH {id : String} {d : Addr} {o : Obj} {es : Array DictEntry} {ep : Nat} {kvs : List (List Int × Addr × Value)} {Q : Array DictEntry → Shared → Prop} (ho : s.heap.get? d = some o) (hd : o.data = .dict es ep)
    (he : es.toList = kvs.map (entryOfKey (tk prog w))) (hk : ∀ x ∈ kvs, IsTupleKey (intKind prog w) s.heap x.1 x.2.1) (hn : (es.toList.map (·.hash)).Nodup) (h : Q es s) :
    wpAny (model prog w) A (PySem.Builtin.Dict.entriesForEmpty id d) Q E' s := by
  unfold PySem.Builtin.Dict.entriesForEmpty
  refine wpAny_bind (wpAny_dictEntries ho hd ?_)
  refine wpAny_bind ?_
  rw [← Array.forIn_toList]
  refine wpAny_forIn_list _ (fun rest _ s' => s' = s ∧ ∀ e ∈ rest, e ∈ es.toList) _ ?_ ?_ _ _ ⟨rfl, fun _ h => h⟩
  · rintro x rest b s' ⟨rfl, hr⟩
    have hx : x ∈ es.toList := hr x List.mem_cons_self
    have hx' := hx
    rw [he] at hx'
    obtain ⟨y, hy, rfl⟩ := List.mem_map.mp hx'
    have hT := (hk y hy).typeIs
    refine wpAny_bind (Q := fun _ _ => _) ?_
    unfold PySem.Builtin.Dict.quietEq
    refine wpAny_bind (wpAny_specialOf hT PySem.F.slot_tuple_eq.lookup (wpAny_pure ?_))
    have e1 : (some (Value.builtin "tuple.__eq__") == some (Value.builtin "object.__eq__")) = false := by decide
    rw [e1]
    simp only [Bool.not_false, if_true]
    have e2 : ¬ ((es.filter fun z => z.hash == (entryOfKey (tk prog w) y).hash).size > 1) := by
      have := filter_once hn _ hx
      rw [← Array.length_toList, Array.toList_filter]; lia
    rw [if_neg e2]
    exact wpAny_pure ⟨rfl, fun z hz => hr z (List.mem_cons_of_mem _ hz)⟩
  · rintro b s' ⟨rfl, _⟩
    exact wpAny_pure h

theorem dict_copy {o : Addr} {oo : Obj} {ess : Array DictEntry} {ep : Nat} {kvs : List (List Int × Addr × Value)} {P : Value → Shared → Prop} (hoS : (o == sysModules) = false) (hoo : s.heap.get? o = some oo) (hxo : oo.ExactDict) (hdo : oo.data = .dict ess ep) (hes : ess.toList = kvs.map (entryOfKey (tk prog w)))
    (hkk : ∀ x ∈ kvs, IsTupleKey (intKind prog w) s.heap x.1 x.2.1) (hhash : (ess.toList.map (·.hash)).Nodup) (hsz : ess.size ≤ sizeLine)
    (fin : ∀ h' : Heap, Heap.SameBut s.heap.objs.size (s.heap.push { cls := .type "dict", data := .dict #[] }) h' → (∃ o' ep', h'.get? s.heap.objs.size = some o' ∧ o'.ExactDict ∧ o'.data = .dict ess ep') → P (.ref s.heap.objs.size) { s with heap := h' }) :
    wpAny (model prog w) A (call (.type "dict") [.ref o]) P E' s := by
  have hdo' : s.heap.objs.size ≠ o := fun e => absurd (Heap.lt_size hoo) (by rw [← e]; exact Nat.lt_irrefl _)
  refine callType_codes (Q₁ := fun obj s₁ => obj = .ref s.heap.objs.size ∧ s₁ = { s with heap := s.heap.push { cls := .type "dict", data := .dict #[] } }) PySem.F.kt_called_dict (PySem.F.kt_typeCall_dict_1 _) PySem.F.entry_dict_init (kt_code_dict_new _ ⟨rfl, rfl⟩) ?_
  rintro obj s₁ ⟨rfl, rfl⟩
  have hTn : ({ s with heap := s.heap.push { cls := .type "dict", data := .dict #[] } } : Shared).TypeIs (.ref s.heap.objs.size) "dict" := ⟨_, Heap.get?_push_size _ rfl, rfl⟩
  have hTo : ({ s with heap := s.heap.push { cls := .type "dict", data := .dict #[] } } : Shared).TypeIs (.ref o) "dict" := ⟨oo, push_keeps _ _ hoo, hxo.1⟩
  refine ⟨hTn, PySem.F.args_dict_init_2 _ _, ?_⟩
  unfold PySem.Builtin.«dict.__init__»
  refine wpAny_bind ?_
  unfold PySem.Builtin.Dict.selfAndRest
  refine wpAny_bind (wpAny_notOrdered_dict hTn ?_)
  show wpAny _ _ (pure (s.heap.objs.size, [Value.ref o])) _ _ _
  refine wpAny_pure ?_
  show wpAny _ _ (PySem.Builtin.Dict.updateFrom "dict.__init__" s.heap.objs.size (.ref o) [] .none) _ _ _
  unfold PySem.Builtin.Dict.updateFrom
  refine wpAny_bind (wpAny_typeOf hTo ?_)
  rw [if_neg (by decide)]
  refine wpAny_bind ?_
  unfold PySem.Builtin.Dict.merge
  refine wpAny_bind ?_
  unfold PySem.Builtin.Dict.readDirectly
  refine wpAny_bind (wpAny_isInstance hTo isSubtype_dict_dict ?_)
  simp only [Bool.not_true, Bool.false_eq_true, if_false]
  refine wpAny_bind (wpAny_specialOf hTo PySem.F.slot_dict_iter.lookup (wpAny_pure ?_))
  simp only [beq_self_eq_true, if_true]
  refine wpAny_bind (wpAny_pure ?_)
  have tail : ∀ h' : Heap, Heap.SameBut s.heap.objs.size (s.heap.push { cls := .type "dict", data := .dict #[] }) h' → (∃ o' ep', h'.get? s.heap.objs.size = some o' ∧ o'.ExactDict ∧ o'.data = .dict ess ep') →
      wpAny (model prog w) A.in1.in1 (PySem.Builtin.Dict.addKeywords s.heap.objs.size [] >>= fun _ => ret Value.none) (fun fin s' => match fin with
        | .done f => wants (fun r s₂ => r = .none ∧ P (.ref s.heap.objs.size) s₂) E' (.ok f) s'
        | .again c' => c'.quiet = true ∧ codeAny (model prog w) A.in1 c' (wants (fun r s₂ => r = .none ∧ P (.ref s.heap.objs.size) s₂) E') s')
        (fun e s' => wants (fun r s₂ => r = .none ∧ P (.ref s.heap.objs.size) s₂) E' (.error e) s') { s with heap := h' } :=
    fun h' hs ho' => wpAny_bind (wpAny_pure (wpAny_pure ⟨rfl, fin h' hs ho'⟩))
  unfold PySem.Builtin.Dict.mergeDict
  rw [if_neg (by simpa using hdo')]
  unfold PySem.Builtin.Dict.showsAll
  rw [if_neg (by rw [hoS]; exact Bool.false_ne_true)]
  refine wpAny_bind (wpAny_pure ?_)
  refine wpAny_bind (wpAny_dictEntries (push_keeps _ _ hoo) hdo ?_)
  dsimp only
  by_cases h0 : ess = #[]
  · subst h0
    rw [if_neg (by simp)]
    refine wpAny_bind (wpAny_dictEpoch (push_keeps _ _ hoo) hdo (wpAny_bind (wpAny_dictEntries (push_keeps _ _ hoo) hdo (wpAny_bind ?_))))
    rw [Std.Legacy.Range.forIn_eq_forIn_range']
    refine wpAny_pure (wpAny_pure ?_)
    exact tail _ (Heap.SameBut.refl _ _) ⟨_, 0, Heap.get?_push_size _ rfl, ⟨rfl, rfl, rfl⟩, rfl⟩
  · have hne : ess.isEmpty = false := by
      rw [Array.isEmpty_eq_false_iff]; exact h0
    have hfew : (ess.all fun e => (keyPart e.key).isSome) = false := by
      obtain ⟨x, hx⟩ : ∃ x, x ∈ ess.toList := by
        cases hq : ess.toList with
        | nil => rw [← Array.isEmpty_toList, hq] at hne; cases hne
        | cons x r => exact ⟨x, List.mem_cons_self⟩
      have hx' := hx
      rw [hes] at hx'
      obtain ⟨y, hy, rfl⟩ := List.mem_map.mp hx'
      rw [← Array.all_toList, List.all_eq_false]
      exact ⟨_, hx, by simp [entryOfKey, keyPart]⟩
    rw [hfew, Bool.and_false, Bool.not_false, if_pos rfl]
    refine wpAny_bind (wpAny_dictEntries (Heap.get?_push_size _ rfl) rfl ?_)
    refine wpAny_ite_true rfl ?_
    refine wpAny_bind (entriesForEmptyH (push_keeps _ _ hoo) hdo hes (fun x hx => IsTupleKey.at' (hkk x hx) fun o2 e => push_keeps _ _ e) hhash ?_)
    rw [hne, Bool.not_false, if_pos rfl]
    refine wpAny_bind (wpAny_updateDictKeysTo (Heap.get?_push_size _ rfl) rfl (wpAny_pure ?_) ?_)
    · exact tail _ (Heap.SameBut.update ..) ⟨_, 1, Heap.get?_update_self _ (Heap.get?_push_size _ rfl) rfl, ⟨rfl, rfl, rfl⟩, rfl⟩
    · exact Nat.le_succ_of_le hsz
theorem op_dict {es : List (List Int × D)} {r : Nat} {v : Value} (I : SI prog w base μ st s.heap) (hx : VR μ s.heap (.obj r) v) (he : st[r]? = some (.dic es)) (hl : es.length < lim)
    (hn : (es.map fun e => hsh e.1).Nodup) (h2 : ∃ o, base.get? 2 = some o) :
    wpAny (model prog w) A (call (.type "dict") [v]) (PE prog w base μ fz s (st ++ [.dic es]) (.obj st.length)) E' s := by
  obtain ⟨o, rfl, ha⟩ := hx
  have hoS := notSys I (Mu.mem ha)
  obtain ⟨kvs, hD, hμ, hR⟩ := I.cont _ _ _ ha he
  obtain ⟨oo, ess, ep, hoo, hxo, hdo, hes, hkk, hnd⟩ := id hD
  have hsz : ess.size = es.length := by rw [size_of_entries hes, hR.length]
  have hhash : (ess.toList.map (·.hash)).Nodup := by
    have : ess.toList.map (·.hash) = es.map fun e => hsh e.1 := by
      rw [hes, List.map_map, show (es.map fun e => hsh e.1) = (es.map (·.1)).map hsh by rw [List.map_map]; rfl, ← hR.keys, List.map_map]
      rfl
    rw [this]; exact hn
  have big : 1 < s.heap.objs.size := by
    obtain ⟨o2, ho2⟩ := h2
    exact Nat.lt_of_lt_of_le (by decide) (Nat.le_of_lt (Heap.lt_size (I.keep 2 o2 ho2)))
  have fr : s.heap.get? s.heap.objs.size = none := fresh_none (Nat.le_refl _)
  refine dict_copy hoS hoo hxo hdo hes hkk hhash (by rw [hsz]; exact lim_size hl) ?_
  rintro h' hs ⟨o', ep', ho', hx', hd'⟩
  have hk : ∀ b x, s.heap.get? b = some x → h'.get? b = some x := fun b x e => (hs.2 b (Nat.ne_of_lt (Heap.lt_size e))).trans (push_keeps b x e)
  refine PE.new I hk fr big ⟨kvs, ⟨o', ess, ep', ho', hx', hd', hes, fun x hx => ?_, hnd⟩, fun x hx q => ?_, ?_⟩
  · exact IsTupleKey.at' (hkk x hx) fun o2 e => hk _ _ e
  · rcases Mu.push_mem q with q | q
    · exact hμ x hx q
    · skip
      obtain ⟨ok, hok, _⟩ := isTupleKey_tuple (hkk x hx)
      rw [q, fr] at hok; exact none_ne hok
  · exact hR.mono ⟨[_], rfl⟩ (fresh_pre fr) fun b o e _ _ => hk b o e

theorem VR.tupOfLst {xs : List D} {vs : List Value} {h : Heap} (x : VRs μ h xs vs) {h' : Heap} (hk : ∀ b o, h.get? b = some o → h'.get? b = some o) (hn : ¬ μ.Has h'.objs.size) :
    VR μ (h'.push { cls := .type "tuple", data := .seq (List.toArray vs) }) (.tup xs) (.ref h'.objs.size) := VR.newTup hn (x.keeps hk)

noncomputable def bltV : Blt → Value
  | .len => .builtin "len" | .abs => .builtin "abs" | .sum => .builtin "sum" | .max => .builtin "max" | .any => .builtin "any"
  | .tuple => .type "tuple" | .dict => .type "dict" | .int => .type "int"

theorem VRs.one {h : Heap} {d : D} {vs : List Value} (x : VRs μ h [d] vs) : ∃ v, vs = [v] ∧ VR μ h d v := by
  obtain ⟨v, r, rfl, h1, h2⟩ := x; subst h2; exact ⟨v, rfl, h1⟩
theorem VRs.two {h : Heap} {d e : D} {vs : List Value} (x : VRs μ h [d, e] vs) : ∃ v u, vs = [v, u] ∧ VR μ h d v ∧ VR μ h e u := by
  obtain ⟨v, r, rfl, h1, h2⟩ := x; obtain ⟨u, rfl, h3⟩ := h2.one; exact ⟨v, u, rfl, h1, h3⟩

/-- what an answer of a builtin tells of its call -/
theorem op_blt {b : Blt} {ds : List D} {vs : List Value} {z : D} {st' : St} {n : Nat} (hA : AOk n A) (I : SI prog w base μ st s.heap) (h2 : ∃ o, base.get? 2 = some o) (hx : VRs μ s.heap ds vs) (h : bltD b ds st = some (z, st')) :
    wpAny (model prog w) A (call (bltV b) vs) (PE prog w base μ fz s st' z) E' s := by
  have q := bi_of h
  clear h
  cases q with
  | len h => obtain ⟨v, rfl, x1⟩ := hx.one; exact op_len I x1 h
  | abs =>
    obtain ⟨v, rfl, x1⟩ := hx.one
    obtain ⟨t, rfl⟩ := x1
    exact call_abs_int fun t' k => PE.int I _ _ _
  | sum hxs hns => obtain ⟨v, rfl, x1⟩ := hx.one; exact op_sum hA.handled I hxs hns x1
  | max1 hxs hns hm => obtain ⟨v, rfl, x1⟩ := hx.one; exact op_max1 hA.handled I hxs hns hm x1
  | max2 =>
    obtain ⟨v, u, rfl, x1, x2⟩ := hx.two
    obtain ⟨t, rfl⟩ := x1; obtain ⟨t', rfl⟩ := x2
    refine max_two_ints hA.handled fun h' k hk => ?_
    split
    · exact PE.keeps I hk (by unfold VR; exact ⟨_, rfl⟩)
    · exact PE.keeps I hk (by unfold VR; exact ⟨_, rfl⟩)
  | any hbs => obtain ⟨v, rfl, x1⟩ := hx.one; exact op_any hA.handled I hbs x1
  | tuple hl =>
    obtain ⟨v, rfl, x1⟩ := hx.one
    obtain ⟨a, vs, rfl, _, t1, v1⟩ := x1
    refine call_tuple_list t1 (fun h' hk => ?_) ?_
    · have fr : ¬ μ.Has h'.objs.size := fun q => by
        obtain ⟨o, ho⟩ := I.alive _ q
        exact Nat.lt_irrefl _ (Heap.lt_size (hk _ _ ho))
      exact ⟨μ, Stp.ofKeep (fun b o e => push_keeps _ _ (hk b o e)) I.alive, I.keeps (fun b o e => push_keeps _ _ (hk b o e)), VR.newTup fr (v1.keeps hk)⟩
    · rw [List.size_toArray, v1.length]; exact lim_size hl
  | dict he hl hn => obtain ⟨v, rfl, x1⟩ := hx.one; exact op_dict I x1 he hl hn h2
  | int =>
    obtain ⟨v, rfl, x1⟩ := hx.one
    obtain ⟨t, rfl⟩ := x1
    exact PySem.call_int_int (PE.here I (by unfold VR; exact ⟨_, rfl⟩))
end Mine
end
section
open PySem PySem.W PyProof.Rows
namespace Mine
variable {prog : Program} {w : World} {A : Around} {E' : Value → Shared → Prop} {s : Shared} {base : Heap} {μ : Mu} {st : St} {fz : List Nat}

/-- one container has a new content -/
theorem PE.set {r : Nat} {a : Addr} {c c' : Cont} {h' : Heap} {k : Nat} {d : D} {v : Value} (I : SI prog w base μ st s.heap) (ha : μ.l[r]? = some a) (he : st[r]? = some c) (hr : r ∉ fz) (hs : Heap.SameBut a s.heap h')
    (hc : CR prog w μ h' a c') (hv : VR μ h' d v) : PE prog w base μ fz s (st.set r c') d v { s with heap := h', toks := k } := by
  have ham : μ.Has a := Mu.mem ha
  have hk : ∀ b o, s.heap.get? b = some o → isSeq o → ¬ μ.Has b → h'.get? b = some o := fun b o e _ hb => (hs.2 b fun q => hb (q ▸ ham)).trans e
  have hne : ∀ r' a', μ.l[r']? = some a' → r' ≠ r → a' ≠ a := fun r' a' e1 e2 e3 => by
    subst e3
    exact e2 ((List.getElem?_inj (List.getElem?_eq_some_iff.mp e1).1 I.nodup).mp (e1.trans ha.symm))
  have hzn : ∀ x ∈ μ.z, x ≠ a := fun x hx e => I.apart x hx (e ▸ List.mem_of_getElem? ha)
  refine ⟨μ, ⟨List.prefix_refl _, fun _ h => .inl h, fun b o e hb _ => (hs.2 b fun q => hb (q ▸ ham)).trans e, fun b o e => ?_, fun r' hr' a' e => ?_, rfl, fun x hx _ => hs.2 x (hzn x hx), rfl, rfl⟩, ⟨fun b o e => ?_, ?_, I.nodup, I.above, I.big, fun x hx => ?_, I.apart, fun r' a' c2 e1 e2 => ?_⟩, hv⟩
  · by_cases hb : b = a
    · subst hb; exact hc.alive
    · exact ⟨o, (hs.2 b hb).trans e⟩
  · exact hs.2 a' (hne r' a' e fun q => hr (q ▸ hr'))
  · have : b ≠ a := fun q => by have := I.above a ham; rw [← q, e] at this; cases this
    exact (hs.2 b this).trans (I.keep b o e)
  · rw [List.length_set]; exact I.len
  · obtain ⟨o, ho⟩ := I.zlive x hx
    exact ⟨o, (hs.2 x (hzn x hx)).trans ho⟩
  · by_cases hrr : r' = r
    · subst hrr
      rw [ha] at e1; obtain rfl := Option.some.inj e1
      have hl := (List.getElem?_eq_some_iff.mp he).1
      rw [List.getElem?_set_self hl] at e2; obtain rfl := Option.some.inj e2
      exact hc
    · rw [List.getElem?_set_ne (fun q => hrr q.symm)] at e2
      exact (I.cont r' a' c2 e1 e2).mono (List.prefix_refl _) (fun _ h => .inl h) hk (hs.2 a' (hne r' a' e1 hrr))

theorem VR.same' {h h' : Heap} {a : Addr} {d : D} {v : Value} (ham : μ.Has a) (x : VR μ h d v) (hs : Heap.SameBut a h h') : VR μ h' d v :=
  x.mono (List.prefix_refl _) (fun _ h => .inl h) fun b o e _ hb => (hs.2 b fun q => hb (q ▸ ham)).trans e
theorem VRs.same' {h h' : Heap} {a : Addr} {d : List D} {v : List Value} (ham : μ.Has a) (x : VRs μ h d v) (hs : Heap.SameBut a h h') : VRs μ h' d v :=
  x.mono (List.prefix_refl _) (fun _ h => .inl h) fun b o e _ hb => (hs.2 b fun q => hb (q ▸ ham)).trans e
theorem ERs.same' {h h' : Heap} {a : Addr} {d : List (List Int × D)} {v : List (List Int × Addr × Value)} (ham : μ.Has a) (x : ERs μ h d v) (hs : Heap.SameBut a h h') : ERs μ h' d v :=
  x.mono (List.prefix_refl _) (fun _ h => .inl h) fun b o e _ hb => (hs.2 b fun q => hb (q ▸ ham)).trans e

theorem lim_le {n : Nat} (h : n < lim) : n ≤ sizeLine := lim_size h

theorem op_append {r : Nat} {x : D} {xs : List D} {v u : Value} (I : SI prog w base μ st s.heap) (hv : VR μ s.heap (.obj r) v) (hu : VR μ s.heap x u) (he : st[r]? = some (.lst xs)) (hl : xs.length < lim) (hr : r ∉ fz) :
    wpAny (model prog w) A (call (.builtin "list.append") [v, u]) (PE prog w base μ fz s (st.set r (.lst (xs ++ [x]))) .none) E' s := by
  obtain ⟨a, rfl, ha⟩ := hv
  obtain ⟨vs, n, ho, v1⟩ := I.cont _ _ _ ha he
  have ham : μ.Has a := Mu.mem ha
  refine wpAny_list_append_plain (items := List.toArray vs) ⟨n, ho⟩ (fun h' hp hs => ?_) (by rw [List.size_toArray, v1.length]; exact lim_le hl)
  obtain ⟨n', hp⟩ := hp
  exact PE.set I ha he hr hs ⟨vs ++ [u], n', by rw [hp]; simp, (v1.same' ham hs).append (VRs.cons (hu.same' ham hs) VRs.nil)⟩ (by unfold VR; rfl)

theorem erase_filter {α : Type} {k : List Int} {p : α} {kvs : List (List Int × α)} : ∀ {j : Nat}, (kvs.map (·.1)).Nodup → kvs[j]? = some (k, p) → kvs.eraseIdx j = kvs.filter fun e => !decide (e.1 = k) := by
  induction kvs with
  | nil =>
    intro j _ h
    simp at h
  | cons x r ih =>
    intro j hn h
    rw [List.map_cons, List.nodup_cons] at hn
    cases j with
    | zero =>
      simp at h; subst h
      rw [List.eraseIdx_zero, List.tail_cons, List.filter_cons, if_neg (by simp)]
      rw [List.filter_eq_self.mpr]
      intro y hy
      have : ¬ y.1 = k := fun e => hn.1 (List.mem_map.mpr ⟨y, hy, e⟩)
      simp [this]
    | succ j =>
      simp at h
      have hx : ¬ x.1 = k := fun e => hn.1 (by rw [e]; exact List.mem_map.mpr ⟨(k, p), List.mem_of_getElem? h, rfl⟩)
      rw [List.eraseIdx_cons_succ, List.filter_cons, if_pos (by simp [hx]), ih hn.2 h]

theorem ERs.del {h : Heap} (k : List Int) {es : List (List Int × D)} : ∀ {kvs : List (List Int × Addr × Value)}, ERs μ h es kvs → ERs μ h (ddel es k) (kvs.filter fun e => !decide (e.1 = k)) := by
  induction es with
  | nil =>
    intro _ e
    unfold ERs at e; subst e; unfold ERs ddel; rfl
  | cons X_ es ih =>
    obtain ⟨k', d⟩ := X_
    intro _ e
    unfold ERs at e; obtain ⟨a, v, r, rfl, e1, e2⟩ := e
    have ih := ih e2
    unfold ddel at ih ⊢
    rw [List.filter_cons, List.filter_cons]
    by_cases hk : k' = k
    · rw [if_neg (by simp [hk]), if_neg (by simp [hk])]; exact ih
    · rw [if_pos (by simp [hk]), if_pos (by simp [hk])]
      unfold ERs; exact ⟨a, v, _, rfl, e1, ih⟩

theorem map_eraseIdx' {α β : Type} (f : α → β) : ∀ (l : List α) (i : Nat), (l.map f).eraseIdx i = (l.eraseIdx i).map f
  | [], _ => rfl
  | _ :: _, 0 => rfl
  | x :: r, i + 1 => by rw [List.map_cons, List.eraseIdx_cons_succ, List.eraseIdx_cons_succ, List.map_cons, map_eraseIdx' f r i]

theorem ERs.snoc {h : Heap} {k : List Int} {d : D} {a : Addr} {v : Value} {es : List (List Int × D)} : ∀ {kvs : List (List Int × Addr × Value)}, ERs μ h es kvs → VR μ h d v → ERs μ h (es ++ [(k, d)]) (kvs ++ [(k, a, v)]) := by
  induction es with
  | nil =>
    intro _ e hv
    unfold ERs at e; subst e; show ERs μ h [(k, d)] [(k, a, v)]; unfold ERs; exact ⟨a, v, [], rfl, hv, by unfold ERs; rfl⟩
  | cons X_ es ih =>
    obtain ⟨k', d'⟩ := X_
    intro _ e hv
    unfold ERs at e; obtain ⟨a', v', r, rfl, e1, e2⟩ := e
    rw [List.cons_append, List.cons_append]; unfold ERs; exact ⟨a', v', _, rfl, e1, ih e2 hv⟩
theorem ERs.map {h : Heap} {k : List Int} {d : D} {v : Value} {es : List (List Int × D)} : ∀ {kvs : List (List Int × Addr × Value)}, ERs μ h es kvs → VR μ h d v → ERs μ h (es.map (fun e => if e.1 = k then (e.1, d) else e)) (kvs.map (putAt k v)) := by
  induction es with
  | nil =>
    intro _ e hv
    unfold ERs at e; subst e; unfold ERs; rfl
  | cons X_ es ih =>
    obtain ⟨k', d'⟩ := X_
    intro _ e hv
    unfold ERs at e; obtain ⟨a', v', r, rfl, e1, e2⟩ := e
    rw [List.map_cons, List.map_cons]
    by_cases hk : k' = k
    · rw [if_pos hk, putAt, if_pos hk]; unfold ERs; exact ⟨a', v, _, rfl, hv, ih e2 hv⟩
    · rw [if_neg hk, putAt, if_neg hk]; unfold ERs; exact ⟨a', v', _, rfl, e1, ih e2 hv⟩
theorem VRs.set {h : Heap} {x : D} {u : Value} : ∀ {ds : List D} {vs : List Value} {j : Nat}, VRs μ h ds vs → VR μ h x u → VRs μ h (ds.set j x) (vs.set j u)
  | [], _, _, e, _ => by subst e; exact VRs.nil
  | d :: ds, _, j, e, hu => by
    obtain ⟨v, r, rfl, e1, e2⟩ := e
    cases j with
    | zero => exact VRs.cons hu e2
    | succ j => exact VRs.cons e1 (e2.set hu)

theorem takeOutH {d ka : Addr} {k : List Int} {kvs : List (List Int × Addr × Value)} {Q : Option DictEntry → Shared → Prop} (hu : (tk prog w).room A) (hkey : IsTupleKey (ik prog w) s.heap k ka) (hm : s.heap.DictOfH (tk prog w) d kvs)
    (hnone : atKey kvs k = none → ∀ t, Q none { s with toks := t })
    (hsome : ∀ e p, atKey kvs k = some p → e.val = p.2 → ∀ h' t, h'.DictOfH (tk prog w) d (kvs.filter fun e => !decide (e.1 = k)) → Heap.SameBut d s.heap h' → Q (some e) { s with heap := h', toks := t })
    (hsz : kvs.length ≤ sizeLine) : wpAny (model prog w) A (PySem.Builtin.Dict.takeOut d (.ref ka)) Q E' s := by
  obtain ⟨o, es, ep, ho, hc, hd, he, his, hn⟩ := hm
  have hes : es.size ≤ sizeLine := by rw [size_of_entries he]; exact hsz
  unfold PySem.Builtin.Dict.takeOut
  try with_reducible refine wpAny_holding ?_
  refine wpAny_bind ((tk prog w).pyHash hu hkey (wpAny_bind (wpAny_dictFind_heap (knd := tk prog w) (s := { s with toks := s.toks + (tk prog w).draws k }) hu hkey ho hd he his hn ?_ ?_)))
  · intro hno
    exact wpAny_pure (hnone (atKey_none_of_get hno) _)
  · intro j p hj
    refine wpAny_bind (wpAny_dictEntries (s := { s with toks := s.toks + (tk prog w).draws k }) ho hd ?_)
    rw [entry_at he j, hj]
    refine wpAny_bind (wpAny_updateDictKeys (hz := hes) (s := { s with toks := s.toks + (tk prog w).draws k }) ho hd (wpAny_pure (hsome _ p (atKey_of_get hn hj) rfl _ _ ⟨_, _, ep + 1, Heap.get?_update_self _ ho (Obj.isFreed_of_dict (Obj.data_mapDictKeys hd _)),
      hc.mapDictKeys _, Obj.data_mapDictKeys hd _, ?_, ?_, ?_⟩ (Heap.SameBut.update ..))))
    · rw [← erase_filter hn hj]
      obtain ⟨l⟩ := es
      simp only [List.eraseIdxIfInBounds_toArray]
      simp only at he
      rw [he, map_eraseIdx']
    · intro x hx
      exact (tk prog w).keeps (his x (List.mem_filter.mp hx).1) ho hd (Heap.SameBut.update ..)
    · exact (List.filter_sublist.map _).nodup hn

theorem pop_core {r : Nat} {x : D} {k : List Int} {es : List (List Int × D)} {a ka : Addr} {ms : List Value} {z : D} {st' : St} {dflt : Option Value} {n : Nat} (hA : AOk n A) (I : SI prog w base μ st s.heap) (ha : μ.l[r]? = some a) (hu : VR μ s.heap x (.ref ka))
    (he : st[r]? = some (.dic es)) (hk : keyOf x = some k) (hl : es.length < lim) (hr : r ∉ fz)
    (hres : (dget es k = some z ∧ st.set r (.dic (ddel es k)) = st') ∨ (dget es k = none ∧ ∃ y, dflt = some y ∧ VR μ s.heap z y ∧ st = st')) (hargs : argsOk "dict.pop" ⟨.ref a :: .ref ka :: ms, []⟩)
    (hkd : s.TypeIs (.ref a) "dict" → ∀ Q : Addr × Value × Option Value → Shared → Prop, Q (a, .ref ka, dflt) s → wpAny (model prog w) A.in1 (PySem.Builtin.Dict.keyAndDefault "pop" ⟨.ref a :: .ref ka :: ms, []⟩) Q E' s) :
    wpAny (model prog w) A (call (.builtin "dict.pop") (.ref a :: .ref ka :: ms)) (PE prog w base μ fz s st' z) E' s := by
  obtain ⟨kvs, hD, hμ, hR⟩ := I.cont _ _ _ ha he
  have ham : μ.Has a := Mu.mem ha
  obtain ⟨_, ek, hkn, hkey⟩ := hu.key (prog := prog) (w := w) hk
  obtain rfl := Value.ref.inj ek
  obtain ⟨oo, ess, ep, hoo, hxo, hdo, hes, hkk, hnd⟩ := id hD
  have hsz : kvs.length ≤ sizeLine := by rw [hR.length]; exact lim_le hl
  refine wpAny_call_entry PySem.F.slot_dict_pop hD.typeIs PySem.F.entry_dict_pop ?_ hargs
  unfold PySem.Builtin.«dict.pop»
  refine wpAny_bind (hkd hD.typeIs _ ?_)
  dsimp only
  have e0 : (keyPart (Value.ref ka)).isSome = false := rfl
  rw [e0]
  simp only [Bool.false_eq_true, if_false]
  refine wpAny_bind (m := dictEntries a _) (wpAny_dictEntries hoo hdo (wpAny_bind (wpAny_pure ?_)))
  have missing : dget es k = none → ∀ t, wpAny (model prog w) A.in1 (do
      if (none : Option DictEntry).isNone then PySem.Builtin.Dict.missedRemoval a (.ref ka)
      match (none : Option DictEntry), dflt with
        | some e, _ => letGo [e.key] [e.val]; ret e.val
        | none, some x => rule "dict.pop.default"; ret x
        | none, none => rule "dict.pop.keyerror"; raiseNew (← newExc (.type "KeyError") [.ref ka])) (fun fin s' => ∃ v, fin = .done (.ret v) ∧ PE prog w base μ fz s st' z v s') E' { s with toks := t } := by
    intro hn t
    rcases hres with ⟨q, _⟩ | ⟨_, y, rfl, hy, rfl⟩
    · rw [hn] at q; exact none_ne q
    simp only [Option.isNone_none, if_true]
    refine wpAny_bind ?_
    unfold PySem.Builtin.Dict.missedRemoval
    rw [if_neg (by rw [notSys I ham]; exact Bool.false_ne_true)]
    refine wpAny_pure ?_
    exact wpAny_bind (wpAny_rule (wpAny_pure ⟨_, rfl, PE.same I hy⟩))
  by_cases h0 : ess.isEmpty = true
  · rw [if_pos h0]
    have hes0 : es = [] := by
      have : ess.size = 0 := by rw [Array.isEmpty_iff] at h0; rw [h0]; rfl
      rw [size_of_entries hes, hR.length] at this
      exact List.length_eq_zero_iff.mp this
    refine wpAny_bind (wpAny_bind (wpAny_rule (wpAny_pure ?_)))
    exact missing (by rw [hes0]; rfl) s.toks
  · rw [if_neg h0]
    refine wpAny_bind (takeOutH hA.in1 hkey hD (fun hn t => ?_) (fun e p hp hev h' t hD' hs => ?_) hsz)
    · rcases hR.at k with ⟨q, _⟩ | ⟨_, _, _, q, _⟩
      · exact missing q t
      · rw [hn] at q; exact none_ne q
    · rcases hR.at k with ⟨_, q⟩ | ⟨d, p', q1, q2, q3⟩
      · rw [hp] at q; exact none_ne q.symm
      · obtain rfl := Option.some.inj (hp.symm.trans q2)
        rcases hres with ⟨q, rfl⟩ | ⟨q, _⟩
        rotate_left
        · rw [q] at q1; exact none_ne q1
        obtain rfl := Option.some.inj (q.symm.trans q1)
        simp only [Option.isNone_some, Bool.false_eq_true, if_false]
        refine wpAny_bind (wpAny_letGo (wpAny_pure ⟨_, rfl, ?_⟩))
        rw [hev]
        exact PE.set I ha he hr hs ⟨_, hD', fun x hx => hμ x (List.mem_filter.mp hx).1, (hR.del k).same' ham hs⟩ (q3.same' ham hs)
theorem op_pop {r : Nat} {x : D} {k : List Int} {es : List (List Int × D)} {v u : Value} {more : List D} {ms : List Value} {z : D} {st' : St} {n : Nat} (hA : AOk n A) (I : SI prog w base μ st s.heap) (hv : VR μ s.heap (.obj r) v) (hu : VR μ s.heap x u)
    (he : st[r]? = some (.dic es)) (hk : keyOf x = some k) (hl : es.length < lim) (hr : r ∉ fz) (h : popD r st es k more = some (z, st')) (hmo : VRs μ s.heap more ms) :
    wpAny (model prog w) A (call (.builtin "dict.pop") (v :: u :: ms)) (PE prog w base μ fz s st' z) E' s := by
  obtain ⟨a, rfl, ha⟩ := hv
  obtain ⟨ka, rfl, _⟩ := hu.key (prog := prog) (w := w) hk
  rcases popO_s h with ⟨y, e, rfl, rfl, rfl⟩ | ⟨e, e2, rfl | ⟨y, rfl⟩⟩
  · obtain ⟨yv, rfl, hy⟩ := hmo.one
    exact pop_core (dflt := some yv) hA I ha hu he hk hl hr (.inr ⟨e, yv, rfl, hy, rfl⟩) (PySem.F.args_dict_pop_3 _ _ _) fun hT Q hq => by
      unfold PySem.Builtin.Dict.keyAndDefault
      exact wpAny_bind (wpAny_notOrdered_dict hT (wpAny_pure hq))
  · subst hmo
    exact pop_core (dflt := none) hA I ha hu he hk hl hr (.inl ⟨e, e2⟩) (PySem.F.args_dict_pop_2 _ _) fun hT Q hq => by
      unfold PySem.Builtin.Dict.keyAndDefault
      exact wpAny_bind (wpAny_notOrdered_dict hT (wpAny_pure hq))
  · obtain ⟨yv, rfl, hy⟩ := hmo.one
    exact pop_core (dflt := some yv) hA I ha hu he hk hl hr (.inl ⟨e, e2⟩) (PySem.F.args_dict_pop_3 _ _ _) fun hT Q hq => by
      unfold PySem.Builtin.Dict.keyAndDefault
      exact wpAny_bind (wpAny_notOrdered_dict hT (wpAny_pure hq))
theorem mapSeq_set_plain (its : Array Value) (n j : Nat) (x : Value) :
    Obj.mapSeq (·.setIfInBounds j x) { cls := .type "list", data := .seq its n } = { cls := .type "list", data := .seq (its.setIfInBounds j x) n } := by
  simp [Obj.mapSeq]
theorem op_setList {r : Nat} {x : D} {xs : List D} {i : Int} {t : Tok} {v u : Value} (I : SI prog w base μ st s.heap) (hv : VR μ s.heap (.obj r) v) (hu : VR μ s.heap x u) (he : st[r]? = some (.lst xs))
    (h0 : 0 ≤ i ∧ i < 1024 ∧ i.toNat < xs.length) (hr : r ∉ fz) :
    wpAny (model prog w) A (setItem v (.int i t) u) (fun _ s' => PE prog w base μ fz s (st.set r (.lst (xs.set i.toNat x))) .none .none s') E' s := by
  obtain ⟨a, rfl, ha⟩ := hv
  obtain ⟨vs, n, ho, v1⟩ := I.cont _ _ _ ha he
  have ham : μ.Has a := Mu.mem ha
  have hl : s.heap.IsList a (List.toArray vs) := ⟨_, ho, rfl, n, rfl⟩
  obtain ⟨h0, hfit, hn⟩ := h0
  unfold setItem
  try with_reducible refine wpAny_holding ?_
  refine wpAny_bind (wpAny_sequenceKey hl.typeIs (by decide) ?_)
  refine wpAny_bind (wpAny_callSpecial?_slot (name := Str.ofString "__setitem__") hl.typeIs slot_list_setitem
    (wpAny_call_entry slot_list_setitem hl.typeIs entry_list_setitem ?_ (args_list_setitem _ _ _)))
  show wpAny _ _ (PySem.Builtin.List.listSubscript? (.int i t) >>= _) _ _ s
  refine wpAny_bind (wpAny_listSubscript_int (fitsIndex_of h0 (by lia)) ?_)
  obtain ⟨j, rfl⟩ := Int.eq_ofNat_of_zero_le h0
  have hj : j < (List.toArray vs).size := by rw [List.size_toArray, v1.length]; exact hn
  have hx' : (List.toArray vs)[j]? = some (List.toArray vs)[j] := Array.getElem?_eq_getElem hj
  show wpAny _ _ ((seqItemAt a j >>= fun r => pure (r.map (j, ·))) >>= _) _ _ s
  refine wpAny_bind (wpAny_bind (wpAny_seqItemAt ho rfl (wpAny_pure ?_)))
  rw [hx']
  show wpAny _ _ (setSeqItemAt a j u >>= _) _ _ s
  have fin : PE prog w base μ fz s (st.set r (.lst (xs.set j x))) .none .none { s with heap := s.heap.update a (Obj.mapSeq (·.setIfInBounds j u)) } := by
    have hs : Heap.SameBut a s.heap (s.heap.update a (Obj.mapSeq (·.setIfInBounds j u))) := Heap.SameBut.update ..
    refine PE.set I ha he hr hs ⟨vs.set j u, n, (Heap.get?_update_self _ ho (by rw [mapSeq_set_plain]; rfl)).trans (by rw [mapSeq_set_plain]; simp), ?_⟩ (by unfold VR; rfl)
    exact (v1.same' ham hs).set (hu.same' ham hs)
  refine wpAny_bind (wpAny_setSeqItemAt ho rfl ?_)
  first
    | exact wpAny_bind (wpAny_pure (wpAny_pure ⟨.none, rfl, wpAny_pure fin⟩))
    | exact wpAny_pure ⟨.none, rfl, wpAny_pure fin⟩

theorem ERs.put {h : Heap} {k : List Int} {d : D} {a : Addr} {v : Value} {es : List (List Int × D)} {kvs : List (List Int × Addr × Value)} (x : ERs μ h es kvs) (hv : VR μ h d v) : ERs μ h (dput es k d) (storedH kvs k a v) := by
  unfold dput
  rcases x.at k with ⟨h1, h2⟩ | ⟨d', p, h1, h2, h3⟩
  · rw [storedH_new h2, if_neg (by rw [h1]; decide)]
    exact x.snoc hv
  · rw [storedH_old h2, if_pos (by rw [h1]; rfl)]
    exact x.map hv

theorem op_setDict {r : Nat} {x y : D} {k : List Int} {es : List (List Int × D)} {v u z : Value} {n : Nat} (hA : AOk n A) (I : SI prog w base μ st s.heap) (hv : VR μ s.heap (.obj r) v) (hk : VR μ s.heap y z) (hu : VR μ s.heap x u) (he : st[r]? = some (.dic es))
    (hy : keyOf y = some k) (hl : es.length < lim) (hr : r ∉ fz) :
    wpAny (model prog w) A (setItem v z u) (fun _ s' => PE prog w base μ fz s (st.set r (.dic (dput es k x))) .none .none s') E' s := by
  obtain ⟨a, rfl, ha⟩ := hv
  obtain ⟨kvs, hD, hμ, hR⟩ := I.cont _ _ _ ha he
  have ham : μ.Has a := Mu.mem ha
  obtain ⟨ka, rfl, hkn, hkey⟩ := hk.key (prog := prog) (w := w) hy
  refine wpAny_setItem_heap (knd := tk prog w) hA.in1 hkey hD (fun h' hD' hs => ?_) (by rw [hR.length]; exact lim_le hl)
  refine PE.set I ha he hr hs ⟨_, hD', fun x hx => ?_, (hR.same' ham hs).put (hu.same' ham hs)⟩ (by unfold VR; rfl)
  rcases mem_storedH hx with ⟨y, hy, _, e⟩ | ⟨_, e⟩
  · rw [e]; exact hμ y hy
  · rw [e]; exact hkn

theorem op_setItem {o k x : D} {v z u : Value} {st' : St} {n : Nat} (hA : AOk n A) (I : SI prog w base μ st s.heap) (hv : VR μ s.heap o v) (hk : VR μ s.heap k z) (hu : VR μ s.heap x u) (h : setItemD fz st o k x = some st') :
    wpAny (model prog w) A (setItem v z u) (fun _ s' => PE prog w base μ fz s st' .none .none s') E' s := by
  have q := setI h
  clear h
  cases q with
  | lst hr he hi => obtain ⟨t, rfl⟩ := hk; exact op_setList I hv hu he hi hr
  | dic hr he hk' hl => exact op_setDict hA I hv hk hu he hk' hl hr

theorem op_get {r : Nat} {x y : D} {k : List Int} {es : List (List Int × D)} {v u z : Value} {n : Nat} (hA : AOk n A) (I : SI prog w base μ st s.heap) (hv : VR μ s.heap (.obj r) v) (hk : VR μ s.heap y z) (hu : VR μ s.heap x u) (he : st[r]? = some (.dic es))
    (hy : keyOf y = some k) : wpAny (model prog w) A (call (.builtin "dict.get") [v, z, u]) (PE prog w base μ fz s st ((dget es k).getD x)) E' s := by
  obtain ⟨a, rfl, ha⟩ := hv
  obtain ⟨kvs, hD, hμ, hR⟩ := I.cont _ _ _ ha he
  have ham : μ.Has a := Mu.mem ha
  obtain ⟨ka, rfl, hkn, hkey⟩ := hk.key (prog := prog) (w := w) hy
  refine wpAny_call_entry PySem.F.slot_dict_get hD.typeIs PySem.F.entry_dict_get ?_ (PySem.F.args_dict_get_3 _ _ _)
  show wpAny _ _ (dictGet a (.ref ka) >>= _) _ _ s
  refine wpAny_bind (wpAny_dictGet_heap (knd := tk prog w) hA.in1 hkey hD ?_)
  rcases hR.at k with ⟨h1, h2⟩ | ⟨d, p, h1, h2, h3⟩
  · rw [h1, h2]
    show wpAny _ _ (PySem.Builtin.Dict.missed a (.ref ka) >>= _) _ _ _
    exact wpAny_bind (wpAny_missed_other (notSys I ham) (wpAny_pure ⟨_, rfl, PE.same I hu⟩))
  · rw [h1, h2]
    exact wpAny_pure ⟨_, rfl, PE.same I h3⟩

noncomputable def methId : Meth → String
  | .append => "list.append" | .pop => "dict.pop" | .get => "dict.get"
noncomputable def methName : Meth → Str
  | .append => "append" | .pop => "pop" | .get => "get"

noncomputable def methFits (m : Meth) (st : St) (o : D) : Prop := match m, o with
  | .append, .obj r => ∃ xs, st[r]? = some (.lst xs)
  | .pop, .obj r => ∃ es, st[r]? = some (.dic es)
  | .get, .obj r => ∃ es, st[r]? = some (.dic es)
  | _, _ => False

theorem op_meth {m : Meth} {o z : D} {ds : List D} {v : Value} {vs : List Value} {st' : St} {n : Nat} (hA : AOk n A) (I : SI prog w base μ st s.heap) (hv : VR μ s.heap o v) (hx : VRs μ s.heap ds vs) (h : methD fz m o ds st = some (z, st')) :
    wpAny (model prog w) A (call (.builtin (methId m)) (v :: vs)) (PE prog w base μ fz s st' z) E' s := by
  have q := metI h
  clear h
  cases q with
  | app hr he hl => obtain ⟨u, rfl, hu⟩ := hx.one; exact op_append I hv hu he hl hr
  | pop hr he hl hk h => obtain ⟨u, ms, rfl, hu, hms⟩ := hx; exact op_pop hA I hv hu he hk (Nat.lt_of_not_le hl) hr h hms
  | get he hk => obtain ⟨u, y, rfl, hu, hy⟩ := hx.two; exact op_get hA I hv hu hy he hk

theorem op_getMethod {m : Meth} {o : D} {v : Value} {pl : Sem Bool} {Q : Value × List Value → Shared → Prop} (I : SI prog w base μ st s.heap) (hv : VR μ s.heap o v) (hf : methFits m st o) (h : Q (.builtin (methId m), [v]) s) :
    wpAny (model prog w) A (getMethod v (methName m) pl) Q E' s := by
  cases o with
  | obj r =>
    obtain ⟨a, rfl, ha⟩ := hv
    cases m with
    | append =>
      obtain ⟨xs, he⟩ := hf
      obtain ⟨vs, n, ho, v1⟩ := I.cont _ _ _ ha he
      exact Calls.getMethod_list_append ho rfl rfl h
    | pop =>
      obtain ⟨es, he⟩ := hf
      obtain ⟨kvs, hD, _⟩ := I.cont _ _ _ ha he
      obtain ⟨o, _, _, ho, hx, _⟩ := id hD
      exact getMethod_builtin hD.typeIs PySem.F.plainAttrs_dict PySem.F.slot_dict_pop PySem.F.type_dict_pop (fun a' e => by cases e; exact ⟨o, ho, hx.2.1⟩) h
    | get =>
      obtain ⟨es, he⟩ := hf
      obtain ⟨kvs, hD, _⟩ := I.cont _ _ _ ha he
      obtain ⟨o, _, _, ho, hx, _⟩ := id hD
      exact getMethod_builtin hD.typeIs PySem.F.plainAttrs_dict PySem.F.slot_dict_get PySem.F.type_dict_get (fun a' e => by cases e; exact ⟨o, ho, hx.2.1⟩) h
  | _ => cases m <;> cases hf
end Mine
end
section
open PySem PySem.W PyProof.Rows
set_option linter.unusedVariables false
namespace Mine
variable {prog : Program} {w : World} {A : Around} {E' : Value → Shared → Prop} {s : Shared} {base : Heap} {μ : Mu} {st : St} {fz : List Nat}

noncomputable abbrev Nms := List (Str × NameKind)

noncomputable def slotR (env : Env) (own : List Addr) (μ : Mu) (h : Heap) (m : Str → Option Value) (x : Str) (k : NameKind) (od : Option D) : Prop := match k with
  | .local => ∀ d, od = some d → ∃ v, m x = some v ∧ VR μ h d v
  | .cell => ∃ c ov, env.cells.lookup x = some c ∧ h.IsCell c ov ∧ c ∈ own ∧ c ≠ env.locals ∧ ∀ d, od = some d → ∃ v, ov = some v ∧ VR μ h d v
  | .free => ∃ c ov, env.cells.lookup x = some c ∧ h.IsCell c ov ∧ c ∉ own ∧ ¬ μ.Has c ∧ ∀ d, od = some d → ∃ v, ov = some v ∧ VR μ h d v
  | _ => od = none

structure EnvOk (env : Env) (names : Nms) : Prop where
  kind : env.scope.kind = .function
  glob : env.globals = mainGlobals
  blt : env.builtins = builtinsNs
  kindOf : ∀ x k, (x, k) ∈ names → (k = .free ∧ (env.kindOf x = some .free ∨ env.kindOf x = some .cell)) ∨ (k ≠ .free ∧ env.kindOf x = some k)
  nodup : (names.map (·.1)).Nodup
  plain : ∀ x k, (x, k) ∈ names → (x == ("__debug__" : Str)) = false ∧ (x == ("__classdict__" : Str)) = false

noncomputable def isDC (o : Obj) : Prop := (∃ es ep, o.data = .dict es ep) ∨ ∃ v, o.data = .cell v
noncomputable def isF (o : Obj) : Prop := ∃ vs, o.data = .fields vs
theorem isDC.notSeq {o : Obj} (h : isDC o) : ¬ isSeq o := fun ⟨xs, n, e⟩ => by rcases h with ⟨_, _, e'⟩ | ⟨_, e'⟩ <;> (rw [e] at e'; cases e')
theorem isDC.notF {o : Obj} (h : isDC o) : ¬ isF o := fun ⟨xs, e⟩ => by rcases h with ⟨_, _, e'⟩ | ⟨_, e'⟩ <;> (rw [e] at e'; cases e')
theorem isF.notSeq {o : Obj} (h : isF o) : ¬ isSeq o := fun ⟨xs, n, e⟩ => by obtain ⟨_, e'⟩ := h; rw [e] at e'; cases e'

structure FR (base : Heap) (env : Env) (names : Nms) (own : List Addr) (μ : Mu) (ρ : Rho) (h : Heap) : Prop where
  ok : EnvOk env names
  len : ρ.length = names.length
  ns : ∃ m, h.Ns env.locals m ∧ ∀ (i : Nat) (x : Str) (k : NameKind), names[i]? = some (x, k) → slotR env own μ h m x k (ρ[i]?).join
  loc : env.locals ∈ own
  ownμ : ∀ b ∈ own, ¬ μ.Has b
  nseq : ∀ b ∈ own, ∃ o, h.get? b = some o ∧ isDC o
  inj : ∀ x y c, env.cells.lookup x = some c → env.cells.lookup y = some c → x = y
  ownB : ∀ b ∈ own, base.get? b = none

variable {env : Env} {names : Nms} {own : List Addr} {ρ : Rho}

theorem FR.nodup (F : FR base env names own μ ρ s.heap) {i j : Nat} {x : Str} {k l : NameKind} (h1 : names[i]? = some (x, k)) (h2 : names[j]? = some (x, l)) : i = j := by
  have e1 : (names.map (·.1))[i]? = some x := by rw [List.getElem?_map, h1]; rfl
  have e2 : (names.map (·.1))[j]? = some x := by rw [List.getElem?_map, h2]; rfl
  exact (List.getElem?_inj (List.getElem?_eq_some_iff.mp e1).1 F.ok.nodup).mp (e1.trans e2.symm)

/-- a frame is untouched by an expression -/
theorem noD {od od' : Option D} (h : od = none) (hod : ∀ d, od' = some d → od = some d) : od' = none := by
  cases e : od' with
  | none => rfl
  | some d => exact none_ne (h.symm.trans (hod d e))
theorem slotR.map {μ μ' : Mu} {h h' : Heap} {m m' : Str → Option Value} {x : Str} {k : NameKind} {od od' : Option D} (vs : ∀ {d v}, VR μ h d v → VR μ' h' d v) (hm : m' x = m x) (hod : ∀ d, od' = some d → od = some d)
    (hc : ∀ c ov, env.cells.lookup x = some c → h.IsCell c ov → (c ∈ own ∧ c ≠ env.locals) ∨ (c ∉ own ∧ ¬ μ.Has c) → h'.IsCell c ov) (hμ : ∀ c o, h.get? c = some o → ¬ μ.Has c → ¬ μ'.Has c) (S : slotR env own μ h m x k od) : slotR env own μ' h' m' x k od' := by
  cases k with
  | «local» => intro d hd; obtain ⟨v, h1, h2⟩ := S d (hod d hd); exact ⟨v, hm.trans h1, vs h2⟩
  | cell =>
    obtain ⟨c, ov, h1, h2, h3, h4, h5⟩ := S
    exact ⟨c, ov, h1, hc c ov h1 h2 (.inl ⟨h3, h4⟩), h3, h4, fun d hd => (h5 d (hod d hd)).imp fun v q => ⟨q.1, vs q.2⟩⟩
  | free =>
    obtain ⟨c, ov, h1, h2, h3, h4, h5⟩ := S
    exact ⟨c, ov, h1, hc c ov h1 h2 (.inr ⟨h3, h4⟩), h3, (let ⟨o, ho, _⟩ := h2; hμ c o ho h4), fun d hd => (h5 d (hod d hd)).imp fun v q => ⟨q.1, vs q.2⟩⟩
  | globalExplicit => exact noD (show od = none from S) hod
  | globalImplicit => exact noD (show od = none from S) hod
theorem FR.mono {μ' : Mu} {h h' : Heap} (F : FR base env names own μ ρ h) (hp : μ.l <+: μ'.l) (hf : ∀ a, μ'.Has a → μ.Has a ∨ h.get? a = none) (hk : ∀ b o, h.get? b = some o → ¬ μ.Has b → ¬ isF o → h'.get? b = some o) : FR base env names own μ' ρ h' := by
  have nc : ∀ {o : Obj} {v : Option Value}, o.data = .cell v → ¬ isF o := fun e q => isDC.notF (.inr ⟨_, e⟩) q
  have vs : ∀ {d v}, VR μ h d v → VR μ' h' d v := fun x => x.mono hp hf fun b o e hs hb => hk b o e hb fun q => q.notSeq hs
  have fresh : ∀ b o, h.get? b = some o → ¬ μ.Has b → ¬ μ'.Has b := fun b o e h q => by
    rcases hf b q with q | q
    · exact h q
    · rw [e] at q; cases q
  obtain ⟨m, hm, hs⟩ := F.ns
  refine ⟨F.ok, F.len, ⟨m, ?_, fun i x k hi => ?_⟩, F.loc, fun b hb => ?_, fun b hb => ?_, F.inj, F.ownB⟩
  · obtain ⟨o, es, ep, ho, r⟩ := hm
    exact ⟨o, es, ep, hk _ _ ho (F.ownμ _ F.loc) (isDC.notF (.inl ⟨es, ep, r.1⟩)), r⟩
  · exact (hs i x k hi).map vs rfl (fun _ e => e) (fun c ov _ ⟨o, ho, hd⟩ q => ⟨o, hk _ _ ho (q.elim (fun q => F.ownμ _ q.1) fun q => q.2) (nc hd), hd⟩) fresh
  · obtain ⟨o, ho, _⟩ := F.nseq b hb
    exact fresh b o ho (F.ownμ b hb)
  · obtain ⟨o, ho, h⟩ := F.nseq b hb
    exact ⟨o, hk _ _ ho (F.ownμ b hb) h.notF, h⟩
theorem FR.stpF {W : Addr → Prop} {μ' : Mu} {s' : Shared} (F : FR base env names own μ ρ s.heap) (T : Stp W fz μ s μ' s') (hW : ∀ b o, W b → s.heap.get? b = some o → isF o ∨ μ.Has b) : FR base env names own μ' ρ s'.heap :=
  F.mono T.pre T.fresh fun b o e h hf => T.keep b o e h fun q => (hW b o q e).elim hf h
theorem FR.stp0 {μ' : Mu} {s' : Shared} (F : FR base env names own μ ρ s.heap) (T : Stp NoW fz μ s μ' s') : FR base env names own μ' ρ s'.heap := F.stpF T fun _ _ h => h.elim

theorem FR.load {i : Nat} {x : Str} {k : NameKind} {d : D} {Q : Value → Shared → Prop} (F : FR base env names own μ ρ s.heap) (hi : names[i]? = some (x, k)) (hd : (ρ[i]?).join = some d) (h : ∀ v, VR μ s.heap d v → Q v s) :
    wpAny (model prog w) A (loadName env x) Q E' s := by
  obtain ⟨m, hm, hs⟩ := F.ns
  have hmem := List.mem_of_getElem? hi
  have hk := F.ok.kindOf x k hmem
  have := hs i x k hi
  unfold slotR at this
  rw [hd] at this
  cases k with
  | «local» =>
    obtain ⟨v, h1, h2⟩ := this d rfl
    exact wpAny_loadName_local F.ok.kind (by rcases hk with ⟨e, _⟩ | ⟨_, e⟩; cases e; exact e) hm h1 (h v h2)
  | cell =>
    obtain ⟨c, ov, h1, h2, h3, h4, h5⟩ := this
    obtain ⟨v, rfl, h7⟩ := h5 d rfl
    exact wpAny_loadName_cell F.ok.kind (by rcases hk with ⟨e, _⟩ | ⟨_, e⟩; cases e; exact e) h1 h2 (h v h7)
  | free =>
    obtain ⟨c, ov, h1, h2, h3, h4, h5⟩ := this
    obtain ⟨v, rfl, h7⟩ := h5 d rfl
    rcases hk with ⟨_, e | e⟩ | ⟨e, _⟩
    · exact wpAny_loadName_free F.ok.kind e h1 h2 (h v h7) (F.ok.plain x _ hmem).2
    · exact wpAny_loadName_cell F.ok.kind e h1 h2 (h v h7)
    · exact absurd rfl e
  | globalExplicit => cases this
  | globalImplicit => cases this

/-- what a frame's own store does -/
noncomputable def Own (own : List Addr) : Addr → Prop := fun b => b ∈ own

theorem FR.own_seq (F : FR base env names own μ ρ s.heap) : ∀ b o, Own own b → s.heap.get? b = some o → ¬ isSeq o := fun b o hb e => by
  obtain ⟨o', ho', h⟩ := F.nseq b hb; rw [e] at ho'; obtain rfl := Option.some.inj ho'; exact h.notSeq

theorem same_stp {a : Addr} {h' : Heap} {tk : Nat} (F : FR base env names own μ ρ s.heap) (I : SI prog w base μ st s.heap) (ha : a ∈ own) (hs : Heap.SameBut a s.heap h') (hl : ∃ o, h'.get? a = some o) :
    Stp (Own own) fz μ s μ { s with heap := h', toks := tk } ∧ SI prog w base μ st h' := by
  have hne : ∀ b, μ.Has b → b ≠ a := fun b hb e => F.ownμ a ha (e ▸ hb)
  refine ⟨Stp.ofBut (fun b o e hw => (hs.2 b fun q => hw (show b ∈ own from q ▸ ha)).trans e) (fun b hb => ⟨I.alive b hb, fun q => F.ownμ b q hb⟩) (fun b o e => ?_), I.mono (fun b o e => ?_) (fun b o e hq hb => ?_) fun b hb => hs.2 b (hne b hb)⟩
  · by_cases hb : b = a
    · subst hb; exact hl
    · exact ⟨o, (hs.2 b hb).trans e⟩
  · exact (hs.2 b fun q => by rw [q, F.ownB a ha] at e; cases e).trans (I.keep b o e)
  · exact (hs.2 b fun q => F.own_seq b o (show b ∈ own from q ▸ ha) e hq).trans e

theorem FR.store {i : Nat} {x : Str} {k : NameKind} {d : D} {v : Value} {Q : Unit → Shared → Prop} (F : FR base env names own μ ρ s.heap) (I : SI prog w base μ st s.heap) (hi : names[i]? = some (x, k)) (hk : k = .local ∨ k = .cell) (hv : VR μ s.heap d v)
    (h : ∀ h' tk, Stp (Own own) fz μ s μ { s with heap := h', toks := tk } → SI prog w base μ st h' → FR base env names own μ (ρ.set i (some d)) h' → Q () { s with heap := h', toks := tk }) :
    wpAny (model prog w) A (storeName env x v) Q E' s := by
  obtain ⟨m, hm, hs⟩ := F.ns
  have hmem := List.mem_of_getElem? hi
  have hko := F.ok.kindOf x k hmem
  have hil : i < ρ.length := by rw [F.len]; exact (List.getElem?_eq_some_iff.mp hi).1
  have hself := hs i x k hi
  have hset : ∀ j, j ≠ i → ((ρ.set i (some d))[j]?).join = (ρ[j]?).join := fun j hj => by rw [List.getElem?_set_ne (fun q => hj q.symm)]
  have hset' : ((ρ.set i (some d))[i]?).join = some d := by rw [List.getElem?_set_self hil]; rfl
  have vr : ∀ {a : Addr} {h' : Heap} {d : D} {v : Value}, a ∈ own → Heap.SameBut a s.heap h' → VR μ s.heap d v → VR μ h' d v := fun ha hs' x =>
    x.mono (List.prefix_refl _) (fun _ h => .inl h) fun b o e hq hb => (hs'.2 b fun q => F.own_seq b o (show b ∈ own from q ▸ ha) e hq).trans e
  rcases hk with rfl | rfl
  · refine wpAny_storeName_local (by rcases hko with ⟨e, _⟩ | ⟨_, e⟩; cases e; exact e) hm (fun h' hn' hs' => ?_) (by rw [F.ok.kind]; rfl)
    obtain ⟨T, I'⟩ := same_stp (fz := fz) (tk := s.toks + 1) F I F.loc hs' (by obtain ⟨o, _, _, e, _⟩ := hn'; exact ⟨o, e⟩)
    refine h h' _ T I' ⟨F.ok, by rw [List.length_set]; exact F.len, ⟨_, hn', fun j y l hj => ?_⟩, F.loc, F.ownμ, fun b hb => ?_, F.inj, F.ownB⟩
    · by_cases hji : j = i
      · subst hji
        rw [hi] at hj; obtain ⟨rfl, rfl⟩ := someP hj
        rw [hset']
        intro d' hd'; obtain rfl := Option.some.inj hd'
        exact ⟨v, by simp, vr F.loc hs' hv⟩
      · rw [hset j hji]
        have hyx : y ≠ x := fun e => hji (F.nodup (e ▸ hj) hi)
        exact (hs j y l hj).map (vr F.loc hs') (if_neg hyx) (fun _ e => e) (fun c ov _ h2 q => h2.sameBut hs' (q.elim (fun q => q.2) fun q e => q.1 (e ▸ F.loc))) fun _ _ _ q => q
    · by_cases hbl : b = env.locals
      · subst hbl
        obtain ⟨o, es, ep, ho, hd, _⟩ := hn'
        exact ⟨o, ho, .inl ⟨es, ep, hd⟩⟩
      · obtain ⟨o, ho, hq⟩ := F.nseq b hb
        exact ⟨o, (hs'.2 b hbl).trans ho, hq⟩
  · unfold slotR at hself
    obtain ⟨c, ov, hc1, hc2, hc3, hc4, hc5⟩ := hself
    refine wpAny_storeName_cell (v := v) F.ok.kind (by rcases hko with ⟨e, _⟩ | ⟨_, e⟩; cases e; exact e) hc1 hc2 fun h' hn' hs' => ?_
    obtain ⟨T, I'⟩ := same_stp (fz := fz) (tk := s.toks) F I hc3 hs' (by obtain ⟨o, e, _⟩ := hn'; exact ⟨o, e⟩)
    refine h h' s.toks T I' ⟨F.ok, by rw [List.length_set]; exact F.len, ⟨m, hm.sameBut hs' (fun e => hc4 e.symm), fun j y l hj => ?_⟩, F.loc, F.ownμ, fun b hb => ?_, F.inj, F.ownB⟩
    · by_cases hji : j = i
      · subst hji
        rw [hi] at hj; obtain ⟨rfl, rfl⟩ := someP hj
        rw [hset']
        exact ⟨c, some v, hc1, hn', hc3, hc4, fun d' hd' => by obtain rfl := Option.some.inj hd'; exact ⟨v, rfl, vr hc3 hs' hv⟩⟩
      · rw [hset j hji]
        have hyx : y ≠ x := fun e => hji (F.nodup (e ▸ hj) hi)
        exact (hs j y l hj).map (vr hc3 hs') rfl (fun _ e => e) (fun c' ov h1 h2 q => h2.sameBut hs' (q.elim (fun _ e => hyx (F.inj y x c (e ▸ h1) hc1)) fun q e => q.1 (e ▸ hc3))) fun _ _ _ q => q
    · by_cases hbl : b = c
      · subst hbl
        obtain ⟨o, ho, hd⟩ := hn'
        exact ⟨o, ho, .inr ⟨_, hd⟩⟩
      · obtain ⟨o, ho, hq⟩ := F.nseq b hb
        exact ⟨o, (hs'.2 b hbl).trans ho, hq⟩
end Mine
end
section
open PySem PySem.W PyProof.Rows
set_option linter.unusedVariables false
namespace Mine
variable {prog : Program} {w : World} {A : Around} {E' : Value → Shared → Prop} {s : Shared} {base : Heap} {μ : Mu} {st : St} {fz : List Nat}
variable {env : Env} {names : Nms} {own : List Addr} {ρ : Rho}

noncomputable def Storer (prog : Program) (w : World) (env : Env) (x : Str) (f : Value → Sem Unit) : Prop :=
  ∀ (A : Around) (E' : Value → Shared → Prop) (s : Shared) (v : Value) (Q : Unit → Shared → Prop), wpAny (model prog w) A (storeName env x v) Q E' s → wpAny (model prog w) A (f v) Q E' s

noncomputable def setL (L : List (Nat × D)) (ρ : Rho) : Rho := L.foldl (fun ρ t => ρ.set t.1 (some t.2)) ρ

structure Sto where
  i : Nat
  x : Str
  f : Value → Sem Unit
  d : D
  v : Value

theorem Stp.trans' {W : Addr → Prop} {fz : List Nat} {μ μ₁ μ₂ : Mu} {s s₁ s₂ : Shared} (a : Stp W fz μ s μ₁ s₁) (b : Stp W fz μ₁ s₁ μ₂ s₂) : Stp W fz μ s μ₂ s₂ := a.trans b

theorem storeAll (L : List Sto) : ∀ {ρ : Rho} {s : Shared} {Q : Unit → Shared → Prop}, (∀ t ∈ L, (∃ k, names[t.i]? = some (t.x, k) ∧ (k = .local ∨ k = .cell)) ∧ Storer prog w env t.x t.f ∧ VR μ s.heap t.d t.v) →
    FR base env names own μ ρ s.heap → SI prog w base μ st s.heap →
    (∀ h' tk, Stp (Own own) fz μ s μ { s with heap := h', toks := tk } → SI prog w base μ st h' → FR base env names own μ (setL (L.map fun t => (t.i, t.d)) ρ) h' → Q () { s with heap := h', toks := tk }) →
    wpAny (model prog w) A (assignInOrder (L.map (·.f)) (L.map (·.v))) Q E' s := by
  induction L with
  | nil =>
    intro ρ s Q _ F I h
    exact wpAny_pure (h s.heap s.toks Stp.refl I F)
  | cons t L ih =>
    intro ρ s Q hL F I h
    obtain ⟨⟨k, hk, hkk⟩, hf, hv⟩ := hL t List.mem_cons_self
    show wpAny _ _ (holding (L.map (·.v)) (t.f t.v) >>= fun _ => assignInOrder (L.map (·.f)) (L.map (·.v))) _ _ s
    refine wpAny_bind (wpAny_holding (hf _ _ _ _ _ (F.store (fz := fz) I hk hkk hv fun h' tk T I' F' => ?_)))
    refine ih (s := { s with heap := h', toks := tk }) (fun u hu => ?_) F' I' fun h'' tk' T' I'' F'' => ?_
    · obtain ⟨a, b, c⟩ := hL u (List.mem_cons_of_mem _ hu)
      exact ⟨a, b, c.stp T F.own_seq⟩
    · exact h h'' tk' (T.trans T') I'' F''

theorem setL_cons (t : Nat × D) (L : List (Nat × D)) (ρ : Rho) : setL (t :: L) ρ = setL L (ρ.set t.1 (some t.2)) := rfl
theorem setL_comm (L : List (Nat × D)) : ∀ (ρ : Rho) (i : Nat) (d : D), i ∉ L.map (·.1) → setL L (ρ.set i (some d)) = (setL L ρ).set i (some d) := by
  induction L with
  | nil =>
    intro _ _ _ _
    exact rfl
  | cons t L ih =>
    intro ρ i d h
    rw [List.map_cons, List.mem_cons, not_or] at h
    rw [setL_cons, setL_cons, ← ih _ i d h.2]
    congr 1
    exact List.set_comm _ _ h.1
theorem setL_append (L M : List (Nat × D)) (ρ : Rho) : setL (L ++ M) ρ = setL M (setL L ρ) := by unfold setL; rw [List.foldl_append]
theorem setL_reverse (L : List (Nat × D)) : ∀ (ρ : Rho), (L.map (·.1)).Nodup → setL L.reverse ρ = setL L ρ := by
  induction L with
  | nil =>
    intro _ _
    exact rfl
  | cons t L ih =>
    intro ρ h
    rw [List.map_cons, List.nodup_cons] at h
    rw [List.reverse_cons, setL_append, ih ρ h.2, setL_cons t L, setL_comm _ _ _ _ h.1]; rfl
theorem setAll_zip : ∀ (is : List Nat) (xs : List D) (ρ : Rho), setAll is xs ρ = setL (is.zip xs) ρ
  | [], _, _ => by unfold setAll; rfl
  | _ :: _, [], _ => by unfold setAll; rfl
  | i :: is, x :: xs, ρ => by rw [setAll, setAll_zip is xs]; rfl

noncomputable def tgt1 (names : Nms) (x : Str) (i : Nat) : Bool := onO (fun p : Str × NameKind => decide (p.1 = x) && decide (p.2 = .local ∨ p.2 = .cell)) names[i]?
noncomputable def okNm (f : Str → Bool) (x : Expr) : Bool := onName (fun y _ => f y) x
theorem okNm_spec {f : Str → Bool} {x : Expr} (h : okNm f x = true) : ∃ n p, x = .Name n p ∧ f n = true := onName_s h
noncomputable def tgts (names : Nms) (ts : List Expr) : List Nat → Bool := ts.rec (fun is => is.isEmpty) fun t _ ih => onC fun i is => okNm (fun x => tgt1 names x i) t && ih is
noncomputable def tgtOk (names : Nms) (x : Expr) (is : List Nat) : Bool := onName (fun y _ => on1 (tgt1 names y) is) x || onTuple (fun ts _ _ => tgts names ts is && (decide (2 ≤ is.length) && decide is.Nodup)) x

theorem tgt1_spec {x : Str} {i : Nat} (h : tgt1 names x i = true) : ∃ k, names[i]? = some (x, k) ∧ (k = .local ∨ k = .cell) := by
  obtain ⟨⟨y, k⟩, e, h⟩ := onO_s h
  obtain rfl := decT (andT h).1
  exact ⟨k, e, decT (andT h).2⟩
theorem tgtOk_s {x : Expr} {is : List Nat} (h : tgtOk names x is = true) : (∃ y p i, x = .Name y p ∧ is = [i] ∧ tgt1 names y i = true) ∨ (∃ ts k p, x = .Tuple ts k p ∧ tgts names ts is = true ∧ 2 ≤ is.length ∧ is.Nodup) := by
  rcases Bool.or_eq_true_iff.mp h with h | h
  · obtain ⟨y, p, rfl, h⟩ := onName_s h
    obtain ⟨i, rfl, h1⟩ := on1_s h
    exact .inl ⟨y, p, i, rfl, rfl, h1⟩
  · obtain ⟨ts, k, p, rfl, h⟩ := onTuple_s h
    exact .inr ⟨ts, k, p, rfl, (andT h).1, decT (andT (andT h).2).1, decT (andT (andT h).2).2⟩
theorem tgtOk_tup {ts : List Expr} {k : Nat} {p : Pos} {is : List Nat} (h : tgtOk names (.Tuple ts k p) is = true) : tgts names ts is = true ∧ 2 ≤ is.length ∧ is.Nodup := by
  rcases tgtOk_s h with ⟨_, _, _, e, _⟩ | ⟨_, _, _, e, h⟩
  · nomatch e
  · obtain ⟨rfl, _, _⟩ := Expr.Tuple.inj e
    exact h
theorem bindT_tup {is : List Nat} {d : D} {ρ ρ' : Rho} (hl : 2 ≤ is.length) (hb : bindT is d ρ = some ρ') : ∃ xs, d = .tup xs ∧ is.length = xs.length ∧ ρ' = setAll is xs ρ := by
  rcases is with _ | ⟨i, _ | ⟨j, is⟩⟩
  · exact absurd hl (Nat.not_succ_le_zero 1)
  · exact absurd hl (Nat.lt_irrefl 1)
  · rcases d with _ | _ | _ | _ | xs | _ | _
    case tup =>
      obtain ⟨a, b⟩ := iteS hb
      exact ⟨xs, rfl, a, b.symm⟩
    all_goals exact none_ne hb

theorem storer_name {x : Str} {pos : Pos} : Storer prog w env x (assign (.Name x pos) env) := fun _ _ _ _ _ h => by
  rw [PySem.assign_Name]; exact wpAny_bind (wpAny_standAt (wpAny_bindName h))
theorem storer_bind {x : Str} : Storer prog w env x (bindName env x) := fun _ _ _ _ _ h => wpAny_bindName h

/-- the stores of a tuple target, in order -/
noncomputable def nmsOf (ts : List Expr) : List Str := ts.filterMap fun e => if h : e.ctorIdx = 23 then Expr.Name.elim e h fun x _ => some x else none
noncomputable def StoOk (prog : Program) (w : World) (names : Nms) (env : Env) (μ : Mu) (h : Heap) (L : List Sto) : Prop := ∀ t ∈ L, (∃ k, names[t.i]? = some (t.x, k) ∧ (k = .local ∨ k = .cell)) ∧ Storer prog w env t.x t.f ∧ VR μ h t.d t.v
inductive TgL (prog : Program) (w : World) (names : Nms) (env : Env) (μ : Mu) (h : Heap) (ts : List Expr) (is : List Nat) (xs : List D) (vs : List Value) : Prop where
  | mk (L : List Sto) (e1 : L.map (·.f) = (assignEach ts env).map (·.2)) (e2 : L.map (·.v) = vs) (e3 : L.map (fun t => (t.i, t.d)) = is.zip xs) (e4 : (assignEach ts env).length = vs.length) (e5 : (assignEach ts env).findIdx? (·.1) = none)
    (e6 : StoOk prog w names env μ h L) (e7 : nmsOf ts = L.map (·.x)) (e8 : L.length = ts.length)
theorem tgts_list {h : Heap} {ts : List Expr} : ∀ {is : List Nat} {xs : List D} {vs : List Value}, tgts names ts is = true → is.length = xs.length → VRs μ h xs vs → TgL prog w names env μ h ts is xs vs := by
  induction ts with
  | nil =>
    intro is xs vs h hl hv
    obtain rfl := nil_s h
    obtain rfl := List.eq_nil_of_length_eq_zero hl.symm
    subst hv
    exact ⟨[], rfl, rfl, rfl, rfl, rfl, fun _ h => absurd h List.not_mem_nil, rfl, rfl⟩
  | cons t r ih =>
    intro is xs vs h hl hv
    obtain ⟨i, is, rfl, h⟩ := onC_s (f := fun i is => okNm (fun x => tgt1 names x i) t && tgts names r is) h
    rcases xs with _ | ⟨d, xs⟩
    · exact absurd hl (Nat.succ_ne_zero _)
    obtain ⟨v, vs, rfl, h1, h2⟩ := hv
    obtain ⟨x, p, rfl, hx⟩ := okNm_spec (andT h).1
    obtain ⟨L, e1, e2, e3, e4, e5, e6, e7, e8⟩ := ih (andT h).2 (Nat.succ.inj hl) h2
    exact ⟨⟨i, x, assign (.Name x p) env, d, v⟩ :: L, congrArg (_ :: ·) e1, congrArg (_ :: ·) e2, congrArg (_ :: ·) e3, congrArg (· + 1) e4,
      by show List.findIdx? _ ((false, _) :: assignEach r env) = none; rw [List.findIdx?_cons, e5]; rfl,
      List.forall_mem_cons.mpr ⟨⟨tgt1_spec hx, storer_name, h1⟩, e6⟩, congrArg (_ :: ·) e7, congrArg (· + 1) e8⟩

theorem FR.assign {target : Expr} {is : List Nat} {d : D} {v : Value} {ρ' : Rho} {Q : Unit → Shared → Prop} (hh : A.handled = none) (ht : tgtOk names target is = true) (F : FR base env names own μ ρ s.heap) (I : SI prog w base μ st s.heap)
    (hv : VR μ s.heap d v) (hb : bindT is d ρ = some ρ')
    (h : ∀ h' tk, Stp (Own own) fz μ s μ { s with heap := h', toks := tk } → SI prog w base μ st h' → FR base env names own μ ρ' h' → Q () { s with heap := h', toks := tk }) :
    wpAny (model prog w) A (assign target env v) Q E' s := by
  rcases tgtOk_s ht with ⟨x, p, i, rfl, rfl, ht1⟩ | ⟨ts, kk, p, rfl, h1, h2, h3⟩
  · obtain ⟨k, hk, hkk⟩ := tgt1_spec ht1
    obtain rfl := Option.some.inj hb
    exact storer_name _ _ _ _ _ (F.store (fz := fz) I hk hkk hv h)
  · obtain ⟨xs, rfl, hl, rfl⟩ := bindT_tup h2 hb
    obtain ⟨a, vs, rfl, ha, t1, v1⟩ := hv
    obtain ⟨L, e1, e2, e3, e4, e5, e6, e7, e8⟩ := tgts_list (prog := prog) (w := w) (env := env) h1 hl v1
    refine wpAny_assign_Tuple hh t1 (by rw [e4, List.size_toArray]) e5 fun h' hx => ?_
    have hk : ∀ b o, s.heap.get? b = some o → h'.get? b = some o := fun b o e => hx b o (Nat.ne_of_lt (Heap.lt_size e)) e
    have T : Stp NoW fz μ s μ { s with heap := h' } := Stp.ofKeep hk I.alive
    show wpAny _ _ (assignInOrder ((assignEach ts env).map (·.2)) (List.toArray vs).toList) _ _ _
    rw [← e1, ← e2]
    refine storeAll (fz := fz) (s := { s with heap := h' }) L (fun t ht => ?_) (F.stp0 T) (I.keeps hk) fun h'' tk T' I' F' => ?_
    · obtain ⟨a, b, c⟩ := e6 t ht
      exact ⟨a, b, c.keeps hk⟩
    · rw [setAll_zip, ← e3] at h
      exact h h'' tk (T.up.trans T') I' F'

theorem unpack_names {ns : List Str} {is : List Nat} {xs : List D} {v : Value} {Q : Flow → Shared → Prop} {ts : List Expr} (hh : A.handled = none) (ht : tgts names ts is = true) (hnd : is.Nodup) (hl : is.length = xs.length)
    (hns : nmsOf ts = ns)
    (F : FR base env names own μ ρ s.heap) (I : SI prog w base μ st s.heap) (hv : VR μ s.heap (.tup xs) v)
    (h : ∀ h' tk, Stp (Own own) fz μ s μ { s with heap := h', toks := tk } → SI prog w base μ st h' → FR base env names own μ (setAll is xs ρ) h' → Q .next { s with heap := h', toks := tk }) :
    wpAny (model prog w) A (unpackItems v ns.length none) (fun items s₂ => wpAny (model prog w) A (assignInOrder (ns.reverse.map fun n => bindName env n) items.reverse) (fun _ => Q .next) E' s₂) E' s := by
  obtain ⟨a, vs, rfl, ha, t1, v1⟩ := hv
  obtain ⟨L, e1, e2, e3, e4, e5, e6, e7, e8⟩ := tgts_list (prog := prog) (w := w) (env := env) ht hl v1
  have hnl : ns.length = (List.toArray vs).size := by rw [← hns, e7, List.size_toArray, ← e2, List.length_map, List.length_map]
  rw [hnl]
  refine wpAny_unpackItems_tuple hh t1 fun h' hx => ?_
  have hk : ∀ b o, s.heap.get? b = some o → h'.get? b = some o := fun b o e => hx b o (Nat.ne_of_lt (Heap.lt_size e)) e
  have T : Stp NoW fz μ s μ { s with heap := h' } := Stp.ofKeep hk I.alive
  show wpAny _ _ (assignInOrder (ns.reverse.map fun n => bindName env n) vs.reverse) _ _ _
  have hf : (ns.reverse.map fun n => bindName env n) = (L.map fun t => { t with f := bindName env t.x }).reverse.map (·.f) := by
    rw [← hns, e7, List.map_reverse, List.map_reverse, List.map_map, List.map_map]; rfl
  have hvv : vs.reverse = (L.map fun t => { t with f := bindName env t.x }).reverse.map (·.v) := by
    rw [← e2, List.map_reverse, List.map_map]; rfl
  rw [hf, hvv]
  refine storeAll (fz := fz) (s := { s with heap := h' }) _ (fun t ht => ?_) (F.stp0 T) (I.keeps hk) fun h'' tk T' I' F' => ?_
  · obtain ⟨u, hu, rfl⟩ := List.mem_map.mp (List.mem_reverse.mp ht)
    obtain ⟨a, b, c⟩ := e6 u hu
    exact ⟨a, storer_bind, c.keeps hk⟩
  · have e : (L.map fun t => { t with f := bindName env t.x }).reverse.map (fun t => (t.i, t.d)) = (is.zip xs).reverse := by
      rw [← e3, List.map_reverse, List.map_map]; rfl
    rw [e, setL_reverse _ _ (by rw [List.map_fst_zip (by lia)]; exact hnd), ← setAll_zip] at F'
    exact h h'' tk (T.up.trans T') I' F'
end Mine
end
section
open PySem PySem.W PyProof.Rows
open PySem.AutoSeq1 (wpAny_loadPart')
set_option linter.unusedVariables false
namespace Mine
variable {prog : Program} {w : World} {A : Around} {E' : Value → Shared → Prop} {s : Shared}

section
variable {E : Value → Shared → Prop}
theorem nextOf_tuple_item {it l : Addr} {i : Nat} {items : Array Value} {x : Value} {Q : Value → Shared → Prop} (hit : s.heap.IsTupleIter it l i) (hl : s.heap.IsTuple l items) (hx : items[i]? = some x)
    (hQ : ∀ h', h'.IsTupleIter it l (i + 1) → Heap.SameBut it s.heap h' → Q x { s with heap := h' }) :
    wpAny (model prog w) A (PySem.Builtin.SmallTypes.nextOf (.ref it)) Q E s := by
  obtain ⟨o, ho, hc, hd⟩ := id hit
  obtain ⟨ol, hol, _, nl, hdl⟩ := hl
  unfold PySem.Builtin.SmallTypes.nextOf
  refine wpAny_bind (wpAny_callSpecial?_slot (name := Str.ofString "__next__") hit.typeIs F.slot_tuple_iterator_next
    (wpAny_call_entry F.slot_tuple_iterator_next hit.typeIs F.entry_tuple_iterator_next ?_ (F.args_tuple_iterator_next_1 _)))
  show wpAny _ _ (field (.ref it) 0 >>= _) _ _ s
  refine wpAny_bind (wpAny_field ho hd (x := .ref l) rfl ?_)
  show wpAny _ _ (if (Value.ref l == Value.none) = true then _ else _) _ _ s
  rw [if_neg (show ¬ ((Value.ref l == Value.none) = true) from Bool.false_ne_true)]
  show wpAny _ _ (field (.ref it) 1 >>= _) _ _ s
  refine wpAny_bind (wpAny_field ho hd (x := .int i 0) rfl ?_)
  show wpAny _ _ (seqItems? (.ref l) >>= _) _ _ s
  refine wpAny_bind (wpAny_seqItems hol hdl ?_)
  simp only [Int.toNat_natCast, hx]
  refine wpAny_bind (wpAny_setField ho hd (by simp) (wpAny_pure ⟨x, rfl, wpAny_pure (hQ _ ?_ (Heap.SameBut.update ..))⟩))
  exact ⟨_, Heap.get?_update_self _ ho (Obj.isFreed_of_fields (Obj.data_mapFields hd _)), (Obj.cls_mapFields ..).trans hc, by
    rw [Obj.data_mapFields hd]; simp [rawInt]⟩

theorem nextOf_tuple_end {it l : Addr} {i : Nat} {items : Array Value} {Q : Value → Shared → Prop} (hh : A.handled = none) (hit : s.heap.IsTupleIter it l i) (hl : s.heap.IsTuple l items) (hx : items[i]? = none)
    (hE : ∀ h' e, Heap.ExtBut it s.heap h' → (∃ o, h'.get? e = some o ∧ o.cls = .type "StopIteration") → E (.ref e) { s with heap := h' }) :
    wpAny (model prog w) A (PySem.Builtin.SmallTypes.nextOf (.ref it)) Q E s := by
  obtain ⟨o, ho, hc, hd⟩ := id hit
  obtain ⟨ol, hol, _, nl, hdl⟩ := hl
  unfold PySem.Builtin.SmallTypes.nextOf
  refine wpAny_bind (wpAny_callSpecial?_slot (name := Str.ofString "__next__") hit.typeIs F.slot_tuple_iterator_next
    (wpAny_call_entry F.slot_tuple_iterator_next hit.typeIs F.entry_tuple_iterator_next ?_ (F.args_tuple_iterator_next_1 _)))
  show wpAny _ _ (field (.ref it) 0 >>= _) _ _ s
  refine wpAny_bind (wpAny_field ho hd (x := .ref l) rfl ?_)
  show wpAny _ _ (if (Value.ref l == Value.none) = true then _ else _) _ _ s
  rw [if_neg (show ¬ ((Value.ref l == Value.none) = true) from Bool.false_ne_true)]
  show wpAny _ _ (field (.ref it) 1 >>= _) _ _ s
  refine wpAny_bind (wpAny_field ho hd (x := .int i 0) rfl ?_)
  show wpAny _ _ (seqItems? (.ref l) >>= _) _ _ s
  refine wpAny_bind (wpAny_seqItems hol hdl ?_)
  simp only [Int.toNat_natCast, hx]
  refine wpAny_bind (wpAny_rule (wpAny_bind (wpAny_setField ho hd (by simp) ?_)))
  show wpAny _ _ (newExc (.type "StopIteration") [] >>= _) _ _ _
  refine wpAny_bind ?_
  simp only [newExc, newTuple]
  refine wpAny_bind (wpAny_newObj_type ?_ (by size_fits))
  refine wpAny_bind (m := firstArgMember _ _) (wpAny_of_eq (a := Value.none) (by first | rfl | (simp only [firstArgMember]; rfl)) ?_)
  refine wpAny_newObj_type ?_ (by size_fits)
  simp only [raiseNew]
  refine wpAny_bind (wpAny_handled ?_)
  first | rw [show A.in1.handled = none from hh] | rw [hh]
  refine wpAny_bind (wpAny_pure (wpAny_throw ?_))
  exact hE _ _ (((Heap.SameBut.update ..).extBut.push _).push _) ⟨_, Heap.get?_push_size _ rfl, rfl⟩
end

theorem Draws.tuple (hh : A.handled = none) (it l : Addr) (hne : l ≠ it) (items : Array Value) :
    Draws prog w A it [it, l] items.size (fun i v => items[i]? = some v) (fun i h => h.IsTupleIter it l i ∧ h.IsTuple l items) where
  live := fun _ _ st => let ⟨o, ho, _⟩ := st.1; ⟨o, ho⟩
  frame := fun _ _ _ st hk => ⟨st.1.at fun o e => hk it (by simp) o e, st.2.at fun o e => hk l (by simp) o e⟩
  item := fun i s Q E hi st hQ => by
    refine nextOf_tuple_item st.1 st.2 (x := items[i]) (by simp [hi]) fun h' hit' hs' => ?_
    exact hQ _ h' s.toks (by simp [hi]) ⟨hit', st.2.extBut hs'.extBut hne⟩ hs'
  done := fun s Q E st hE => nextOf_tuple_end hh st.1 st.2 (by simp) hE

set_option maxRecDepth 100000 in
theorem meets_enumerate_newT (l : Addr) (items : Array Value) (n : Nat) (dct : Option Addr) (sl : Array (Option Value)) :
    Meets (PySem.Builtin.«enumerate.__new__» ⟨[.type "enumerate", .ref l], []⟩) (fun _ R s => s.heap.get? l = some { cls := .type "tuple", dict := dct, data := .seq items n, slots := sl } ∧
      R (.ok (.ret (.ref (s.heap.push { cls := .type "tuple_iterator", data := .fields #[.ref l, .int 0 0] }).objs.size)))
        { s with heap := (s.heap.push { cls := .type "tuple_iterator", data := .fields #[.ref l, .int 0 0] }).push { cls := .type "enumerate", data := .fields #[.none, .bool false, .ref s.heap.objs.size, rawInt 0, .none, .none] } }) :=
  .of_wp fun prog w A R s h => by
    obtain ⟨hp, g, d, tk, os⟩ := s; obtain ⟨hl, h⟩ := h
    have hsub := sub_enumerate
    have hL : Heap.IsTuple (Shared.heap ⟨hp, g, d, tk, os⟩) l items := ⟨_, hl, rfl, n, rfl⟩
    wp_walk using wpAny_loadPart' hl
    refine wpAny_stack_any fun st => wpAny_pure ?_
    generalize PySem.Builtin.SmallTypes.calledThroughType.match_1 _ _ _ _ = b
    cases b
    · wp_walk using wpAny_loadPart' hl, wpAny_pyIter_tuple hL
      exact ⟨_, rfl, h⟩
    · wp_walk using wpAny_loadPart' hl, wpAny_pyIter_tuple hL
      exact ⟨_, rfl, h⟩

theorem call_enumerate_tuple {E : Value → Shared → Prop} {l : Addr} {items : Array Value} {Q : Value → Shared → Prop} (hL : s.heap.IsTuple l items)
    (h : ∀ h', IsEnum h' (s.heap.objs.size + 1) s.heap.objs.size 0 .none → h'.IsTupleIter s.heap.objs.size l 0 → h'.objs.size = s.heap.objs.size + 2 →
      (∀ b o, s.heap.get? b = some o → h'.get? b = some o) → Q (.ref (s.heap.objs.size + 1)) { s with heap := h' }) :
    wpAny (model prog w) A (call (.type "enumerate") [.ref l]) Q E s := by
  obtain ⟨⟨c, dct, dt, sl⟩, hl, hc, n, hd⟩ := hL
  replace hc : c = .type "tuple" := hc
  replace hd : dt = .seq items n := hd
  subst hc hd
  refine callType_new F.called_enumerate (by decide) (F.typeCall_enumerate_1 _) (F.newCall_enumerate_1 _) (fun obj => F.args_object_init_2 obj _) F.entry_enumerate_new
    (meets_enumerate_newT l items n dct sl) ⟨hl, ?_⟩
  have hz : (s.heap.push { cls := .type "tuple_iterator", data := .fields #[.ref l, .int 0 0] }).objs.size = s.heap.objs.size + 1 := Heap.size_push ..
  show _ ∧ _
  rw [hz]
  have he : IsEnum ((s.heap.push { cls := .type "tuple_iterator", data := .fields #[.ref l, .int 0 0] }).push
      { cls := .type "enumerate", data := .fields #[.none, .bool false, .ref s.heap.objs.size, rawInt 0, .none, .none] }) (s.heap.objs.size + 1) s.heap.objs.size 0 .none := by
    have := Heap.get?_push_size (s.heap.push { cls := .type "tuple_iterator", data := .fields #[.ref l, .int 0 0] })
      (o := { cls := .type "enumerate", data := .fields #[.none, .bool false, .ref s.heap.objs.size, rawInt 0, .none, .none] }) rfl
    rw [hz] at this; exact this
  refine ⟨⟨_, he, rfl⟩, h _ he ⟨_, Heap.get?_push_of_some _ (Heap.get?_push_size _ rfl), rfl, rfl⟩ (by rw [Heap.size_push, hz]) fun b o x => Heap.get?_push_of_some _ (Heap.get?_push_of_some _ x)⟩

/-! keys of a dict whose keys are tuples -/
noncomputable def DictAtH (prog : Program) (w : World) (h : Heap) (a : Addr) (kvs : List (List Int × Addr × Value)) (ep : Nat) : Prop :=
  ∃ o es, h.get? a = some o ∧ o.ExactDict ∧ o.data = .dict es ep ∧ es.toList = kvs.map (entryOfKey (tk prog w))

theorem DictAtH.at {h h' : Heap} {a : Addr} {kvs ep} (x : DictAtH prog w h a kvs ep) (e : ∀ o, h.get? a = some o → h'.get? a = some o) : DictAtH prog w h' a kvs ep :=
  let ⟨o, es, ho, r⟩ := x; ⟨o, es, e _ ho, r⟩
theorem IsKeyIter.at {h h' : Heap} {it d : Addr} {i n ep : Nat} (x : h.IsKeyIter it d i n ep) (e : ∀ o, h.get? it = some o → h'.get? it = some o) : h'.IsKeyIter it d i n ep :=
  let ⟨o, ho, r⟩ := x; ⟨o, e _ ho, r⟩
theorem DictAtH.typeIs {a : Addr} {kvs ep} (x : DictAtH prog w s.heap a kvs ep) : s.TypeIs (.ref a) "dict" := let ⟨o, _, ho, hx, _⟩ := x; ⟨o, ho, hx.1⟩

theorem pyIter_dictH {d : Addr} {kvs : List (List Int × Addr × Value)} {ep : Nat} {Q : Value → Shared → Prop} (hd : (d == sysModules) = false) (hm : DictAtH prog w s.heap d kvs ep)
    (hQ : Q (.ref s.heap.objs.size) { s with heap := s.heap.push { cls := .type "dict_keyiterator", data := .fields #[.ref d, .int 0 0, .int kvs.length 0, .int ep 0] } }) :
    wpAny (model prog w) A (pyIter (.ref d)) Q E' s := by
  have hT := hm.typeIs
  obtain ⟨o, es, ho, hc, hdat, he⟩ := id hm
  refine wpAny_pyIter_slot hT F.slot_dict_iter (wpAny_call_entry F.slot_dict_iter hT F.entry_dict_iter ?_ (F.args_dict_iter_1 _))
  unfold PySem.Builtin.«dict.__iter__»
  refine wpAny_bind ?_
  unfold PySem.Builtin.Dict.dictSlotNone
  refine wpAny_bind (wpAny_notOrdered_dict hT ?_)
  show wpAny _ _ (pure (Value.ref d)) _ _ s
  refine wpAny_pure ?_
  show wpAny _ _ (PySem.Builtin.Dict.showsAll d >>= _) _ _ s
  unfold PySem.Builtin.Dict.showsAll
  rw [if_neg (by rw [hd]; exact Bool.false_ne_true)]
  refine wpAny_bind (wpAny_pure ?_)
  refine wpAny_bind (wpAny_dictEntries ho hdat ?_)
  refine wpAny_bind (wpAny_dictEpoch ho hdat ?_)
  have hsz : es.size = kvs.length := size_of_entries he
  refine wpAny_bind (wpAny_newObj_type (wpAny_pure ⟨_, rfl, "dict_keyiterator", _, ⟨_, Heap.get?_push_size _ rfl, rfl⟩, F.slot_dict_keyiterator_next.lookup, ?_⟩))
  simpa [rawInt, hsz] using hQ

theorem pyNext_dictH_item {it d : Addr} {i ep : Nat} {kvs : List (List Int × Addr × Value)} {x : List Int × Addr × Value} {Q : Option Value → Shared → Prop} (hit : s.heap.IsKeyIter it d i kvs.length ep)
    (hm : DictAtH prog w s.heap d kvs ep) (hx : kvs[i]? = some x)
    (hQ : ∀ h', h'.IsKeyIter it d (i + 1) kvs.length ep → Heap.SameBut it s.heap h' → Q (some (.ref x.2.1)) { s with heap := h' }) :
    wpAny (model prog w) A (pyNext (.ref it)) Q E' s := by
  obtain ⟨o, ho, hc, hd⟩ := id hit
  obtain ⟨od, es, hod, hcd, hdd, he⟩ := id hm
  unfold pyNext
  refine wpAny_bind (wpAny_attempt (wpAny_callSpecial?_slot (name := Str.ofString "__next__") hit.typeIs F.slot_dict_keyiterator_next
    (wpAny_call_entry F.slot_dict_keyiterator_next hit.typeIs F.entry_dict_keyiterator_next ?_ (F.args_dict_keyiterator_next_1 _))))
  refine wpAny_bind (wpAny_pure ?_)
  refine wpAny_bind ?_
  refine wpAny_bind ?_
  first | refine wpAny_bind (wpAny_typeNameOfWhole_keyiter hit.typeIs (wpAny_pure ?_)) | refine wpAny_bind (wpAny_typeNameOf_keyiter hit.typeIs (wpAny_pure ?_))
  refine wpAny_bind (wpAny_fieldsOf ho hd ?_)
  have hown : PySem.Builtin.Dict_items.ownsTuple "dict_keyiterator" = false := by decide
  rw [hown]
  show wpAny _ _ (if (Value.ref d == Value.none) = true then _ else _) _ _ s
  rw [if_neg (show ¬ ((Value.ref d == Value.none) = true) from Bool.false_ne_true)]
  refine wpAny_bind (wpAny_pure ?_)
  refine wpAny_bind (wpAny_dictEntries hod hdd ?_)
  have hsz : es.size = kvs.length := size_of_entries he
  rw [if_neg (by rw [hsz]; simp)]
  refine wpAny_bind (wpAny_pure ?_)
  refine wpAny_bind (wpAny_dictEpoch hod hdd ?_)
  rw [if_neg (by simp)]
  refine wpAny_pure ?_
  have hlt : i < kvs.length := (List.getElem?_eq_some_iff.mp hx).1
  have hlt' : i < es.size := by rw [hsz]; exact hlt
  have hkey : es[i].key = .ref x.2.1 := by
    have := entry_at he i
    rw [hx, Array.getElem?_eq_getElem hlt'] at this
    have h2 := Option.some.inj this
    rw [h2]; rfl
  simp only [show ¬ ((i : Int) < 0) from by lia, if_false, Int.toNat_natCast, Array.getElem?_eq_getElem hlt']
  refine wpAny_bind ?_
  first | refine wpAny_bind (wpAny_typeNameOfWhole_keyiter hit.typeIs (wpAny_pure ?_)) | refine wpAny_bind (wpAny_typeNameOf_keyiter hit.typeIs (wpAny_pure ?_))
  refine wpAny_bind (wpAny_isOneOf_keyiter hit.typeIs ?_)
  show wpAny _ _ (setField (.ref it) 1 (rawInt ((i : Int) + 1)) >>= _) _ _ s
  refine wpAny_bind (wpAny_setField ho hd (by simp) ?_)
  have hit' : (s.heap.update it (Obj.mapFields (·.setIfInBounds 1 (rawInt ((i : Int) + 1))))).IsKeyIter it d (i + 1) kvs.length ep :=
    ⟨_, Heap.get?_update_self _ ho (Obj.isFreed_of_fields (Obj.data_mapFields hd _)), (Obj.cls_mapFields ..).trans hc, by rw [Obj.data_mapFields hd]; simp [rawInt]⟩
  refine wpAny_bind (wpAny_holding ?_)
  refine wpAny_bind (wpAny_isOneOf_keyiter (s := { s with heap := s.heap.update it (Obj.mapFields (·.setIfInBounds 1 (rawInt ((i : Int) + 1)))) }) hit'.typeIs ?_)
  show wpAny _ _ (pure es[i].key) _ _ _
  rw [hkey]
  exact wpAny_pure (wpAny_pure ⟨_, rfl, wpAny_pure (hQ _ hit' (Heap.SameBut.update ..))⟩)

theorem pyNext_dictH_end {it d : Addr} {i ep : Nat} {kvs : List (List Int × Addr × Value)} {Q : Option Value → Shared → Prop} (hh : A.handled = none) (hit : s.heap.IsKeyIter it d i kvs.length ep)
    (hm : DictAtH prog w s.heap d kvs ep) (hx : kvs[i]? = none)
    (hQ : ∀ h', Heap.ExtBut it s.heap h' → Q none { s with heap := h' }) : wpAny (model prog w) A (pyNext (.ref it)) Q E' s := by
  obtain ⟨o, ho, hc, hd⟩ := id hit
  obtain ⟨od, es, hod, hcd, hdd, he⟩ := id hm
  unfold pyNext
  refine wpAny_bind (wpAny_attempt (wpAny_callSpecial?_slot (name := Str.ofString "__next__") hit.typeIs F.slot_dict_keyiterator_next
    (wpAny_call_entry F.slot_dict_keyiterator_next hit.typeIs F.entry_dict_keyiterator_next ?_ (F.args_dict_keyiterator_next_1 _))))
  refine wpAny_bind (wpAny_pure ?_)
  refine wpAny_bind ?_
  refine wpAny_bind ?_
  first | refine wpAny_bind (wpAny_typeNameOfWhole_keyiter hit.typeIs (wpAny_pure ?_)) | refine wpAny_bind (wpAny_typeNameOf_keyiter hit.typeIs (wpAny_pure ?_))
  refine wpAny_bind (wpAny_fieldsOf ho hd ?_)
  have hown : PySem.Builtin.Dict_items.ownsTuple "dict_keyiterator" = false := by decide
  rw [hown]
  show wpAny _ _ (if (Value.ref d == Value.none) = true then _ else _) _ _ s
  rw [if_neg (show ¬ ((Value.ref d == Value.none) = true) from Bool.false_ne_true)]
  refine wpAny_bind (wpAny_pure ?_)
  refine wpAny_bind (wpAny_dictEntries hod hdd ?_)
  have hsz : es.size = kvs.length := size_of_entries he
  rw [if_neg (by rw [hsz]; simp)]
  refine wpAny_bind (wpAny_pure ?_)
  refine wpAny_bind (wpAny_dictEpoch hod hdd ?_)
  rw [if_neg (by simp)]
  refine wpAny_pure ?_
  have hge : es.size ≤ i := by rw [hsz]; simpa using hx
  simp only [show ¬ ((i : Int) < 0) from by lia, if_false, Int.toNat_natCast, Array.getElem?_eq_none hge]
  refine wpAny_bind ?_
  first | refine wpAny_bind (wpAny_typeNameOfWhole_keyiter hit.typeIs (wpAny_pure ?_)) | refine wpAny_bind (wpAny_typeNameOf_keyiter hit.typeIs (wpAny_pure ?_))
  show wpAny _ _ (setField (.ref it) 0 .none >>= _) _ _ s
  refine wpAny_bind (wpAny_setField ho hd (by simp) ?_)
  show wpAny _ _ (newExc (.type "StopIteration") [] >>= _) _ _ _
  refine wpAny_bind ?_
  simp only [newExc, newTuple]
  refine wpAny_bind (wpAny_newObj_type ?_ (by size_fits))
  refine wpAny_bind (m := firstArgMember _ _) (wpAny_of_eq (a := Value.none) (by first | rfl | (simp only [firstArgMember]; rfl)) ?_)
  refine wpAny_newObj_type ?_ (by size_fits)
  simp only [raiseNew]
  refine wpAny_bind (wpAny_handled ?_)
  rw [show A.in1.handled = none from hh]
  refine wpAny_bind (wpAny_pure (wpAny_throw ?_))
  refine wpAny_bind (wpAny_isInstance (T := "StopIteration") (b := true) ⟨_, Heap.get?_push_size _ rfl, rfl⟩ isSubtype_stop ?_)
  exact wpAny_pure (hQ _ (((Heap.SameBut.update ..).extBut.push _).push _))
end Mine
end
section
open PySem PySem.W PyProof.Rows
set_option linter.unusedVariables false
namespace Mine
variable {prog : Program} {w : World} {A : Around} {E' : Value → Shared → Prop} {s : Shared} {base : Heap} {μ : Mu} {st : St} {fz : List Nat}

theorem Walks.dictKeysH (hh : A.handled = none) (I d : Addr) (hne : d ≠ I) (kvs : List (List Int × Addr × Value)) (ep : Nat) :
    Walks prog w A I [I, d] [I] kvs.length (fun i v => (kvs.map fun x => Value.ref x.2.1)[i]? = some v) (fun i h => h.IsKeyIter I d i kvs.length ep ∧ DictAtH prog w h d kvs ep) where
  sub := fun b hb => by simp at hb; simp [hb]
  frame := fun _ _ _ st hk => ⟨IsKeyIter.at st.1 fun o e => hk I (by simp) o e, st.2.at fun o e => hk d (by simp) o e⟩
  item := fun i s Q E hi st hQ => by
    refine pyNext_dictH_item st.1 st.2 (x := kvs[i]) (by simp [hi]) fun h' hit' hs' => ?_
    exact hQ _ h' s.toks (by simp [hi]) ⟨hit', st.2.at fun o e => (hs'.2 d hne).trans e⟩ fun b o hb e => hs'.extBut b o (fun h => hb (by simp [h])) e
  done := fun s Q E st hQ => pyNext_dictH_end hh st.1 st.2 (by simp) fun h' he' => hQ h' s.toks fun b o hb e => he' b o (fun h => hb (by simp [h])) e
  self := fun _ _ _ _ st hQ => wpAny_pyIter_keyiter st.1 hQ

structure Itr (prog : Program) (w : World) (A : Around) (fz' : List Nat) (μ0 : Mu) (s0 : Shared) (target : Expr) (I : Addr) (wr src : List Addr) (its : List D) (St : Nat → Heap → Prop) : Prop where
  fresh : ∀ b ∈ wr, s0.heap.get? b = none
  wrF : ∀ i h, St i h → ∀ b ∈ wr, ∃ o, h.get? b = some o ∧ isF o
  frame : ∀ i h h', St i h → (∀ b o, b ∈ wr ∨ b ∈ src → h.get? b = some o → h'.get? b = some o) → St i h'
  srcOk : ∀ b ∈ src, (∃ o, s0.heap.get? b = some o) ∧ ((∃ o, s0.heap.get? b = some o ∧ isSeq o ∧ ¬ μ0.Has b) ∨ ∃ r ∈ fz', μ0.l[r]? = some b)
  item : ∀ (i : Nat) (d : D) (s : Shared) (μ : Mu) (Q : Value → Shared → Prop) (E' : Value → Shared → Prop), its[i]? = some d → St i s.heap → (∀ d v, VR μ0 s0.heap d v → VR μ s.heap d v) → (∀ b ∈ wr, ¬ μ.Has b) → (∀ a, μ.Has a → ∃ o, s.heap.get? a = some o) →
    (∀ v h2 tk, VR μ h2 d v → St (i + 1) h2 → (∀ b o, b ∉ wr → s.heap.get? b = some o → h2.get? b = some o) → Q v { s with heap := h2, toks := tk }) →
    wpAny (model prog w) A (pyNext (.ref I)) (fun r s1 => ∃ v, r = some v ∧ wpAny (model prog w) A (letOwnedTupleGo target (.ref I) v) (fun _ s2 => Q v s2) E' s1) E' s
  done : ∀ (s : Shared) (Q : Option Value → Shared → Prop) (E' : Value → Shared → Prop), St its.length s.heap → (∀ h' tk, (∀ b o, b ∉ wr → s.heap.get? b = some o → h'.get? b = some o) → Q none { s with heap := h', toks := tk }) →
    wpAny (model prog w) A (pyNext (.ref I)) Q E' s
  self : ∀ i (s : Shared) (Q : Value → Shared → Prop) (E' : Value → Shared → Prop), St i s.heap → Q (.ref I) s → wpAny (model prog w) A (pyIter (.ref I)) Q E' s

noncomputable def isTup (x : Expr) : Bool := decide (x.ctorIdx = 25)
noncomputable def isNam (x : Expr) : Bool := decide (x.ctorIdx = 23)

/-- keeping all but iterators keeps values -/
theorem VR.butF {wr : List Addr} {h h' : Heap} {d : D} {v : Value} (x : VR μ h d v) (hw : ∀ b o, b ∉ wr → h.get? b = some o → h'.get? b = some o) (hF : ∀ b ∈ wr, ∃ o, h.get? b = some o ∧ isF o) : VR μ h' d v :=
  x.mono (List.prefix_refl _) (fun _ h => .inl h) fun b o e hq _ => hw b o (fun q => by obtain ⟨o', ho', hf⟩ := hF b q; rw [e] at ho'; obtain rfl := Option.some.inj ho'; exact hf.notSeq hq) e

theorem Itr.ofWalks {fz' : List Nat} {μ0 : Mu} {s0 : Shared} {target : Expr} {I : Addr} {fp wr src : List Addr} {its : List D} {n : Nat} {P : Nat → Value → Prop} {St : Nat → Heap → Prop}
    (W : Walks prog w A I fp wr n P St) (hn : n = its.length) (hfp : ∀ b ∈ fp, b ∈ wr ∨ b ∈ src) (hP : ∀ i v d, P i v → its[i]? = some d → VR μ0 s0.heap d v)
    (fresh : ∀ b ∈ wr, s0.heap.get? b = none) (wrF : ∀ i h, St i h → ∀ b ∈ wr, ∃ o, h.get? b = some o ∧ isF o)
    (srcOk : ∀ b ∈ src, (∃ o, s0.heap.get? b = some o) ∧ ((∃ o, s0.heap.get? b = some o ∧ isSeq o ∧ ¬ μ0.Has b) ∨ ∃ r ∈ fz', μ0.l[r]? = some b)) (ht : isNam target = true) :
    Itr prog w A fz' μ0 s0 target I wr src its St where
  fresh := fresh
  wrF := wrF
  frame := fun i h h' st hk => W.frame i h h' st fun b hb o e => hk b o (hfp b hb) e
  srcOk := srcOk
  item := fun i d s μ Q E' hi st hv hμ hal hQ => by
    have hlt : i < n := by rw [hn]; exact (List.getElem?_eq_some_iff.mp hi).1
    refine W.item i s _ _ hlt st fun v h1 tk hp st1 hk => ⟨v, rfl, ?_⟩
    have hgo : letOwnedTupleGo target (.ref I) v = pure () := by
      exact Expr.Name.elim (motive_1 := fun t => letOwnedTupleGo t (.ref I) v = pure ()) target (decT ht) fun _ _ => rfl
    rw [hgo]
    refine wpAny_pure (hQ v h1 tk ?_ st1 hk)
    exact (hv d v (hP i v d hp hi)).butF hk (wrF i _ st)
  done := fun s Q E' st hQ => W.done s Q E' (hn ▸ st) hQ
  self := fun i s Q E' st hQ => W.self i s Q E' st hQ

theorem enumFrom_get : ∀ (xs : List D) (n i : Nat), (enumFrom n xs)[i]? = (xs[i]?).map fun x => D.tup [.int ((n + i : Nat) : Int), x]
  | [], n, i => by simp [enumFrom]
  | x :: r, n, 0 => by simp [enumFrom]
  | x :: r, n, i + 1 => by
    rw [enumFrom, List.getElem?_cons_succ, List.getElem?_cons_succ, enumFrom_get r (n + 1) i]
    congr 1; funext x; congr 2; congr 1; lia
theorem enumFrom_len (xs : List D) : ∀ (n : Nat), (enumFrom n xs).length = xs.length := by
  induction xs with
  | nil =>
    intro _
    exact rfl
  | cons _ r ih =>
    intro n
    simp [enumFrom, ih]

theorem Itr.ofEnum {fz' : List Nat} {μ0 : Mu} {s0 : Shared} {target : Expr} {e it : Addr} {fp src : List Addr} {xs : List D} {n : Nat} {P : Nat → Value → Prop} {St : Nat → Heap → Prop}
    (D0 : Draws prog w A.in1 it fp n P St) (hei : e ≠ it) (hef : e ∉ fp) (hif : it ∈ fp) (hn : n = xs.length) (hfp : ∀ b ∈ fp, b = it ∨ b ∈ src) (hP : ∀ i v d, P i v → xs[i]? = some d → VR μ0 s0.heap d v)
    (fe : s0.heap.get? e = none) (fi : s0.heap.get? it = none) (wrF : ∀ i h, St i h → ∃ o, h.get? it = some o ∧ isF o)
    (srcOk : ∀ b ∈ src, (∃ o, s0.heap.get? b = some o) ∧ ((∃ o, s0.heap.get? b = some o ∧ isSeq o ∧ ¬ μ0.Has b) ∨ ∃ r ∈ fz', μ0.l[r]? = some b)) (ht : isTup target = true) :
    Itr prog w A fz' μ0 s0 target e [e, it] src (enumFrom 0 xs) (fun i h => (∃ old, IsEnum h e it i old) ∧ St i h) := by
  have W := WalksT.enumerateD D0 e hei hef hif
  have two : ∀ b, b ∈ [e, it] → b = e ∨ b = it := fun b hb => by simpa using hb
  have hwf : ∀ i h, ((∃ old, IsEnum h e it (i : Nat) old) ∧ St i h) → ∀ b ∈ [e, it], ∃ o, h.get? b = some o ∧ isF o := fun i h ⟨⟨old, he⟩, st⟩ b hb => by
    rcases two b hb with rfl | rfl
    · exact ⟨_, he, ⟨_, rfl⟩⟩
    · exact wrF i h st
  refine ⟨fun b hb => by rcases two b hb with rfl | rfl <;> assumption, hwf, fun i h h' st hk => ?_, srcOk, fun i d s μ Q E' hi st hv hμ hal hQ => ?_, fun s Q E' st hQ => ?_, fun i s Q E' st hQ => W.self i s Q E' st hQ⟩
  · refine W.frame i h h' st fun b hb o e1 => hk b o ?_ e1
    rcases List.mem_cons.mp hb with rfl | hb
    · exact .inl (by simp)
    · rcases hfp b hb with rfl | hb
      · exact .inl (by simp)
      · exact .inr hb
  · rw [enumFrom_get, Option.map_eq_some_iff] at hi
    obtain ⟨x, hx, rfl⟩ := hi
    have hlt : i < n := by rw [hn]; exact (List.getElem?_eq_some_iff.mp hx).1
    refine W.item i s _ _ hlt st fun T vals h1 tk hpt hT0 hT mid hk => ⟨_, rfl, ?_⟩
    obtain ⟨t, u, hPu, rfl⟩ := hpt
    obtain ⟨elts, k, pos, rfl⟩ : ∃ a b c, target = .Tuple a b c := Expr.Tuple.elim (motive_1 := fun t => ∃ a b c, t = .Tuple a b c) target (decT ht) fun a b c => ⟨a, b, c, rfl⟩
    · refine W.go elts k pos i T _ _ _ mid fun h2 st2 hk2 => ?_
      have hTw : T ∉ [e, it] := W.apart _ _ _ mid
      have hkk : ∀ b o, b ∉ [e, it] → s.heap.get? b = some o → h2.get? b = some o := fun b o hb e1 => hk2 b o hb (hk b o hb e1)
      refine hQ _ h2 tk ?_ st2 hkk
      obtain ⟨o, ho, r⟩ := hT
      have hTμ : ¬ μ.Has T := fun q => by obtain ⟨o', ho'⟩ := hal T q; exact absurd (Heap.lt_size ho') (Nat.not_lt.mpr hT0)
      unfold VR
      refine ⟨T, [.int i t, u], rfl, hTμ, ⟨o, hk2 _ _ hTw ho, r⟩, VRs.cons ?_ (VRs.cons ?_ VRs.nil)⟩
      · unfold VR; exact ⟨t, by simp⟩
      · exact (hv x u (hP i u x hPu hx)).butF hkk (hwf i _ st)
  · exact W.done s Q E' (by rw [enumFrom_len] at st; rw [hn]; exact st) hQ

theorem itemsAre_vrs {h : Heap} : ∀ {ks : List Int} {vs : List Value}, ItemsAre (intKind prog w) ks vs → VRs μ h (ks.map .int) vs
  | _, _, .nil => VRs.nil
  | _, _, .cons (k := k) (v := v) h1 h2 => by
    refine VRs.cons ?_ (itemsAre_vrs h2)
    cases v <;> simp [intKind, Value.isInt] at h1
    subst h1
    unfold VR; exact ⟨_, rfl⟩
theorem key_vr {h : Heap} {k : List Int} {a : Addr} (ha : ¬ μ.Has a) (x : IsTupleKey (ik prog w) h k a) : VR μ h (pw k) (.ref a) := by
  obtain ⟨o, items, n, ho, hc, hd, hi⟩ := x
  unfold pw VR
  exact ⟨a, items.toList, rfl, ha, ⟨o, ho, hc, n, by simpa using hd⟩, itemsAre_vrs hi⟩
theorem ERs.keyVals {h : Heap} {es : List (List Int × D)} : ∀ {kvs : List (List Int × Addr × Value)}, ERs μ h es kvs → (∀ x ∈ kvs, ¬ μ.Has x.2.1 ∧ IsTupleKey (ik prog w) h x.1 x.2.1) →
    VRs μ h (es.map fun e => pw e.1) (kvs.map fun x => Value.ref x.2.1) := by
  induction es with
  | nil =>
    intro _ e _
    unfold ERs at e; subst e; exact VRs.nil
  | cons X_ es ih =>
    obtain ⟨k, d⟩ := X_
    intro _ e hk
    unfold ERs at e; obtain ⟨a, v, r, rfl, _, e2⟩ := e
    obtain ⟨h1, h2⟩ := hk (k, a, v) List.mem_cons_self
    exact VRs.cons (key_vr h1 h2) (ih e2 fun x hx => hk x (List.mem_cons_of_mem _ hx))

noncomputable def srcRun (prog : Program) (w : World) (A : Around) (k : SK) (v : Value) (Q E' : Value → Shared → Prop) (s : Shared) : Prop := match k with
  | .plain => wpAny (model prog w) A (pyIter v) Q E' s
  | .range => wpAny (model prog w) A (call (.type "range") [v]) (fun x s₁ => wpAny (model prog w) A (pyIter x) Q E' s₁) E' s
  | .enum => wpAny (model prog w) A (call (.type "enumerate") [v]) (fun x s₁ => wpAny (model prog w) A (pyIter x) Q E' s₁) E' s

noncomputable def skTgt (k : SK) (t : Expr) : Bool := k.rec (isNam t) (isNam t) (isTup t)

theorem seq_size {h : Heap} {a : Addr} {o : Obj} (e : h.get? a = some o) : a ≠ h.objs.size := Nat.ne_of_lt (Heap.lt_size e)

noncomputable def IterC (prog : Program) (w : World) (A : Around) (fz : List Nat) (μ : Mu) (s : Shared) (target : Expr) (its : List D) (Q : Value → Shared → Prop) : Prop :=
  ∀ Ia wr src St h1 tk, Itr prog w A fz μ s target Ia wr src its St → St 0 h1 → (∀ b o, s.heap.get? b = some o → h1.get? b = some o) → Q (.ref Ia) { s with heap := h1, toks := tk }
noncomputable def SrcOk (fz : List Nat) (μ : Mu) (s : Shared) (b : Addr) : Prop := (∃ o, s.heap.get? b = some o) ∧ ((∃ o, s.heap.get? b = some o ∧ isSeq o ∧ ¬ μ.Has b) ∨ ∃ r ∈ fz, μ.l[r]? = some b)
theorem SrcOk.seq {a : Addr} {o : Obj} (ho : s.heap.get? a = some o) (hs : isSeq o) (ha : ¬ μ.Has a) : SrcOk fz μ s a := ⟨⟨o, ho⟩, .inl ⟨o, ho, hs, ha⟩⟩
theorem SrcOk.obj {a : Addr} {o : Obj} {r : Nat} (ho : s.heap.get? a = some o) (ha : μ.l[r]? = some a) : SrcOk (fzOf (.obj r) fz) μ s a := ⟨⟨o, ho⟩, .inr ⟨r, List.mem_cons_self, ha⟩⟩
theorem arrV {h : Heap} {xs : List D} {vs : List Value} (v1 : VRs μ h xs vs) (i : Nat) (u : Value) (d : D) (hp : (List.toArray vs)[i]? = some u) (hd : xs[i]? = some d) : VR μ h d u := by
  obtain ⟨d2, h1, h2⟩ := v1.getV (by simpa using hp)
  obtain rfl := Option.some.inj (hd.symm.trans h1)
  exact h2
theorem Itr.one {target : Expr} {a : Addr} {its : List D} {n : Nat} {P : Nat → Value → Prop} {St : Nat → Heap → Prop} (W : Walks prog w A s.heap.objs.size [s.heap.objs.size, a] [s.heap.objs.size] n P St) (hn : n = its.length)
    (hP : ∀ i v d, P i v → its[i]? = some d → VR μ s.heap d v) (wrF : ∀ i h, St i h → ∃ o, h.get? s.heap.objs.size = some o ∧ isF o) (ok : SrcOk fz μ s a) (ht : isNam target = true) :
    Itr prog w A fz μ s target s.heap.objs.size [s.heap.objs.size] [a] its St :=
  Itr.ofWalks W hn (fun b hb => (List.mem_cons.mp hb).imp (fun e => List.mem_singleton.mpr e) id) hP (fun b hb => by rw [List.mem_singleton.mp hb]; exact fresh_none (Nat.le_refl _))
    (fun i h st b hb => by rw [List.mem_singleton.mp hb]; exact wrF i h st) (fun b hb => by rw [List.mem_singleton.mp hb]; exact ok) ht
section
variable {target : Expr} {Q : Value → Shared → Prop} {xs : List D} {vs : List Value} {a : Addr}
theorem it_tup (hh : A.handled = none) (t1 : IsTup s.heap a (List.toArray vs)) (v1 : VRs μ s.heap xs vs) (ha : ¬ μ.Has a) (ht : isNam target = true) (h : IterC prog w A fz μ s target xs Q) :
    wpAny (model prog w) A (pyIter (.ref a)) Q E' s := by
  obtain ⟨o, ho, hs⟩ := isTuple_seq t1
  exact wpAny_pyIter_tuple t1 (h s.heap.objs.size [s.heap.objs.size] [a] _ _ _ (Itr.one (Walks.tuple hh s.heap.objs.size a (seq_size ho) (List.toArray vs)) (by rw [List.size_toArray, v1.length]) (arrV v1)
    (fun i h' hst => let ⟨⟨o', h1, _, h2⟩, _⟩ := hst; ⟨o', h1, _, h2⟩) (.seq ho hs ha) ht) ⟨⟨_, Heap.get?_push_size _ rfl, rfl, rfl⟩, t1.push _⟩ push_keeps)
theorem it_lst (hh : A.handled = none) (t1 : s.heap.IsList a (List.toArray vs)) (v1 : VRs μ s.heap xs vs) (ok : SrcOk fz μ s a) (ht : isNam target = true) (h : IterC prog w A fz μ s target xs Q) :
    wpAny (model prog w) A (pyIter (.ref a)) Q E' s := by
  obtain ⟨o, ho, hs⟩ := isList_seq t1
  exact wpAny_pyIter_list t1 (h s.heap.objs.size [s.heap.objs.size] [a] _ _ _ (Itr.one (Walks.list hh s.heap.objs.size a (seq_size ho) (List.toArray vs)) (by rw [List.size_toArray, v1.length]) (arrV v1)
    (fun i h' hst => let ⟨⟨o', h1, _, h2⟩, _⟩ := hst; ⟨o', h1, _, h2⟩) ok ht) ⟨⟨_, Heap.get?_push_size _ rfl, rfl, rfl⟩, t1.push _⟩ push_keeps)
theorem it_dic {r : Nat} {es : List (List Int × D)} (hh : A.handled = none) (I : SI prog w base μ st s.heap) (ha : μ.l[r]? = some a) (he : st[r]? = some (.dic es)) (ht : isNam target = true) (h : IterC prog w A (fzOf (.obj r) fz) μ s target (es.map fun e => pw e.1) Q) :
    wpAny (model prog w) A (pyIter (.ref a)) Q E' s := by
  obtain ⟨o, ho⟩ := I.alive a (Mu.mem ha)
  obtain ⟨kvs, hD, hμ, hR⟩ := I.cont _ _ _ ha he
  obtain ⟨oo, ess, ep, hoo, hxo, hdo, hes, hkk, hnd⟩ := id hD
  have v1 := hR.keyVals (prog := prog) (w := w) fun x hx => ⟨hμ x hx, hkk x hx⟩
  have hDat : DictAtH prog w s.heap a kvs ep := ⟨oo, ess, hoo, hxo, hdo, hes⟩
  exact pyIter_dictH (notSys I (Mu.mem ha)) hDat (h s.heap.objs.size [s.heap.objs.size] [a] _ _ _ (Itr.one (Walks.dictKeysH (prog := prog) (w := w) hh s.heap.objs.size a (seq_size ho) kvs ep) (by rw [List.length_map, hR.length])
    (fun i u d hp hd => by
      obtain ⟨d2, h1, h2⟩ := v1.getV hp
      obtain rfl := Option.some.inj (hd.symm.trans h1)
      exact h2) (fun i h' hst => let ⟨⟨o', h1, _, h2⟩, _⟩ := hst; ⟨o', h1, _, h2⟩) (.obj ho ha) ht)
    ⟨⟨_, Heap.get?_push_size _ rfl, rfl, rfl⟩, hDat.at fun o e => push_keeps _ _ e⟩ push_keeps)
theorem it_range {n : Int} {t : Tok} (hn : 0 ≤ n ∧ n ≤ 10000) (hh : A.handled = none) (ht : isNam target = true) (h : IterC prog w A fz μ s target ((List.range n.toNat).map fun i => .int (i : Nat)) Q) :
    wpAny (model prog w) A (call (.type "range") [.int n t]) (fun x s₁ => wpAny (model prog w) A (pyIter x) Q E' s₁) E' s := by
  have e1 : PySem.Builtin.Range.rangeSize 0 n 1 = ((n.toNat : Nat) : Int) := by rw [rangeSize_one]; split <;> lia
  refine call_range_1 (wpAny_pyIter_range (IsRange.new _ _ _ _ _ _ _) ?_ ?_)
  · unfold PySem.Builtin.Range.small; unfold PySem.Builtin.Range.rangeFitsLong; rw [e1]; simp; lia
  · have hsz : (s.heap.push { cls := .type "range", data := .fields #[.int 0 s.toks, .int n t, .int 1 (s.toks + 1)] }).objs.size = s.heap.objs.size + 1 := Heap.size_push ..
    refine h _ [_] [] _ _ _ (Itr.ofWalks (Walks.range (prog := prog) (w := w) hh _ 0 1 n.toNat) ?_ (fun b hb => .inl hb) ?_ ?_ ?_ (fun b hb => absurd hb List.not_mem_nil) ht) ?_ fun b o e => push_keeps _ _ (push_keeps _ _ e)
    · rw [List.length_map, List.length_range]
    · intro i u d' hp hd'
      obtain ⟨t', rfl⟩ := hp
      rw [List.getElem?_map, Option.map_eq_some_iff] at hd'
      obtain ⟨j, hj, rfl⟩ := hd'
      obtain ⟨hl, hj⟩ := List.getElem?_eq_some_iff.mp hj
      rw [List.getElem_range] at hj
      subst hj
      unfold VR; exact ⟨t', by simp⟩
    · intro b hb; rw [List.mem_singleton.mp hb]; show s.heap.get? (s.heap.push _).objs.size = none; rw [hsz]; exact fresh_none (Nat.le_succ _)
    · intro i h' hst b hb; rw [List.mem_singleton.mp hb]; exact ⟨_, hst, _, rfl⟩
    · have := Heap.get?_push_size (s.heap.push { cls := .type "range", data := .fields #[.int 0 s.toks, .int n t, .int 1 (s.toks + 1)] }) (o := { cls := .type "range_iterator", data := .fields #[rawInt 0, rawInt (PySem.Builtin.Range.rangeSize 0 n 1), rawInt 1] }) rfl
      rw [e1] at this ⊢
      simpa [IsRangeIter] using this
theorem Itr.oneE {n : Nat} {P : Nat → Value → Prop} {St : Nat → Heap → Prop} (D0 : Draws prog w A.in1 s.heap.objs.size [s.heap.objs.size, a] n P St) (ho : ∃ o, s.heap.get? a = some o) (hn : n = xs.length) (hP : ∀ i v d, P i v → xs[i]? = some d → VR μ s.heap d v)
    (wrF : ∀ i h, St i h → ∃ o, h.get? s.heap.objs.size = some o ∧ isF o) (ok : SrcOk fz μ s a) (ht : isTup target = true) :
    Itr prog w A fz μ s target (s.heap.objs.size + 1) [s.heap.objs.size + 1, s.heap.objs.size] [a] (enumFrom 0 xs) (fun i h => (∃ old, IsEnum h (s.heap.objs.size + 1) s.heap.objs.size i old) ∧ St i h) := by
  obtain ⟨o, ho⟩ := ho
  refine Itr.ofEnum D0 (Nat.succ_ne_self _) ?_ List.mem_cons_self hn (fun b hb => (List.mem_cons.mp hb)) hP (fresh_none (Nat.le_succ _)) (fresh_none (Nat.le_refl _)) wrF (fun b hb => by rw [List.mem_singleton.mp hb]; exact ok) ht
  rw [List.mem_cons, List.mem_singleton, not_or]
  exact ⟨Nat.succ_ne_self _, fun q => absurd (Heap.lt_size ho) (by rw [← q]; exact Nat.not_lt.mpr (Nat.le_succ _))⟩
theorem it_etup (hh : A.handled = none) (t1 : IsTup s.heap a (List.toArray vs)) (v1 : VRs μ s.heap xs vs) (ha : ¬ μ.Has a) (ht : isTup target = true) (h : IterC prog w A fz μ s target (enumFrom 0 xs) Q) :
    wpAny (model prog w) A (call (.type "enumerate") [.ref a]) (fun x s₁ => wpAny (model prog w) A (pyIter x) Q E' s₁) E' s := by
  obtain ⟨o, ho, hs⟩ := isTuple_seq t1
  exact call_enumerate_tuple t1 fun h' he hit hsz hk => wpAny_pyIter_enum he (h _ _ [a] _ _ _ (Itr.oneE (Draws.tuple (prog := prog) (w := w) (A := A.in1) hh s.heap.objs.size a (seq_size ho) (List.toArray vs)) ⟨o, ho⟩ (by rw [List.size_toArray, v1.length]) (arrV v1)
    (fun i h' hst => let ⟨⟨o', h1, _, h2⟩, _⟩ := hst; ⟨o', h1, _, h2⟩) (.seq ho hs ha) ht) ⟨⟨_, he⟩, hit, Heap.IsTuple.at (items := List.toArray vs) t1 (hk a)⟩ hk)
theorem it_elst (hh : A.handled = none) (t1 : s.heap.IsList a (List.toArray vs)) (v1 : VRs μ s.heap xs vs) (ha : ¬ μ.Has a) (ht : isTup target = true) (h : IterC prog w A fz μ s target (enumFrom 0 xs) Q) :
    wpAny (model prog w) A (call (.type "enumerate") [.ref a]) (fun x s₁ => wpAny (model prog w) A (pyIter x) Q E' s₁) E' s := by
  obtain ⟨o, ho, hs⟩ := isList_seq t1
  exact call_enumerate_list t1 fun h' he hit hsz hk => wpAny_pyIter_enum he (h _ _ [a] _ _ _ (Itr.oneE (Draws.list (prog := prog) (w := w) (A := A.in1) hh s.heap.objs.size a (seq_size ho) (List.toArray vs)) ⟨o, ho⟩ (by rw [List.size_toArray, v1.length]) (arrV v1)
    (fun i h' hst => let ⟨⟨o', h1, _, h2⟩, _⟩ := hst; ⟨o', h1, _, h2⟩) (.seq ho hs ha) ht) ⟨⟨_, he⟩, hit, t1.at (hk a)⟩ hk)
end
theorem src_iter {k : SK} {d : D} {its : List D} {v : Value} {target : Expr} {Q : Value → Shared → Prop} (hh : A.handled = none) (I : SI prog w base μ st s.heap) (hx : VR μ s.heap d v) (hi : items k d st = some its) (ht : skTgt k target = true)
    (h : IterC prog w A (fzOf d fz) μ s target its Q) : srcRun prog w A k v Q E' s := by
  have q := iteI hi
  clear hi
  cases q with
  | tup => obtain ⟨a, vs, rfl, ha, t1, v1⟩ := hx; exact it_tup hh t1 v1 ha ht h
  | ils => obtain ⟨a, vs, rfl, ha, t1, v1⟩ := hx; obtain ⟨o, ho, hs⟩ := isList_seq t1; exact it_lst hh t1 v1 (.seq ho hs ha) ht h
  | lst he =>
    obtain ⟨a, rfl, ha⟩ := hx
    obtain ⟨vs, n, ho, v1⟩ := I.cont _ _ _ ha he
    exact it_lst hh ⟨_, ho, rfl, n, rfl⟩ v1 (.obj ho ha) ht h
  | dic he => obtain ⟨a, rfl, ha⟩ := hx; exact it_dic hh I ha he ht h
  | range hn => obtain ⟨t, rfl⟩ := hx; exact it_range hn hh ht h
  | etup => obtain ⟨a, vs, rfl, ha, t1, v1⟩ := hx; exact it_etup hh t1 v1 ha ht h
  | eils => obtain ⟨a, vs, rfl, ha, t1, v1⟩ := hx; exact it_elst hh t1 v1 ha ht h
end Mine
end
section
open PySem PySem.W PyProof.Rows
set_option linter.unusedVariables false
namespace Mine

noncomputable def fnNames : List Str := ["order_key", "powers_product", "powers_divide", "powers_quotient", "gcd", "bits_of", "rat", "radd", "rmul", "rdiv", "rneg", "is_vast", "mvterm", "mvnumber", "add_term", "mvadd", "mvneg", "mvsub", "mvshift", "mvmul", "mvpower", "mvlead", "first_divisor", "mvdivide", "rest_of", "_law_draw", "_law_powers", "_law_points", "_law_worth", "_law_first_of", "_law_second_of", "law"]
noncomputable def globNames : List Str := ["R0", "R1", "MOST_FAR", "MOST_WORK"]
noncomputable def bltNm : Blt → Str
  | .len => "len" | .abs => "abs" | .sum => "sum" | .max => "max" | .any => "any"
  | .tuple => "tuple" | .dict => "dict" | .int => "int"

noncomputable def isG (ns : Nms) (x : Str) : Bool := ns.any fun p => decide (p.1 = x) && decide (p.2 = .globalImplicit)
noncomputable def isVar (ns : Nms) (i : Nat) (x : Str) : Bool := onO (fun p : Str × NameKind => decide (p.1 = x) && (decide (p.2 = .local) || decide (p.2 = .cell) || decide (p.2 = .free))) ns[i]?
noncomputable def notSet (x : Expr) : Bool := decide (x.ctorIdx ≠ 7)
noncomputable def notSlice (x : Expr) : Bool := decide (x.ctorIdx ≠ 26)
noncomputable def notStar (x : Expr) : Bool := decide (x.ctorIdx ≠ 22)
noncomputable def isNm (x : Expr) : Bool := decide (x.ctorIdx = 23)

noncomputable def impOk (ns nl : Nms) : List (Option Nat) → Bool := nl.rec (fun is => is.isEmpty) fun p _ ih => onC fun o is =>
  ((if p.2 = .free then onO (fun i => onO (fun q : Str × NameKind => decide (q.1 = p.1) && decide (q.2 = .cell ∨ q.2 = .free)) ns[i]?) o else decide (p.2 ≠ .globalExplicit) && o.isNone)) && ih is
noncomputable def plainNm (x : Str) : Bool := !(x == ("__debug__" : Str)) && !(x == ("__classdict__" : Str))
noncomputable def nodupNm : Nms → Bool
  | [] => true
  | (x, _) :: r => !(r.any fun p => decide (p.1 = x)) && nodupNm r
noncomputable def scOk (imps : List (Option Nat)) (ns : Nms) (sc : Scope) : Bool :=
  decide (sc.kind = .function) && impOk ns sc.names imps && nodupNm sc.names && (sc.names.all fun p => plainNm p.1)

noncomputable def srcC (ns : Nms) (nm : Str) (f : Expr → Bool) (x : Expr) : Bool := onCall (fun g as kw _ => kw.isEmpty && (on1 (fun a => notStar a && f a) as && onName (fun y _ => decide (y = nm) && (isG ns y && plainNm y)) g)) x
noncomputable def srcB (ns : Nms) (k : SK) (x : Expr) (f : Expr → Bool) : Bool := k.rec (f x) (srcC ns "range" f x) (srcC ns "enumerate" f x)
theorem srcC_s {ns : Nms} {nm : Str} {f : Expr → Bool} {x : Expr} (h : srcC ns nm f x = true) : ∃ p a q, x = .Call (.Name nm p) [a] [] q ∧ isG ns nm = true ∧ plainNm nm = true ∧ notStar a = true ∧ f a = true := by
  obtain ⟨g, as, kw, q, rfl, hA1⟩ := onCall_s h
  obtain rfl := nil_s (andT hA1).1
  obtain ⟨a, rfl, ha⟩ := on1_s (andT (andT hA1).2).1
  obtain ⟨y, p, rfl, hA2⟩ := onName_s (andT (andT hA1).2).2
  obtain rfl := decT (andT hA2).1
  exact ⟨p, a, q, rfl, (andT (andT hA2).2).1, (andT (andT hA2).2).2, andT ha⟩


/-- shapes of expressions, one function each, so that a look at one never splits over all -/
noncomputable def okC : D → Const → Bool
  | .none, c => (match c with | .none => true | _ => false)
  | .bool b, c => (match c with | .bool b' => b == b' | _ => false)
  | .int b, c => (match c with | .int b' => decide (b = b') | _ => false)
  | .str b, c => (match c with | .str b' => decide (b = b') | _ => false)
  | _, _ => false
noncomputable def okCst (d : D) (x : Expr) : Bool := onConstant (fun c _ _ => okC d c) x
noncomputable def okBin (op : BOp) (f g : Expr → Bool) (x : Expr) : Bool := onBinOp (fun l o r _ => decide (o = opOf op) && (f l && g r)) x
noncomputable def okNeg (f : Expr → Bool) (x : Expr) : Bool := onUnaryOp (fun o y _ => decide (o = .USub) && f y) x
noncomputable def okCmp (op : COp) (f g : Expr → Bool) (x : Expr) : Bool := onCompare (fun l os rs _ => on1 (fun o => decide (o = copOf op)) os && (f l && on1 (fun r => g r && notSet r) rs)) x
noncomputable def okCmp2 (o1 o2 : COp) (f g h : Expr → Bool) (x : Expr) : Bool := onCompare (fun l os rs _ => on2 (fun a b => decide (a = copOf o1) && decide (b = copOf o2)) os && (f l && on2 (fun r1 r2 => (g r1 && notSet r1) && (h r2 && notSet r2)) rs)) x
noncomputable def okBop (isAnd : Bool) (f : List Expr → Bool) (x : Expr) : Bool := onBoolOp (fun o vs _ => decide (o = if isAnd then .And else .Or) && f vs) x
noncomputable def okIte (f g h : Expr → Bool) (x : Expr) : Bool := onIfExp (fun t a b _ => f t && (g a && h b)) x
noncomputable def okCall (q : Str → Bool) (f : List Expr → Bool) (x : Expr) : Bool := onCall (fun g as kw _ => kw.isEmpty && (onName (fun y _ => q y) g && onC (fun a as => f (a :: as)) as)) x
noncomputable def okMeth (m : Meth) (f : Expr → Bool) (g : List Expr → Bool) (x : Expr) : Bool := onCall (fun o as kw pos => kw.isEmpty && (onAttribute (fun o' name apos => decide (name = methName m) && (f o' && ((apos.endLine == pos.line) && isNm o'))) o && onC (fun a as => g (a :: as) && decide (as.length < 20)) as)) x
noncomputable def okIdx (f g : Expr → Bool) (x : Expr) : Bool := onSubscript (fun v s _ => f v && g s) x
noncomputable def okRevS (x : Expr) : Bool := onSlice (fun a b c _ => a.isNone && (b.isNone && onO (onUnaryOp fun o y _ => decide (o = .USub) && onConstant (fun c _ _ => onInt (fun i => decide (i = 1)) c) y) c)) x
noncomputable def okHeadS (k : Nat) (x : Expr) : Bool := onSlice (fun a b c _ => a.isNone && (c.isNone && onO (onConstant (fun c _ _ => onInt (fun i => decide (i = k)) c)) b)) x
noncomputable def okTup (f : List Expr → Bool) (x : Expr) : Bool := onTuple (fun xs _ _ => f xs) x
noncomputable def okLst (f : List Expr → Bool) (x : Expr) : Bool := onList (fun xs _ => f xs) x
noncomputable def okDict (f : List (Option Expr) → List Expr → Bool) (x : Expr) : Bool := onDict (fun ks vs _ => f ks vs) x
noncomputable def okLc (f : Expr → List Comprehension → Scope → Bool) (x : Expr) : Bool := onListComp (fun a b c _ => f a b c) x
noncomputable def okDc (f : Expr → Expr → List Comprehension → Scope → Bool) (x : Expr) : Bool := onDictComp (fun a b c d _ => f a b c d) x
noncomputable def okGen (f : Expr → Expr → List Expr → Bool) (gs : List Comprehension) : Bool := on1 (fun g => decide (g.is_async = 0) && f g.target g.iter g.ifs) gs
noncomputable def okGen2 (f : Expr → Expr → Expr → Expr → Bool) (gs : List Comprehension) : Bool := on2 (fun g k => (decide (g.is_async = 0) && decide (k.is_async = 0)) && ((g.ifs.isEmpty && k.ifs.isEmpty) && f g.target g.iter k.target k.iter)) gs
noncomputable def okCons {α : Type} (f : α → Bool) (g : List α → Bool) (l : List α) : Bool := onC (fun x xs => f x && g xs) l
noncomputable def okCons2 (f g : Expr → Bool) (h : List (Option Expr) → List Expr → Bool) (ks : List (Option Expr)) (vs : List Expr) : Bool := onC (fun o xs => onO (fun x => onC (fun y ys => f x && (g y && h xs ys)) vs) o) ks
noncomputable def okOne (f : Expr → Bool) (l : List Expr) : Bool := on1 f l
theorem okCst_spec {d : D} {x : Expr} (h : okCst d x = true) : ∃ c k p, x = .Constant c k p ∧ okC d c = true := onConstant_s h
theorem okBin_spec {op : BOp} {f g : Expr → Bool} {x : Expr} (h : okBin op f g x = true) : ∃ l r p, x = .BinOp l (opOf op) r p ∧ f l = true ∧ g r = true := by
  obtain ⟨l, o, r, p, rfl, hA1⟩ := onBinOp_s h
  obtain rfl := decT (andT hA1).1
  exact ⟨l, r, p, rfl, andT (andT hA1).2⟩
theorem okNeg_spec {f : Expr → Bool} {x : Expr} (h : okNeg f x = true) : ∃ y p, x = .UnaryOp .USub y p ∧ f y = true := by
  obtain ⟨o, y, p, rfl, hA1⟩ := onUnaryOp_s h
  obtain rfl := decT (andT hA1).1
  exact ⟨y, p, rfl, (andT hA1).2⟩
theorem okCmp_spec {op : COp} {f g : Expr → Bool} {x : Expr} (h : okCmp op f g x = true) : ∃ l r p, x = .Compare l [copOf op] [r] p ∧ f l = true ∧ g r = true ∧ notSet r = true := by
  obtain ⟨l, os, rs, p, rfl, hA1⟩ := onCompare_s h
  obtain ⟨o, rfl, ho⟩ := on1_s (andT hA1).1
  obtain rfl := decT ho
  obtain ⟨r, rfl, hr⟩ := on1_s (andT (andT hA1).2).2
  exact ⟨l, r, p, rfl, (andT (andT hA1).2).1, andT hr⟩
theorem okCmp2_spec {o1 o2 : COp} {f g k : Expr → Bool} {x : Expr} (h : okCmp2 o1 o2 f g k x = true) : ∃ l r1 r2 p, x = .Compare l [copOf o1, copOf o2] [r1, r2] p ∧ f l = true ∧ g r1 = true ∧ k r2 = true ∧ notSet r1 = true ∧ notSet r2 = true := by
  obtain ⟨l, os, rs, p, rfl, hA1⟩ := onCompare_s h
  obtain ⟨a, b, rfl, ho⟩ := on2_s (andT hA1).1
  obtain rfl := decT (andT ho).1
  obtain rfl := decT (andT ho).2
  obtain ⟨r1, r2, rfl, hr⟩ := on2_s (andT (andT hA1).2).2
  exact ⟨l, r1, r2, p, rfl, (andT (andT hA1).2).1, (andT (andT hr).1).1, (andT (andT hr).2).1, (andT (andT hr).1).2, (andT (andT hr).2).2⟩
theorem okBop_spec {isAnd : Bool} {f : List Expr → Bool} {x : Expr} (h : okBop isAnd f x = true) : ∃ vs p, x = .BoolOp (if isAnd then .And else .Or) vs p ∧ f vs = true := by
  obtain ⟨o, vs, p, rfl, hA1⟩ := onBoolOp_s h
  obtain rfl := decT (andT hA1).1
  exact ⟨vs, p, rfl, (andT hA1).2⟩
theorem okIte_spec {f g k : Expr → Bool} {x : Expr} (h : okIte f g k x = true) : ∃ t a b p, x = .IfExp t a b p ∧ f t = true ∧ g a = true ∧ k b = true := by
  obtain ⟨t, a, b, p, rfl, hA1⟩ := onIfExp_s h
  exact ⟨t, a, b, p, rfl, (andT hA1).1, andT (andT hA1).2⟩
theorem okCall_spec {q : Str → Bool} {f : List Expr → Bool} {x : Expr} (h : okCall q f x = true) : ∃ y np a as p, x = .Call (.Name y np) (a :: as) [] p ∧ q y = true ∧ f (a :: as) = true := by
  obtain ⟨g, as, kw, p, rfl, hA1⟩ := onCall_s h
  obtain rfl := nil_s (andT hA1).1
  obtain ⟨y, np, rfl, hy⟩ := onName_s (andT (andT hA1).2).1
  obtain ⟨a, as, rfl, ha⟩ := onC_s (andT (andT hA1).2).2
  exact ⟨y, np, a, as, p, rfl, hy, ha⟩
theorem okMeth_spec {m : Meth} {f : Expr → Bool} {g : List Expr → Bool} {x : Expr} (h : okMeth m f g x = true) : ∃ o' apos a as pos, x = .Call (.Attribute o' (methName m) apos) (a :: as) [] pos ∧ f o' = true ∧ g (a :: as) = true ∧ (apos.endLine == pos.line) = true ∧ as.length < 20 ∧ isNm o' = true := by
  obtain ⟨o, as, kw, pos, rfl, hA1⟩ := onCall_s h
  obtain rfl := nil_s (andT hA1).1
  obtain ⟨o', name, apos, rfl, ho⟩ := onAttribute_s (andT (andT hA1).2).1
  obtain rfl := decT (andT ho).1
  obtain ⟨a, as, rfl, ha⟩ := onC_s (andT (andT hA1).2).2
  exact ⟨o', apos, a, as, pos, rfl, (andT (andT ho).2).1, (andT ha).1, (andT (andT (andT ho).2).2).1, decT (andT ha).2, (andT (andT (andT ho).2).2).2⟩
theorem okIdx_spec {f g : Expr → Bool} {x : Expr} (h : okIdx f g x = true) : ∃ v s p, x = .Subscript v s p ∧ f v = true ∧ g s = true := onSubscript_s h |> fun ⟨v, s, p, e, h⟩ => ⟨v, s, p, e, andT h⟩
theorem noneT {α : Type} {o : Option α} (h : o.isNone = true) : o = none := Option.isNone_iff_eq_none.mp h
theorem okRevS_spec {x : Expr} (h : okRevS x = true) : ∃ k p3 p2 p, x = .Slice none none (some (.UnaryOp .USub (.Constant (.int 1) k p3) p2)) p := by
  obtain ⟨a, b, c, p, rfl, hA1⟩ := onSlice_s h
  obtain rfl := noneT (andT hA1).1
  obtain rfl := noneT (andT (andT hA1).2).1
  obtain ⟨y, rfl, hA2⟩ := onO_s (andT (andT hA1).2).2
  obtain ⟨o, y, p2, rfl, hA3⟩ := onUnaryOp_s hA2
  obtain rfl := decT (andT hA3).1
  obtain ⟨c, k, p3, rfl, hA4⟩ := onConstant_s (andT hA3).2
  obtain ⟨i, rfl, hA5⟩ := onInt_s hA4
  obtain rfl := decT hA5
  exact ⟨k, p3, p2, p, rfl⟩
theorem okHeadS_spec {m : Nat} {x : Expr} (h : okHeadS m x = true) : ∃ k p3 p, x = .Slice none (some (.Constant (.int m) k p3)) none p := by
  obtain ⟨a, b, c, p, rfl, hA1⟩ := onSlice_s h
  obtain rfl := noneT (andT hA1).1
  obtain rfl := noneT (andT (andT hA1).2).1
  obtain ⟨y, rfl, hA2⟩ := onO_s (andT (andT hA1).2).2
  obtain ⟨c, k, p3, rfl, hA3⟩ := onConstant_s hA2
  obtain ⟨i, rfl, hA4⟩ := onInt_s hA3
  obtain rfl := decT hA4
  exact ⟨k, p3, p, rfl⟩
theorem okTup_spec {f : List Expr → Bool} {x : Expr} (h : okTup f x = true) : ∃ xs k p, x = .Tuple xs k p ∧ f xs = true := onTuple_s h
theorem okLst_spec {f : List Expr → Bool} {x : Expr} (h : okLst f x = true) : ∃ xs p, x = .List xs p ∧ f xs = true := onList_s h
theorem okDict_spec {f : List (Option Expr) → List Expr → Bool} {x : Expr} (h : okDict f x = true) : ∃ ks vs p, x = .Dict ks vs p ∧ f ks vs = true := onDict_s h
theorem okLc_spec {f : Expr → List Comprehension → Scope → Bool} {x : Expr} (h : okLc f x = true) : ∃ elt gens sc p, x = .ListComp elt gens sc p ∧ f elt gens sc = true := onListComp_s h
theorem okDc_spec {f : Expr → Expr → List Comprehension → Scope → Bool} {x : Expr} (h : okDc f x = true) : ∃ kx vx gens sc p, x = .DictComp kx vx gens sc p ∧ f kx vx gens sc = true := onDictComp_s h
theorem okGen_spec {f : Expr → Expr → List Expr → Bool} {gs : List Comprehension} (h : okGen f gs = true) : ∃ t it ifs, gs = [⟨t, it, ifs, 0⟩] ∧ f t it ifs = true := by
  obtain ⟨⟨t, it, ifs, a⟩, rfl, hA1⟩ := on1_s h
  obtain rfl : a = 0 := decT (andT hA1).1
  exact ⟨t, it, ifs, rfl, (andT hA1).2⟩
theorem okGen2_spec {f : Expr → Expr → Expr → Expr → Bool} {gs : List Comprehension} (h : okGen2 f gs = true) : ∃ t it t2 it2, gs = [⟨t, it, [], 0⟩, ⟨t2, it2, [], 0⟩] ∧ f t it t2 it2 = true := by
  obtain ⟨⟨t, it, ifs, a⟩, ⟨t2, it2, ifs2, a2⟩, rfl, hA1⟩ := on2_s h
  obtain rfl : a = 0 := decT (andT (andT hA1).1).1
  obtain rfl : a2 = 0 := decT (andT (andT hA1).1).2
  obtain rfl : ifs = [] := nil_s (andT (andT (andT hA1).2).1).1
  obtain rfl : ifs2 = [] := nil_s (andT (andT (andT hA1).2).1).2
  exact ⟨t, it, t2, it2, rfl, (andT (andT hA1).2).2⟩
theorem okCons_spec {α : Type} {f : α → Bool} {g : List α → Bool} {l : List α} (h : okCons f g l = true) : ∃ x xs, l = x :: xs ∧ f x = true ∧ g xs = true := onC_s h |> fun ⟨x, xs, e, h⟩ => ⟨x, xs, e, andT h⟩
theorem okCons2_spec {f g : Expr → Bool} {k : List (Option Expr) → List Expr → Bool} {ks : List (Option Expr)} {vs : List Expr} (h : okCons2 f g k ks vs = true) : ∃ x xs y ys, ks = some x :: xs ∧ vs = y :: ys ∧ f x = true ∧ g y = true ∧ k xs ys = true := by
  obtain ⟨o, xs, rfl, hA1⟩ := onC_s h
  obtain ⟨x, rfl, hA2⟩ := onO_s hA1
  obtain ⟨y, ys, rfl, hA3⟩ := onC_s hA2
  exact ⟨x, xs, y, ys, rfl, rfl, (andT hA3).1, andT (andT hA3).2⟩
theorem okOne_spec {f : Expr → Bool} {l : List Expr} (h : okOne f l = true) : ∃ x, l = [x] ∧ f x = true := on1_s h
theorem empty_spec {α : Type} {l : List α} (h : l.isEmpty = true) : l = [] := List.isEmpty_iff.mp h

mutual
noncomputable def chkE : E → Nms → Expr → Bool
  | .bad, _, _ => true
  | .var i, ns, x => okNm (fun y => isVar ns i y && plainNm y) x
  | .cst d, _, x => okCst d x
  | .glob g, ns, x => okNm (fun y => decide (globNames[g]? = some y) && isG ns y && plainNm y) x
  | .bin op a b, ns, x => okBin op (chkE a ns) (chkE b ns) x
  | .neg a, ns, x => okNeg (chkE a ns) x
  | .cmp op a b, ns, x => okCmp op (chkE a ns) (chkE b ns) x
  | .bop isAnd es, ns, x => okBop isAnd (chkL es ns) x
  | .ite t a b, ns, x => okIte (chkT t ns) (chkE a ns) (chkE b ns) x
  | .call f args, ns, x => okCall (fun y => decide (fnNames[f]? = some y) && isG ns y && plainNm y) (chkL args ns) x
  | .blt b args, ns, x => okCall (fun y => decide (y = bltNm b) && isG ns y && plainNm y) (chkL args ns) x
  | .meth m o args, ns, x => okMeth m (chkE o ns) (chkL args ns) x
  | .idx a b, ns, x => okIdx (chkE a ns) (chkE b ns) x
  | .rev a, ns, x => okIdx (chkE a ns) okRevS x
  | .head a k, ns, x => okIdx (chkE a ns) (okHeadS k) x
  | .tup es, ns, x => okTup (chkL es ns) x
  | .listM es, ns, x => okLst (chkL es ns) x
  | .listI es, ns, x => okLst (chkL es ns) x
  | .dict kvs, ns, x => okDict (chkK kvs ns) x
  | .lcomp imps tgt k src cond elt, ns, x => okLc (fun elt' gens sc => okGen (fun t it ifs => scOk imps ns sc && tgtOk sc.names t tgt && skTgt k t && srcB ns k it (chkE src ns) && notSet it && chkC cond sc.names ifs && chkE elt sc.names elt') gens) x
  | .lcomp2 imps tgt k src tgt2 k2 src2 elt, ns, x => okLc (fun elt' gens sc => okGen2 (fun t it t2 it2 => scOk imps ns sc && tgtOk sc.names t tgt && skTgt k t && srcB ns k it (chkE src ns) && notSet it &&
      (tgt.all fun i => !tgt2.contains i) && tgtOk sc.names t2 tgt2 && skTgt k2 t2 && srcB sc.names k2 it2 (chkE src2 sc.names) && notSet it2 && chkE elt sc.names elt') gens) x
  | .dcomp imps tgt k src cond key val, ns, x => okDc (fun kx vx gens sc => okGen (fun t it ifs => scOk imps ns sc && tgtOk sc.names t tgt && skTgt k t && srcB ns k it (chkE src ns) && notSet it && chkC cond sc.names ifs && chkE key sc.names kx && chkE val sc.names vx) gens) x
  | .nil, _, _ => false
  | .cons _ _, _, _ => false
  | .cmp2 _ _ _ _ _, _, _ => false
termination_by structural x => x
noncomputable def chkT : E → Nms → Expr → Bool
  | .cmp2 o1 o2 a b c, ns, x => okCmp2 o1 o2 (chkE a ns) (chkE b ns) (chkE c ns) x
  | .bop isAnd es, ns, x => okBop isAnd (chkTL es ns) x
  | .cmp op a b, ns, x => okCmp op (chkE a ns) (chkE b ns) x
  | .call f args, ns, x => okCall (fun y => decide (fnNames[f]? = some y) && isG ns y && plainNm y) (chkL args ns) x
  | .blt b args, ns, x => okCall (fun y => decide (y = bltNm b) && isG ns y && plainNm y) (chkL args ns) x
  | _, _, _ => false
termination_by structural x => x
noncomputable def chkTL : E → Nms → List Expr → Bool
  | .nil, _, xs => xs.isEmpty
  | .cons e es, ns, xs => okCons (chkT e ns) (chkTL es ns) xs
  | _, _, _ => false
termination_by structural x => x
noncomputable def chkL : E → Nms → List Expr → Bool
  | .nil, _, xs => xs.isEmpty
  | .cons e es, ns, xs => okCons (fun x => chkE e ns x && notStar x) (chkL es ns) xs
  | _, _, _ => false
termination_by structural x => x
noncomputable def chkK : E → Nms → List (Option Expr) → List Expr → Bool
  | .nil, _, ks, xs => ks.isEmpty && xs.isEmpty
  | .cons k (.cons v es), ns, ks, xs => okCons2 (chkE k ns) (chkE v ns) (chkK es ns) ks xs
  | _, _, _, _ => false
termination_by structural x => x
noncomputable def chkC : E → Nms → List Expr → Bool
  | .nil, _, xs => xs.isEmpty
  | .cmp op a b, ns, xs => okOne (okCmp op (chkE a ns) (chkE b ns)) xs
  | .bop isAnd es, ns, xs => okOne (okBop isAnd (chkTL es ns)) xs
  | _, _, _ => false
termination_by structural x => x
end

noncomputable def swapFree (x : Expr) : Bool := decide (x.ctorIdx ≠ 25) || onTuple (fun vs _ _ => vs.all (foldedForSure 8) || !(vs.all (constantsAlone 8))) x
noncomputable def isCall (x : Expr) : Bool := decide (x.ctorIdx = 16)
noncomputable def notComp (x : Expr) : Bool := decide (x.ctorIdx ≠ 8) && (decide (x.ctorIdx ≠ 9) && decide (x.ctorIdx ≠ 10))

noncomputable def isTupT (x : Expr) : Bool := onTuple (fun _ _ _ => true) x
noncomputable def okAsg (f : Expr → Expr → Bool) (x : Stmt) : Bool := stAssign (fun ts v _ => on1 (fun t => f t v) ts) x
noncomputable def okAug (f g : Expr → Bool) (x : Stmt) : Bool := stAugAssign (fun t o v _ => decide (o = .Add) && (f t && g v)) x
noncomputable def okIf (f : Expr → Bool) (g h : List Stmt → Bool) (x : Stmt) : Bool := stIf (fun t a b _ => f t && (g a && h b)) x
noncomputable def okWhl (f : Expr → Bool) (g : List Stmt → Bool) (x : Stmt) : Bool := stWhile (fun t b e _ => e.isEmpty && (f t && g b)) x
noncomputable def okFor (f : Expr → Expr → Bool) (g : List Stmt → Bool) (x : Stmt) : Bool := stFor (fun t it b e _ => e.isEmpty && (f t it && g b)) x
noncomputable def okRet (f : Expr → Bool) (x : Stmt) : Bool := stReturn (fun e _ => onO f e) x
noncomputable def okCont (x : Stmt) : Bool := stContinue (fun _ => true) x
noncomputable def okExp (f : Expr → Bool) (x : Stmt) : Bool := stExpr (fun e _ => f e) x
theorem isTupT_spec {x : Expr} (h : isTupT x = true) : ∃ ts k p, x = .Tuple ts k p := onTuple_s h |> fun ⟨a, b, c, e, _⟩ => ⟨a, b, c, e⟩
theorem okAsg_spec {f : Expr → Expr → Bool} {x : Stmt} (h : okAsg f x = true) : ∃ t v p, x = .Assign [t] v p ∧ f t v = true := by
  obtain ⟨ts, v, p, rfl, hA1⟩ := stAssign_s h
  obtain ⟨t, rfl, hA2⟩ := on1_s hA1
  exact ⟨t, v, p, rfl, hA2⟩
theorem okAug_spec {f g : Expr → Bool} {x : Stmt} (h : okAug f g x = true) : ∃ t v p, x = .AugAssign t .Add v p ∧ f t = true ∧ g v = true := by
  obtain ⟨t, o, v, p, rfl, hA1⟩ := stAugAssign_s h
  obtain rfl := decT (andT hA1).1
  exact ⟨t, v, p, rfl, andT (andT hA1).2⟩
theorem okIf_spec {f : Expr → Bool} {g k : List Stmt → Bool} {x : Stmt} (h : okIf f g k x = true) : ∃ t a b p, x = .If t a b p ∧ f t = true ∧ g a = true ∧ k b = true := by
  obtain ⟨t, a, b, p, rfl, hA1⟩ := stIf_s h
  exact ⟨t, a, b, p, rfl, (andT hA1).1, andT (andT hA1).2⟩
theorem okWhl_spec {f : Expr → Bool} {g : List Stmt → Bool} {x : Stmt} (h : okWhl f g x = true) : ∃ t b p, x = .While t b [] p ∧ f t = true ∧ g b = true := by
  obtain ⟨t, b, e, p, rfl, hA1⟩ := stWhile_s h
  obtain rfl := nil_s (andT hA1).1
  exact ⟨t, b, p, rfl, andT (andT hA1).2⟩
theorem okFor_spec {f : Expr → Expr → Bool} {g : List Stmt → Bool} {x : Stmt} (h : okFor f g x = true) : ∃ t it b p, x = .For t it b [] p ∧ f t it = true ∧ g b = true := by
  obtain ⟨t, it, b, e, p, rfl, hA1⟩ := stFor_s h
  obtain rfl := nil_s (andT hA1).1
  exact ⟨t, it, b, p, rfl, andT (andT hA1).2⟩
theorem okRet_spec {f : Expr → Bool} {x : Stmt} (h : okRet f x = true) : ∃ e p, x = .Return (some e) p ∧ f e = true := by
  obtain ⟨o, p, rfl, hA1⟩ := stReturn_s h
  obtain ⟨e, rfl, hA2⟩ := onO_s hA1
  exact ⟨e, p, rfl, hA2⟩
theorem okCont_spec {x : Stmt} (h : okCont x = true) : ∃ p, x = .Continue p := stContinue_s h |> fun ⟨a, e, _⟩ => ⟨a, e⟩
theorem okExp_spec {f : Expr → Bool} {x : Stmt} (h : okExp f x = true) : ∃ e p, x = .Expr e p ∧ f e = true := stExpr_s h
mutual
noncomputable def chkSt : S → Nms → Stmt → Bool
  | .bad, _, _ => true
  | .raise, _, _ => true
  | .assign i e, ns, x => okAsg (fun t v => okNm (fun y => tgt1 ns y i) t && (chkE e ns v && (notComp v || (decide (e.ctorIdx = 22) || (decide (e.ctorIdx = 23) || decide (e.ctorIdx = 24)))))) x
  | .assignT is e, ns, x => okAsg (fun t v => isTupT t && tgtOk ns t is && chkE e ns v && swapFree v && notComp v) x
  | .setItem o k v, ns, x => okAsg (fun t v' => okIdx (chkE o ns) (fun i' => chkE k ns i' && notSlice i') t && chkE v ns v' && notComp v') x
  | .aug i op e, ns, x => decide (op = .add) && okAug (okNm fun y => tgt1 ns y i) (chkE e ns) x
  | .ife t a b, ns, x => okIf (chkT t ns) (chkSs a ns) (chkSs b ns) x
  | .whl t body, ns, x => okWhl (chkT t ns) (chkSs body ns) x
  | .fore tgt k src body, ns, x => okFor (fun t it => tgtOk ns t tgt && skTgt k t && srcB ns k it (chkE src ns) && notSet it) (chkSs body ns) x
  | .ret e, ns, x => okRet (chkE e ns) x
  | .cont, _, x => okCont x
  | .expr e, ns, x => okExp (fun e' => chkE e ns e' && isCall e') x
  | .nil, _, _ => false
  | .cons _ _, _, _ => false
termination_by structural x => x
noncomputable def chkSs : S → Nms → List Stmt → Bool
  | .bad, _, _ => true
  | .nil, _, xs => xs.isEmpty
  | .cons s ss, ns, xs => okCons (chkSt s ns) (chkSs ss ns) xs
  | _, _, _ => false
termination_by structural x => x
end

end Mine
end
section
open PySem PySem.W PyProof.Rows
set_option linter.unusedVariables false
namespace Mine
variable {prog : Program} {w : World} {A : Around} {E' : Value → Shared → Prop} {s : Shared} {base : Heap} {μ : Mu} {st : St} {fz : List Nat}
variable {env : Env} {names : Nms} {own : List Addr} {ρ : Rho}

/-! the frame of a comprehension -/
theorem cellsFrom_acc (ns : Nms) : ∀ (n : Nat) (acc : List (Str × Addr)), cellsFrom n ns acc = cellsFrom n ns [] ++ acc := by
  induction ns with
  | nil =>
    intro _ _
    exact rfl
  | cons X_ r ih =>
    obtain ⟨x, k⟩ := X_
    intro n acc
    unfold cellsFrom
    split
    · rw [ih _ (_ :: acc), ih _ [_], List.append_assoc]; rfl
    · exact ih n acc

noncomputable def clFrom (env : Env) : Nms → List (Str × Addr) → List (Str × Addr)
  | [], acc => acc
  | (x, k) :: r, acc => if k == .free then clFrom env r ((x, (env.cells.lookup x).getD 0) :: acc) else clFrom env r acc

theorem closureFor_eq {sc : Scope} (h : ∀ x, (x, NameKind.free) ∈ sc.names → ∃ c, env.cells.lookup x = some c) : closureFor sc env = pure (clFrom env sc.names []) := by
  unfold closureFor
  have key : ∀ (ns : Nms) (acc : List (Str × Addr)), (∀ x, (x, NameKind.free) ∈ ns → ∃ c, env.cells.lookup x = some c) →
      (forIn ns acc fun (x : Str × NameKind) (cs : List (Str × Addr)) => (do
        if (x.2 == NameKind.free) = true then do
          let a ← cellOf env x.1
          pure (ForInStep.yield ((x.1, a) :: cs))
        else pure (ForInStep.yield cs) : Sem (ForInStep (List (Str × Addr))))) = pure (clFrom env ns acc) := by
    intro ns
    induction ns with
    | nil => intro acc _; rfl
    | cons p r ih =>
      obtain ⟨x, k⟩ := p
      intro acc hx
      rw [List.forIn_cons]
      unfold clFrom
      by_cases hk : (k == NameKind.free) = true
      · have hk' : k = .free := by simpa using hk
        subst hk'
        obtain ⟨c, hc⟩ := hx x List.mem_cons_self
        have e : cellOf env x = pure c := by unfold cellOf; rw [hc]
        rw [if_pos hk]
        simp only [hk, if_true, e, hc, Option.getD_some]
        exact ih _ fun y hy => hx y (List.mem_cons_of_mem _ hy)
      · rw [if_neg hk]
        simp only [hk, if_false]
        exact ih _ fun y hy => hx y (List.mem_cons_of_mem _ hy)
  have := key sc.names [] h
  simp only [bind_pure] 
  exact this
theorem impOk_spec {ns0 : Nms} {ns : Nms} : ∀ {imps : List (Option Nat)}, impOk ns0 ns imps = true → imps.length = ns.length ∧ ∀ (i : Nat) (x : Str) (k : NameKind), ns[i]? = some (x, k) →
    (k = .free ∧ ∃ j kk, imps[i]? = some (some j) ∧ ns0[j]? = some (x, kk) ∧ (kk = .cell ∨ kk = .free)) ∨ (k ≠ .free ∧ k ≠ .globalExplicit ∧ imps[i]? = some none) := by
  induction ns with
  | nil =>
    intro imps h
    obtain rfl := nil_s h
    exact ⟨rfl, fun i x k h => none_ne h⟩
  | cons p r ih =>
    intro imps h
    obtain ⟨o, is, rfl, h⟩ := onC_s (f := fun o is => (if p.2 = .free then onO (fun i => onO (fun q : Str × NameKind => decide (q.1 = p.1) && decide (q.2 = .cell ∨ q.2 = .free)) ns0[i]?) o else decide (p.2 ≠ .globalExplicit) && o.isNone) && impOk ns0 r is) h
    obtain ⟨e1, e2⟩ := ih (andT h).2
    refine ⟨congrArg (· + 1) e1, fun i y l hi => ?_⟩
    rcases i with _ | i
    · obtain ⟨rfl, rfl⟩ := Prod.mk.inj (Option.some.inj (hi : some p = some (y, l)))
      by_cases hf : p.2 = .free
      · obtain ⟨j, rfl, h5⟩ := onO_s ((if_pos hf).symm.trans (andT h).1)
        obtain ⟨⟨z, kk⟩, e, h6⟩ := onO_s h5
        obtain rfl : z = p.1 := decT (andT h6).1
        exact .inl ⟨hf, j, kk, rfl, e, decT (andT h6).2⟩
      · have h := andT ((if_neg hf).symm.trans (andT h).1)
        exact .inr ⟨hf, decT h.1, congrArg some (noneT h.2)⟩
    · exact e2 i y l hi

theorem nodupNm_spec {ns : Nms} : nodupNm ns = true → (ns.map (·.1)).Nodup := by
  induction ns with
  | nil =>
    intro _
    exact List.nodup_nil
  | cons X_ r ih =>
    obtain ⟨x, k⟩ := X_
    intro h
    simp only [nodupNm, Bool.and_eq_true, Bool.not_eq_true', List.any_eq_false, decide_eq_true_eq] at h
    rw [List.map_cons, List.nodup_cons]
    exact ⟨fun q => by obtain ⟨p, hp, e⟩ := List.mem_map.mp q; exact h.1 p hp e, ih h.2⟩

theorem lookup_of_mem {α : Type} {l : List (Str × α)} : ∀ {x : Str} {a : α}, (l.map (·.1)).Nodup → (x, a) ∈ l → l.lookup x = some a := by
  induction l with
  | nil => intro x a _ h; exact absurd h List.not_mem_nil
  | cons X_ r ih =>
    obtain ⟨y, b⟩ := X_
    intro x a hn h
    rw [List.map_cons, List.nodup_cons] at hn
    rw [List.lookup_cons]
    rcases List.mem_cons.mp h with e | h'
    · obtain ⟨rfl, rfl⟩ := Prod.mk.inj e; simp
    · have : (x == y) = false := by
        rw [beq_eq_false_iff_ne]; rintro rfl
        exact hn.1 (List.mem_map.mpr ⟨_, h', rfl⟩)
      rw [this]; exact ih hn.2 h'
theorem lookup_none {α : Type} {l : List (Str × α)} : ∀ {x : Str}, (∀ a, (x, a) ∉ l) → l.lookup x = none := by
  induction l with
  | nil =>
    intro _ _
    exact rfl
  | cons X_ r ih =>
    obtain ⟨y, b⟩ := X_
    intro x h
    rw [List.lookup_cons]
    have : (x == y) = false := by
      rw [beq_eq_false_iff_ne]; rintro rfl; exact h b List.mem_cons_self
    rw [this]; exact ih fun a q => h a (List.mem_cons_of_mem _ q)
theorem lookup_append {α : Type} {l : List (Str × α)} : ∀ {m : List (Str × α)} {x : Str}, (l ++ m).lookup x = (l.lookup x).or (m.lookup x) := by
  induction l with
  | nil =>
    intro _ _
    exact rfl
  | cons X_ r ih =>
    obtain ⟨y, b⟩ := X_
    intro m x
    rw [List.cons_append, List.lookup_cons, List.lookup_cons]
    split
    · rfl
    · exact ih

theorem cellsFrom_name {ns : Nms} : ∀ {n : Nat} {x : Str} {c : Addr}, (x, c) ∈ cellsFrom n ns [] → (x, NameKind.cell) ∈ ns := by
  induction ns with
  | nil =>
    intro _ _ _ h
    cases h
  | cons X_ r ih =>
    obtain ⟨y, k⟩ := X_
    intro n x c h
    unfold cellsFrom at h
    split at h
    · rename_i hk
      have hk : k = .cell := by simpa using hk
      subst hk
      rw [cellsFrom_acc] at h
      rcases List.mem_append.mp h with h | h
      · exact List.mem_cons_of_mem _ (ih h)
      · rw [List.mem_singleton] at h; obtain ⟨rfl, rfl⟩ := Prod.mk.inj h; exact List.mem_cons_self
    · exact List.mem_cons_of_mem _ (ih h)
theorem cellsFrom_has {ns : Nms} : ∀ {n : Nat} {x : Str}, (x, NameKind.cell) ∈ ns → ∃ c, (cellsFrom n ns []).lookup x = some c := by
  induction ns with
  | nil => intros; simp_all
  | cons X_ r ih =>
    obtain ⟨y, k⟩ := X_
    intro n x h
    unfold cellsFrom
    rcases List.mem_cons.mp h with e | h
    · cases e
      rw [if_pos (by rfl), cellsFrom_acc, lookup_append]
      generalize (cellsFrom (n + 1) r []).lookup y = q
      cases q with
      | some c => exact ⟨c, rfl⟩
      | none => exact ⟨n, by simp⟩
    · split
      · rw [cellsFrom_acc, lookup_append]
        obtain ⟨c, hc⟩ := ih (n := n + 1) h
        rw [hc]; exact ⟨c, rfl⟩
      · exact ih h
theorem clFrom_mem {ns : Nms} : ∀ {acc : List (Str × Addr)} {x : Str} {c : Addr}, (x, c) ∈ clFrom env ns acc → (x, c) ∈ acc ∨ ((x, NameKind.free) ∈ ns ∧ c = (env.cells.lookup x).getD 0) := by
  induction ns with
  | nil =>
    intro _ _ _ h
    exact .inl h
  | cons X_ r ih =>
    obtain ⟨y, k⟩ := X_
    intro acc x c h
    unfold clFrom at h
    split at h
    · rename_i hk
      have hk : k = .free := by simpa using hk
      subst hk
      rcases ih h with h | ⟨h1, h2⟩
      · rcases List.mem_cons.mp h with e | h
        · obtain ⟨rfl, rfl⟩ := Prod.mk.inj e; exact .inr ⟨List.mem_cons_self, rfl⟩
        · exact .inl h
      · exact .inr ⟨List.mem_cons_of_mem _ h1, h2⟩
    · rcases ih h with h | ⟨h1, h2⟩
      · exact .inl h
      · exact .inr ⟨List.mem_cons_of_mem _ h1, h2⟩
theorem clFrom_has {ns : Nms} : ∀ {acc : List (Str × Addr)} {x : Str}, ((x, NameKind.free) ∈ ns ∨ ∃ c, (x, c) ∈ acc) → ∃ c, (x, c) ∈ clFrom env ns acc := by
  induction ns with
  | nil =>
    intro _ _ h
    rcases h with h | h; cases h; exact h
  | cons X_ r ih =>
    obtain ⟨y, k⟩ := X_
    intro acc x h
    unfold clFrom
    split
    · rcases h with h | ⟨c, h⟩
      · rcases List.mem_cons.mp h with e | h
        · obtain ⟨rfl, rfl⟩ := Prod.mk.inj e; exact ih (.inr ⟨_, List.mem_cons_self⟩)
        · exact ih (.inl h)
      · exact ih (.inr ⟨c, List.mem_cons_of_mem _ h⟩)
    · rename_i hk
      rcases h with h | h
      · rcases List.mem_cons.mp h with e | h
        · obtain ⟨rfl, rfl⟩ := Prod.mk.inj e; exact absurd rfl hk
        · exact ih (.inl h)
      · exact ih (.inr h)
theorem lookup_mem_some {α : Type} {l : List (Str × α)} : ∀ {x : Str} {a : α}, (x, a) ∈ l → ∃ b, l.lookup x = some b := by
  induction l with
  | nil => intros; contradiction
  | cons X_ r ih =>
    obtain ⟨y, b⟩ := X_
    intro x a h
    rw [List.lookup_cons]
    cases hb : x == y with
    | true => exact ⟨b, rfl⟩
    | false =>
      rcases List.mem_cons.mp h with e | h
      · obtain ⟨rfl, rfl⟩ := Prod.mk.inj e; simp at hb
      · exact ih h

noncomputable def compEnv' (sc : Scope) (env : Env) (C : Addr) : Env :=
  { scope := relabel sc env, locals := C, globals := env.globals, cells := cellsFrom (C + 1) sc.names (clFrom env sc.names []), qual := env.qual, func := none, code := env.code, frame := env.frame, builtins := env.builtins }

theorem pushCells_obj : ∀ {ns : Nms} {h : Heap} {n : Str} {c : Addr}, (n, c) ∈ cellsFrom h.objs.size ns [] → ∃ o, (pushCells h ns).get? c = some o ∧ isDC o := fun {ns h n c} hm => by
  have ok := cellsFrom_ok ns h 0 [] ⟨fun _ _ hm => (nomatch hm), List.Pairwise.nil⟩ (Nat.zero_le _)
  obtain ⟨⟨o, ho, hd⟩, _⟩ := ok.empty n c hm
  exact ⟨o, ho, .inr ⟨_, hd⟩⟩

theorem relabel_kind {sc : Scope} {x : Str} {k : NameKind} (hn : (sc.names.map (·.1)).Nodup) (h : (x, k) ∈ sc.names) :
    (k = .free ∧ ((relabel sc env).names.lookup x = some .free ∨ (relabel sc env).names.lookup x = some .cell)) ∨ (k ≠ .free ∧ (relabel sc env).names.lookup x = some k) := by
  have h1 : ((relabel sc env).names.map (·.1)).Nodup := by
    have : (relabel sc env).names.map (·.1) = sc.names.map (·.1) := by
      show (sc.names.map _).map _ = _
      rw [List.map_map]
      refine List.map_congr_left fun p _ => ?_
      obtain ⟨n, k⟩ := p
      show (if (k == .free && env.scope.kind == .function && env.kindOf n == some .cell) = true then (n, NameKind.cell) else (n, k)).1 = n
      split <;> rfl
    rw [this]; exact hn
  have h2 : (if (k == NameKind.free && env.scope.kind == .function && env.kindOf x == some .cell) = true then (x, NameKind.cell) else (x, k)) ∈ (relabel sc env).names := by
    show _ ∈ sc.names.map _
    exact List.mem_map.mpr ⟨(x, k), h, rfl⟩
  by_cases hk : k = .free
  · subst hk
    refine .inl ⟨rfl, ?_⟩
    split at h2
    · exact .inr (lookup_of_mem h1 h2)
    · exact .inl (lookup_of_mem h1 h2)
  · refine .inr ⟨hk, ?_⟩
    rw [if_neg (by simp [hk])] at h2
    exact lookup_of_mem h1 h2

theorem scOk_spec {imps : List (Option Nat)} {sc : Scope} (h : scOk imps names sc = true) : sc.kind = .function ∧ impOk names sc.names imps = true ∧ (sc.names.map (·.1)).Nodup ∧ ∀ p ∈ sc.names, (p.1 == ("__debug__" : Str)) = false ∧ (p.1 == ("__classdict__" : Str)) = false := by
  simp only [scOk, Bool.and_eq_true, decide_eq_true_eq, List.all_eq_true] at h
  obtain ⟨⟨⟨h1, h2⟩, h3⟩, h4⟩ := h
  refine ⟨h1, h2, nodupNm_spec h3, fun p hp => ?_⟩
  have := h4 p hp
  simpa [plainNm] using this

theorem outer_cell {i : Nat} {x : Str} {k : NameKind} {h : Heap} (F : FR base env names own μ ρ h) (hi : names[i]? = some (x, k)) (hk : k = .cell ∨ k = .free) :
    ∃ c ov, env.cells.lookup x = some c ∧ h.IsCell c ov ∧ ¬ μ.Has c ∧ ∀ d, (ρ[i]?).join = some d → ∃ v, ov = some v ∧ VR μ h d v := by
  obtain ⟨m, hm, hs⟩ := F.ns
  have := hs i x k hi
  unfold slotR at this
  rcases hk with rfl | rfl
  · obtain ⟨c, ov, h1, h2, h3, h4, h5⟩ := this
    exact ⟨c, ov, h1, h2, F.ownμ _ h3, h5⟩
  · obtain ⟨c, ov, h1, h2, h3, h4, h5⟩ := this
    exact ⟨c, ov, h1, h2, h4, h5⟩

theorem outer_free {imps : List (Option Nat)} {sc : Scope} {h : Heap} (hsc : scOk imps names sc = true) (F : FR base env names own μ ρ h) : ∀ x, (x, NameKind.free) ∈ sc.names → ∃ c, env.cells.lookup x = some c := by
  obtain ⟨_, h2, h3, _⟩ := scOk_spec hsc
  intro x hx
  obtain ⟨i, hi⟩ := List.mem_iff_getElem?.mp hx
  rcases (impOk_spec h2).2 i x .free hi with ⟨_, j, kk, _, hj, hkk⟩ | ⟨q, _⟩
  · obtain ⟨c, ov, h1, _⟩ := outer_cell F hj hkk; exact ⟨c, h1⟩
  · exact absurd rfl q

theorem compFrame {imps : List (Option Nat)} {sc : Scope} (hsc : scOk imps names sc = true) (F : FR base env names own μ ρ s.heap) (I : SI prog w base μ st s.heap) :
    ∃ own', FR base (compEnv' sc env s.heap.objs.size) sc.names own' μ (impRho imps ρ) (pushCells (s.heap.push { cls := .type "dict", data := .dict #[] }) sc.names) ∧ (∀ b ∈ own', s.heap.objs.size ≤ b) := by
  obtain ⟨h1, h2, h3, h4⟩ := scOk_spec hsc
  have hsz : (s.heap.push { cls := .type "dict", data := .dict #[] }).objs.size = s.heap.objs.size + 1 := Heap.size_push ..
  have ok := cellsFrom_ok sc.names (s.heap.push { cls := .type "dict", data := .dict #[] }) (s.heap.objs.size + 1) [] ⟨fun _ _ hm => (nomatch hm), List.Pairwise.nil⟩ (by rw [hsz]; exact Nat.le_refl _)
  rw [hsz] at ok
  have hkeep : ∀ b o, s.heap.get? b = some o → (pushCells (s.heap.push { cls := .type "dict", data := .dict #[] }) sc.names).get? b = some o := fun b o e => pushCells_keeps _ _ b o (push_keeps b o e)
  have hold : ∀ {c : Addr} {ov : Option Value}, s.heap.IsCell c ov → c < s.heap.objs.size := fun x => x.lt
  have hlk : ∀ x c, (compEnv' sc env s.heap.objs.size).cells.lookup x = some c → (x, c) ∈ cellsFrom (s.heap.objs.size + 1) sc.names [] ∨ ((x, NameKind.free) ∈ sc.names ∧ env.cells.lookup x = some c) := by
    intro x c hc
    have hc : (cellsFrom (s.heap.objs.size + 1) sc.names (clFrom env sc.names [])).lookup x = some c := hc
    rw [cellsFrom_acc, lookup_append] at hc
    cases hq : (cellsFrom (s.heap.objs.size + 1) sc.names []).lookup x with
    | some c' => rw [hq] at hc; obtain rfl := Option.some.inj hc; exact .inl (mem_of_lookup hq)
    | none =>
      rw [hq] at hc
      rcases clFrom_mem (mem_of_lookup (show (clFrom env sc.names []).lookup x = some c from hc)) with q | ⟨q1, q2⟩
      · cases q
      · obtain ⟨c2, e2⟩ := outer_free hsc F x q1
        rw [e2] at q2
        exact .inr ⟨q1, by rw [e2, q2]; rfl⟩
  have oldc : ∀ x c, env.cells.lookup x = some c → (x, NameKind.free) ∈ sc.names → c < s.heap.objs.size := by
    intro x c hc hx
    obtain ⟨i, hi⟩ := List.mem_iff_getElem?.mp hx
    rcases (impOk_spec h2).2 i x .free hi with ⟨_, j, kk, _, hj, hkk⟩ | ⟨q, _⟩
    · obtain ⟨c', ov, e1, e2, _⟩ := outer_cell F hj hkk
      rw [hc] at e1; obtain rfl := Option.some.inj e1; exact hold e2
    · exact absurd rfl q
  have ge1 : ∀ x c, (x, c) ∈ cellsFrom (s.heap.objs.size + 1) sc.names [] → s.heap.objs.size + 1 ≤ c := fun x c hm => (ok.empty x c hm).2
  refine ⟨s.heap.objs.size :: (cellsFrom (s.heap.objs.size + 1) sc.names []).map (·.2), ⟨⟨h1, F.ok.glob, F.ok.blt, fun x k hx => relabel_kind h3 hx, h3, fun x k hx => h4 (x, k) hx⟩, ?_, ⟨fun _ => none, ?_, fun i x k hi => ?_⟩, List.mem_cons_self, ?_, ?_, ?_, ?_⟩, ?_⟩
  · rw [impRho, List.length_map, (impOk_spec h2).1]
  · have := (Heap.Ns.new s.heap (.type "dict")).keeps (pushCells_keeps sc.names _)
    exact this
  · have hio := (impOk_spec h2).2 i x k hi
    have himp : ∀ o, imps[i]? = some o → ((impRho imps ρ)[i]?).join = o.bind fun j => (ρ[j]?).join := fun o e => by
      rw [impRho, List.getElem?_map, e]; rfl
    have hmem := List.mem_of_getElem? hi
    unfold slotR
    rcases hio with ⟨rfl, j, kk, e1, e2, e3⟩ | ⟨hk1, hk2, e1⟩
    · obtain ⟨c, ov, c1, c2, c3, c4⟩ := outer_cell F e2 e3
      refine ⟨c, ov, ?_, c2.keeps hkeep, ?_, c3, fun d hd => ?_⟩
      · show (cellsFrom (s.heap.objs.size + 1) sc.names (clFrom env sc.names [])).lookup x = some c
        have hno : (cellsFrom (s.heap.objs.size + 1) sc.names []).lookup x = none := by
          refine lookup_none fun a q => ?_
          have := lookup_of_mem h3 (cellsFrom_name q)
          rw [lookup_of_mem h3 hmem] at this; cases this
        rw [cellsFrom_acc, lookup_append, hno]
        obtain ⟨c', hc'⟩ := clFrom_has (env := env) (acc := []) (.inl hmem)
        obtain ⟨c2', hc2⟩ := lookup_mem_some hc'
        show (clFrom env sc.names []).lookup x = some c
        rw [hc2]
        rcases clFrom_mem (mem_of_lookup hc2) with q | ⟨_, q⟩
        · cases q
        · rw [c1] at q; rw [q]; rfl
      · intro q
        have lt := hold c2
        rcases List.mem_cons.mp q with q | q
        · rw [q] at lt; exact Nat.lt_irrefl _ lt
        · obtain ⟨p, hp, rfl⟩ := List.mem_map.mp q
          exact Nat.lt_irrefl _ (Nat.lt_of_lt_of_le lt (Nat.le_of_succ_le (ge1 p.1 p.2 hp)))
      · rw [himp _ e1] at hd
        obtain ⟨v, v1, v2⟩ := c4 d hd
        exact ⟨v, v1, v2.keeps hkeep⟩
    · have hnone : ((impRho imps ρ)[i]?).join = none := by rw [himp _ e1]; rfl
      rw [hnone]
      cases k with
      | «local» => intro d hd; exact none_ne hd
      | cell =>
        obtain ⟨c, hc⟩ := cellsFrom_has (n := s.heap.objs.size + 1) hmem
        have hmc := mem_of_lookup hc
        refine ⟨c, none, ?_, (ok.empty x c hmc).1, List.mem_cons_of_mem _ (List.mem_map.mpr ⟨(x, c), hmc, rfl⟩), ?_, fun d hd => by cases hd⟩
        · show (cellsFrom (s.heap.objs.size + 1) sc.names (clFrom env sc.names [])).lookup x = some c
          rw [cellsFrom_acc, lookup_append, hc]; rfl
        · exact Nat.ne_of_gt (ge1 x c hmc)
      | free => exact absurd rfl hk1
      | globalExplicit => rfl
      | globalImplicit => rfl
  · intro b hb q
    obtain ⟨o, ho⟩ := I.alive b q
    have lt := Heap.lt_size ho
    rcases List.mem_cons.mp hb with q | q
    · rw [q] at lt; exact Nat.lt_irrefl _ lt
    · obtain ⟨p, hp, rfl⟩ := List.mem_map.mp q
      exact Nat.lt_irrefl _ (Nat.lt_of_lt_of_le lt (Nat.le_of_succ_le (ge1 p.1 p.2 hp)))
  · intro b hb
    rcases List.mem_cons.mp hb with rfl | q
    · exact ⟨_, pushCells_keeps _ _ _ _ (Heap.get?_push_size _ rfl), .inl ⟨_, _, rfl⟩⟩
    · obtain ⟨p, hp, rfl⟩ := List.mem_map.mp q
      obtain ⟨⟨o, ho, hd⟩, _⟩ := ok.empty p.1 p.2 hp
      exact ⟨o, ho, .inr ⟨_, hd⟩⟩
  · intro x y c hx hy
    rcases hlk x c hx with hx | ⟨hx1, hx2⟩ <;> rcases hlk y c hy with hy | ⟨hy1, hy2⟩
    · exact name_of_addr ok.apart hx hy
    · have := oldc y c hy2 hy1
      exact absurd (Nat.lt_of_lt_of_le this (Nat.le_of_succ_le (ge1 x c hx))) (Nat.lt_irrefl _)
    · have := oldc x c hx2 hx1
      exact absurd (Nat.lt_of_lt_of_le this (Nat.le_of_succ_le (ge1 y c hy))) (Nat.lt_irrefl _)
    · exact F.inj x y c hx2 hy2
  · intro b hb
    cases e : base.get? b with
    | none => rfl
    | some o =>
      have lt := Heap.lt_size (I.keep b o e)
      rcases List.mem_cons.mp hb with q | q
      · rw [q] at lt; exact absurd lt (Nat.lt_irrefl _)
      · obtain ⟨p, hp, rfl⟩ := List.mem_map.mp q
        exact absurd (Nat.lt_of_lt_of_le lt (Nat.le_of_succ_le (ge1 p.1 p.2 hp))) (Nat.lt_irrefl _)
  · intro b hb
    rcases List.mem_cons.mp hb with rfl | q
    · exact Nat.le_refl _
    · obtain ⟨p, hp, rfl⟩ := List.mem_map.mp q
      exact Nat.le_of_succ_le (ge1 p.1 p.2 hp)

theorem newEnvC {M : Model} {sc : Scope} {closure : List (Str × Addr)} {outer : Env} {globals : Addr} {qual : Str} {Q : Env → Shared → Prop}
    (h : Q { scope := sc, locals := s.heap.objs.size, globals, cells := cellsFrom (s.heap.objs.size + 1) sc.names closure, qual, func := none, code := outer.code, frame := outer.frame, builtins := outer.builtins }
      { s with heap := pushCells (s.heap.push { cls := .type "dict", data := .dict #[] }) sc.names }) :
    wpAny M A (newFunctionEnv sc globals closure [] qual none .none (some outer)) Q E' s := by
  have hsz : (s.heap.push { cls := .type "dict", data := .dict #[] }).objs.size = s.heap.objs.size + 1 := Heap.size_push ..
  simp only [newFunctionEnv, Option.isSome_some, if_true]
  refine wpAny_bind (wpAny_alloc ?_)
  refine wpAny_bind (wpAny_layCells _ (fun name kind cells => by cases hkc : kind == NameKind.cell <;> simp [hkc]) _ _ _ _ ?_)
  rw [show ({ s with heap := s.heap.push { cls := .type "dict", data := .dict #[] } } : Shared).heap.objs.size = s.heap.objs.size + 1 from hsz]
  rw [List.forIn_nil]
  exact wpAny_bind (wpAny_pure (wpAny_pure h))
end Mine
end
section
open PySem PySem.W PyProof.Rows
set_option linter.unusedVariables false
namespace Mine
variable {prog : Program} {w : World} {A : Around} {E' : Value → Shared → Prop} {s : Shared} {base : Heap} {μ : Mu} {st : St} {fz : List Nat}
variable {env : Env} {names : Nms} {own : List Addr} {ρ : Rho}

theorem PE.from {μ1 : Mu} {s1 s2 : Shared} {st' : St} {d : D} {v : Value} (T : Stp NoW fz μ s μ1 s1) (h : PE prog w base μ1 fz s1 st' d v s2) : PE prog w base μ fz s st' d v s2 := by
  obtain ⟨μ', T', I', V'⟩ := h
  exact ⟨μ', T.trans T', I', V'⟩
theorem PE.less {fz' : List Nat} {st' : St} {d : D} {v : Value} {s2 : Shared} (hf : ∀ r ∈ fz, r ∈ fz') (h : PE prog w base μ fz' s st' d v s2) : PE prog w base μ fz s st' d v s2 := by
  obtain ⟨μ', T', I', V'⟩ := h
  exact ⟨μ', T'.weaken (fun _ h => h) hf, I', V'⟩

inductive PL (prog : Program) (w : World) (base : Heap) (μ : Mu) (fz : List Nat) (s : Shared) (st' : St) (ds : List D) (vs : List Value) (s' : Shared) : Prop
  | mk (μ' : Mu) (T : Stp NoW fz μ s μ' s') (I : SI prog w base μ' st' s'.heap) (V : VRs μ' s'.heap ds vs) : PL prog w base μ fz s st' ds vs s'

/-- what is laid before the law is called -/
structure HB (base : Heap) (mg mb : Str → Option Value) : Prop where
  g : base.Ns mainGlobals mg
  b : base.Ns builtinsNs mb
  glob : ∀ (g : Nat) (x : Str) (d : D), globNames[g]? = some x → globD g = some d → ∃ v, mg x = some v ∧ VR ⟨[], []⟩ base d v
  blt : ∀ b, mg (bltNm b) = none ∧ mb (bltNm b) = some (bltV b)
  rng : mg "range" = none ∧ mb "range" = some (.type "range")
  enu : mg "enumerate" = none ∧ mb "enumerate" = some (.type "enumerate")
  two : ∃ o, base.get? 2 = some o
  fn : ∀ (f : Nat) (x : Str), fnNames[f]? = some x → ∃ a o fd, mg x = some (.ref a) ∧ base.get? a = some o ∧ o.data = .func fd

theorem VR.ofBase {d : D} {v : Value} (I : SI prog w base μ st s.heap) (h : VR ⟨[], []⟩ base d v) : VR μ s.heap d v :=
  h.mono (List.nil_prefix ..) (fun a ha => .inr (I.above a ha)) fun b o e _ _ => I.keep b o e

variable {mg mb : Str → Option Value}

theorem isG_kind {x : Str} (F : FR base env names own μ ρ s.heap) (h : isG names x = true) : env.kindOf x = some .globalImplicit := by
  simp only [isG, List.any_eq_true, Bool.and_eq_true, decide_eq_true_eq] at h
  obtain ⟨⟨y, k⟩, hm, h1, h2⟩ := h
  simp only at h1 h2
  subst h1 h2
  rcases F.ok.kindOf _ _ hm with ⟨e, _⟩ | ⟨_, e⟩
  · cases e
  · exact e

theorem ns_keep (I : SI prog w base μ st s.heap) {a : Addr} {m : Str → Option Value} (h : base.Ns a m) : s.heap.Ns a m := Heap.Ns.at' h fun o e => I.keep a o e

theorem load_global {x : Str} {pos : Pos} {v : Value} {Q : Value → Shared → Prop} (B : HB base mg mb) (F : FR base env names own μ ρ s.heap) (I : SI prog w base μ st s.heap) (hx : isG names x = true) (hp : plainNm x = true)
    (hv : mg x = some v) (h : Q v s) : wpAny (model prog w) A (eval (.Name x pos) env) Q E' s :=
  Calls.Name_function_global F.ok.kind (isG_kind F hx) (Calls.loadGlobal_global (by rw [F.ok.glob]; exact ns_keep I B.g) hv h) (by simp [plainNm] at hp; simpa using hp.1)
theorem load_blt {x : Str} {pos : Pos} {v : Value} {Q : Value → Shared → Prop} (B : HB base mg mb) (F : FR base env names own μ ρ s.heap) (I : SI prog w base μ st s.heap) (hx : isG names x = true) (hp : plainNm x = true)
    (hn : mg x = none) (hv : mb x = some v) (h : Q v s) : wpAny (model prog w) A (eval (.Name x pos) env) Q E' s :=
  Calls.Name_function_global F.ok.kind (isG_kind F hx) (Calls.loadGlobal_builtin (by rw [F.ok.glob]; exact ns_keep I B.g) hn (by rw [F.ok.blt]; exact ns_keep I B.b) hv h) (by simp [plainNm] at hp; simpa using hp.1)

noncomputable def SemE (prog : Program) (w : World) (base : Heap) (cf : List Nat → Nat → List D → St → Option (D × St)) (n : Nat) (names : Nms) (e : E) (x : Expr) : Prop :=
  ∀ {fz : List Nat} {ρ : Rho} {st : St} {z : D} {st' : St} {A : Around} {E' : Value → Shared → Prop} {s : Shared} {μ : Mu} {env : Env} {own : List Addr}, evE cf e fz ρ st = some (z, st') → AOk n A → FR base env names own μ ρ s.heap →
    SI prog w base μ st s.heap → wpAny (model prog w) A (eval x env) (PE prog w base μ fz s st' z) E' s
noncomputable def SemT (prog : Program) (w : World) (base : Heap) (cf : List Nat → Nat → List D → St → Option (D × St)) (n : Nat) (names : Nms) (e : E) (x : Expr) : Prop :=
  ∀ {fz : List Nat} {ρ : Rho} {st : St} {z : D} {st' : St} {A : Around} {E' : Value → Shared → Prop} {s : Shared} {μ : Mu} {env : Env} {own : List Addr}, evE cf e fz ρ st = some (z, st') → (∃ b, z = .bool b) → AOk n A → FR base env names own μ ρ s.heap →
    SI prog w base μ st s.heap → wpAny (model prog w) A (isTrue x env (eval x env)) (fun b s' => z = .bool b ∧ PE prog w base μ fz s st' (.bool b) (.bool b) s') E' s
noncomputable def SemL (prog : Program) (w : World) (base : Heap) (cf : List Nat → Nat → List D → St → Option (D × St)) (n : Nat) (names : Nms) (e : E) (xs : List Expr) : Prop :=
  ∀ {fz : List Nat} {ρ : Rho} {st : St} {z : List D} {st' : St} {A : Around} {E' : Value → Shared → Prop} {s : Shared} {μ : Mu} {env : Env} {own : List Addr} {pos : Pos}, evL cf e fz ρ st = some (z, st') → AOk n A → FR base env names own μ ρ s.heap →
    SI prog w base μ st s.heap → wpAny (model prog w) A (spliced (backTo pos (starEach xs env))) (PL prog w base μ fz s st' z) E' s
/-- the conditions of a comprehension -/
noncomputable def SemC (prog : Program) (w : World) (base : Heap) (cf : List Nat → Nat → List D → St → Option (D × St)) (n : Nat) (names : Nms) (e : E) (ifs : List Expr) : Prop :=
  ∀ {fz : List Nat} {ρ : Rho} {st : St} {z : D} {st' : St} {A : Around} {E' : Value → Shared → Prop} {s : Shared} {μ : Mu} {env : Env} {own : List Addr}, evE cf e fz ρ st = some (z, st') → (∃ b, z = .bool b) → AOk n A → FR base env names own μ ρ s.heap →
    SI prog w base μ st s.heap → wpAny (model prog w) A (forIn ifs true fun c r => if r = true then do let ok ← isTrue c env (eval c env); pure (ForInStep.yield ok) else pure (ForInStep.yield r))
      (fun b s' => z = .bool b ∧ PE prog w base μ fz s st' (.bool b) (.bool b) s') E' s

/-- a source of a loop: the expression, then the iterator -/
noncomputable def SemS (prog : Program) (w : World) (base : Heap) (cf : List Nat → Nat → List D → St → Option (D × St)) (n : Nat) (names : Nms) (k : SK) (e : E) (it : Expr) : Prop :=
  ∀ {fz : List Nat} {ρ : Rho} {st : St} {z : D} {st' : St} {its : List D} {A : Around} {E' : Value → Shared → Prop} {s : Shared} {μ : Mu} {env : Env} {own : List Addr} {target : Expr} {Q : Value → Shared → Prop}, evE cf e fz ρ st = some (z, st') → items k z st' = some its →
    AOk n A → FR base env names own μ ρ s.heap → SI prog w base μ st s.heap → skTgt k target = true →
    (∀ μ0 s0 Ia wr src St h1 tk, Stp NoW fz μ s μ0 s0 → SI prog w base μ0 st' s0.heap → Itr prog w A (fzOf z fz) μ0 s0 target Ia wr src its St → St 0 h1 → (∀ b o, s0.heap.get? b = some o → h1.get? b = some o) →
      Q (.ref Ia) { s0 with heap := h1, toks := tk }) →
    wpAny (model prog w) A (eval it env) (fun x s₁ => wpAny (model prog w) A (pyIter x) Q E' s₁) E' s

theorem star_cons {x : Expr} {xs : List Expr} (h : notStar x = true) : starEach (x :: xs) env = (false, eval x env) :: starEach xs env := by
  cases x <;> first | rfl | (cases h; done)
theorem star_plain {pos : Pos} {xs : List Expr} : xs.all notStar = true → (backTo pos (starEach xs env)).any (·.1) = false := by
  induction xs with
  | nil =>
    intro _
    exact rfl
  | cons x xs ih =>
    intro h
    rw [List.all_cons, Bool.and_eq_true] at h
    rw [star_cons h.1]
    show (false || (backTo pos (starEach xs env)).any (·.1)) = false
    rw [ih h.2]; rfl

theorem args_of {f : Value} {a : Expr} {as : List Expr} {pos : Pos} {Q : Args → Shared → Prop} (ha : notStar a = true)
    (h : wpAny (model prog w) A (spliced (backTo pos (starEach (a :: as) env))) (fun vs s' => Q ⟨vs, []⟩ s') E' s) : wpAny (model prog w) A (evalArgs f true (backTo pos (starEach (a :: as) env)) []) Q E' s := by
  rw [star_cons ha] at h ⊢
  exact Calls.evalArgs_plain h

theorem with_type {T : String} {a : Expr} {as : List Expr} {pos : Pos} {Q : Value → Shared → Prop} (ha : (a :: as).all notStar = true)
    (h : wpAny (model prog w) A (spliced (backTo pos (starEach (a :: as) env))) (fun vs s' => wpAny (model prog w) A (call (.type T) vs) Q E' s') E' s) : wpAny (model prog w) A (callWith pos (.type T) [] (backTo pos (starEach (a :: as) env)) []) Q E' s :=
  PySem.callWith_type (star_plain ha) (args_of (by rw [List.all_cons, Bool.and_eq_true] at ha; exact ha.1) h)
theorem with_builtin {id : String} {first : List Value} {a : Expr} {as : List Expr} {pos : Pos} {Q : Value → Shared → Prop} (ha : (a :: as).all notStar = true)
    (h : wpAny (model prog w) A (spliced (backTo pos (starEach (a :: as) env))) (fun vs s' => wpAny (model prog w) A (call (.builtin id) (first ++ vs)) Q E' s') E' s) : wpAny (model prog w) A (callWith pos (.builtin id) first (backTo pos (starEach (a :: as) env)) []) Q E' s :=
  Calls.callWith_builtin (star_plain ha) (args_of (by rw [List.all_cons, Bool.and_eq_true] at ha; exact ha.1) h)
theorem with_fn {f : Addr} {o : Obj} {fd : FuncData} {a : Expr} {as : List Expr} {pos : Pos} {Q : Value → Shared → Prop} (ha : (a :: as).all notStar = true) (hd : o.data = .func fd)
    (h : wpAny (model prog w) A (spliced (backTo pos (starEach (a :: as) env))) (fun vs s' => s'.heap.get? f = some o ∧ wpAny (model prog w) A (call (.ref f) vs) Q E' s') E' s) : wpAny (model prog w) A (callWith pos (.ref f) [] (backTo pos (starEach (a :: as) env)) []) Q E' s :=
  Calls.callWith_function (o := o) (fd := fd) (args_of (by rw [List.all_cons, Bool.and_eq_true] at ha; exact ha.1) (wpAny_mono h (fun vs s' h' => ⟨⟨h'.1, hd⟩, h'.2⟩) fun _ _ e => e))

theorem spliced_one {a : Expr} {pos : Pos} {Q : List Value → Shared → Prop} (ha : notStar a = true) (h : wpAny (model prog w) A (eval a env) (fun v s' => Q [v] s') E' s) : wpAny (model prog w) A (spliced (backTo pos (starEach [a] env))) Q E' s := by
  rw [star_cons ha]
  exact Calls.spliced_cons (wpAny_mono h (fun v s' h' => Calls.spliced_nil h') fun _ _ e => e)

theorem allOne {a : Expr} (h : notStar a = true) : [a].all notStar = true := (Bool.and_true _).trans h
theorem semS_of {cf : List Nat → Nat → List D → St → Option (D × St)} {n : Nat} {k : SK} {e : E} {it : Expr} (B : HB base mg mb) {f : Expr → Bool} (hx : srcB names k it f = true) (hf : ∀ x, f x = true → SemE prog w base cf n names e x) :
    SemS prog w base cf n names k e it := by
  intro fz ρ st z st' its A E' s μ env own target Q hev hi hA F I ht hQ
  have fin : ∀ {k : SK} {x : Expr}, SemE prog w base cf n names e x → items k z st' = some its → skTgt k target = true → wpAny (model prog w) A (eval x env) (fun v s₁ => srcRun prog w A k v Q E' s₁) E' s := fun hE hi ht => by
    refine wpAny_mono (hE hev hA F I) (fun v s₁ h₁ => ?_) fun _ _ e => e
    obtain ⟨μ1, T1, I1, V1⟩ := h₁
    exact src_iter hA.handled I1 V1 hi ht fun Ia wr src St h1 tk It st0 hk => hQ μ1 s₁ Ia wr src St h1 tk T1 I1 It st0 hk
  rcases k with _ | _ | _
  · exact fin (k := .plain) (hf _ hx) hi ht
  · obtain ⟨p, a, q, rfl, h2, h3, h4, ha⟩ := srcC_s hx
    exact Call_ (load_blt B F I h2 h3 B.rng.1 B.rng.2 (with_type (allOne h4) (spliced_one h4 (fin (k := .range) (hf _ ha) hi ht))))
  · obtain ⟨p, a, q, rfl, h2, h3, h4, ha⟩ := srcC_s hx
    exact Call_ (load_blt B F I h2 h3 B.enu.1 B.enu.2 (with_type (allOne h4) (spliced_one h4 (fin (k := .enum) (hf _ ha) hi ht))))
end Mine
end
section
open PySem PySem.W PyProof.Rows
set_option linter.unusedVariables false
namespace Mine
variable {prog : Program} {w : World} {A : Around} {E' : Value → Shared → Prop} {s : Shared} {base : Heap} {μ : Mu} {st : St} {fz : List Nat}
variable {env : Env} {names : Nms} {own : List Addr} {ρ : Rho} {mg mb : Str → Option Value}

noncomputable def Rle (ρ2 ρ1 : Rho) : Prop := ρ2.length = ρ1.length ∧ ∀ (i : Nat) (d : D), (ρ2[i]?).join = some d → (ρ1[i]?).join = some d
theorem Rle.refl : Rle ρ ρ := ⟨rfl, fun _ _ h => h⟩
theorem Rle.trans {a b c : Rho} (h1 : Rle a b) (h2 : Rle b c) : Rle a c := ⟨h1.1.trans h2.1, fun i d h => h2.2 i d (h1.2 i d h)⟩

theorem FR.weaken {ρ2 : Rho} {h : Heap} (F : FR base env names own μ ρ h) (r : Rle ρ2 ρ) : FR base env names own μ ρ2 h := by
  obtain ⟨m, hm, hs⟩ := F.ns
  refine ⟨F.ok, r.1.trans F.len, ⟨m, hm, fun i x k hi => ?_⟩, F.loc, F.ownμ, F.nseq, F.inj, F.ownB⟩
  exact (hs i x k hi).map (fun q => q) rfl (r.2 i) (fun _ _ _ q _ => q) fun _ _ _ q => q

/-- containers in the locked part and the like: the same object, values kept -/
theorem CR.stp {W : Addr → Prop} {μ' : Mu} {s' : Shared} {a : Addr} {c : Cont} (T : Stp W fz μ s μ' s') (hW : ∀ b o, W b → s.heap.get? b = some o → ¬ isSeq o) (ha : s'.heap.get? a = s.heap.get? a) (x : CR prog w μ s.heap a c) : CR prog w μ' s'.heap a c :=
  x.mono T.pre T.fresh (fun b o ho hs hb => T.keep b o ho hb fun q => hW b o q ho hs) ha

theorem itr_step {fz1 : List Nat} {μr μ4 : Mu} {sr s4 : Shared} {target : Expr} {tgt : List Nat} {Ia : Addr} {wr src : List Addr} {its : List D} {St : Nat → Heap → Prop} {ow : Addr → Prop} {i : Nat} {x : D} {ρ' : Rho} {Q : Unit → Shared → Prop}
    (hh : A.handled = none) (ht : tgtOk names target tgt = true) (It : Itr prog w A fz1 μr sr target Ia wr src its St) (hvr : ∀ d v, VR μr sr.heap d v → VR μ4 s4.heap d v)
    (hsrc : ∀ b ∈ src, ∃ o, s4.heap.get? b = some o ∧ ((isSeq o ∧ ¬ μ4.Has b) ∨ ∃ r ∈ fz1, μ4.l[r]? = some b)) (hsrcW : ∀ b ∈ src, ¬ ow b ∧ b ∉ wr) (hwrB : ∀ b ∈ wr, base.get? b = none)
    (how : ∀ b ∈ own, ow b) (howS : ∀ b o, ow b ∨ b ∈ wr → s4.heap.get? b = some o → ¬ isSeq o ∨ μ4.Has b) (hwow : ∀ b ∈ wr, b ∉ own)
    (T : Stp (fun b => ow b ∨ b ∈ wr) fz1 μ4 s4 μ s) (I : SI prog w base μ st s.heap) (F : FR base env names own μ ρ s.heap) (hst : St i s.heap) (hwμ : ∀ b ∈ wr, ¬ μ.Has b) (hx : its[i]? = some x) (hb : bindT tgt x ρ = some ρ')
    (h : ∀ h' tk, Stp (fun b => Own own b ∨ b ∈ wr) fz1 μ s μ { s with heap := h', toks := tk } → SI prog w base μ st h' → FR base env names own μ ρ' h' → St (i + 1) h' → Q () { s with heap := h', toks := tk }) :
    wpAny (model prog w) A (pyNext (.ref Ia)) (fun r s1 => ∃ v, r = some v ∧ wpAny (model prog w) A (letOwnedTupleGo target (.ref Ia) v) (fun _ s1' => wpAny (model prog w) A (assign target env v) Q E' s1') E' s1) E' s := by
  have hvs : ∀ d v, VR μr sr.heap d v → VR μ s.heap d v := fun d v q =>
    (hvr d v q).mono T.pre T.fresh fun b o e hs hb' => T.keep b o e hb' fun q => by
      rcases howS b o q e with q | q
      · exact q hs
      · exact hb' q
  refine It.item i x s μ _ E' hx hst hvs hwμ I.alive fun v h2 tk hv st2 hk => ?_
  have wrF := It.wrF i _ hst
  have T1 : Stp (fun b => Own own b ∨ b ∈ wr) fz1 μ s μ { s with heap := h2, toks := tk } :=
    Stp.ofBut (fun b o e hw => hk b o (fun q => hw (.inr q)) e) (fun b hb' => ⟨I.alive b hb', fun q => q.elim (fun q => F.ownμ b q hb') fun q => hwμ b q hb'⟩) (fun b o e => by
      by_cases q : b ∈ wr
      · obtain ⟨o', ho', _⟩ := It.wrF _ _ st2 b q; exact ⟨o', ho'⟩
      · exact ⟨o, hk b o q e⟩)
  have T1' : Stp (fun b => b ∈ wr) fz1 μ s μ { s with heap := h2, toks := tk } :=
    Stp.ofBut (fun b o e hw => hk b o (fun q => hw q) e) (fun b hb' => ⟨I.alive b hb', fun q => hwμ b q hb'⟩) (fun b o e => by
      by_cases q : b ∈ wr
      · obtain ⟨o', ho', _⟩ := It.wrF _ _ st2 b q; exact ⟨o', ho'⟩
      · exact ⟨o, hk b o q e⟩)
  have I1 : SI prog w base μ st h2 := I.mono (fun b o e => hk b o (fun q => by rw [hwrB b q] at e; cases e) (I.keep b o e)) (fun b o e hs hb' => hk b o (fun q => by
      obtain ⟨o', ho', hf⟩ := wrF b q; rw [e] at ho'; obtain rfl := Option.some.inj ho'; exact hf.notSeq hs) e) fun b hb' => by
    obtain ⟨o, ho⟩ := I.alive b hb'
    rw [ho, hk b o (fun q => hwμ b q hb') ho]
  have F1 : FR base env names own μ ρ h2 := F.stpF T1' fun b o q e => by obtain ⟨o', ho', hf⟩ := wrF b q; rw [e] at ho'; obtain rfl := Option.some.inj ho'; exact .inl hf
  refine F1.assign (s := { s with heap := h2, toks := tk }) (fz := fz1) hh ht I1 hv hb fun h3 tk3 T2 I2 F2 => ?_
  refine h h3 tk3 (T1.trans (T2.weaken (fun b q => .inl q) fun r hr => hr)) I2 F2 ?_
  refine It.frame (i + 1) h2 h3 st2 fun b o hb' e => ?_
  rcases hb' with q | q
  · exact T2.keep b o e (hwμ b q) (hwow b q)
  · obtain ⟨o4, ho4, hc⟩ := hsrc b q
    rcases hc with ⟨hs, hn⟩ | ⟨r, hr, hrb⟩
    · refine T2.keep b o e (fun hm => ?_) fun hown => (hsrcW b q).1 (how b hown)
      rcases T.fresh b hm with z | z
      · exact hn z
      · rw [ho4] at z; cases z
    · exact (T2.frz r hr b (pre_get T.pre hrb)).trans e
theorem Stp.tail {W : Addr → Prop} {wr : List Addr} {μ0 : Mu} {s0 : Shared} {h' : Heap} {tk : Nat} (T : Stp W fz μ0 s0 μ s) (hk : ∀ b o, b ∉ wr → s.heap.get? b = some o → h'.get? b = some o) (hf : ∀ b ∈ wr, s0.heap.get? b = none)
    (hal : ∀ a, μ0.Has a → ∃ o, s0.heap.get? a = some o) : Stp W fz μ0 s0 μ { s with heap := h', toks := tk } := by
  have old : ∀ b o, s0.heap.get? b = some o → b ∉ wr := fun b o e q => by rw [hf b q] at e; exact none_ne e
  refine ⟨T.pre, T.fresh, fun b o e hb hw => hk b o (old b o e) (T.keep b o e hb hw), fun b o e => ?_, fun r hr a e => ?_, T.zeq, fun a ha hw => ?_, T.gens, T.os⟩
  · obtain ⟨o', ho'⟩ := T.live b o e
    exact ⟨o', hk b o' (old b o e) ho'⟩
  · obtain ⟨o, ho⟩ := hal a (Mu.mem e)
    have := T.frz r hr a e
    rw [ho] at this
    show h'.get? a = s0.heap.get? a
    rw [ho]; exact hk a o (old a o ho) this
  · obtain ⟨o, ho⟩ := hal a (Mu.memZ ha)
    have := T.zk a ha hw
    rw [ho] at this
    show h'.get? a = s0.heap.get? a
    rw [ho]; exact hk a o (old a o ho) this

/-- W may forget what was not there at the start -/
theorem Stp.drop {W W' : Addr → Prop} {μ0 : Mu} {s0 : Shared} (T : Stp W fz μ0 s0 μ s) (hW : ∀ b, W b → W' b ∨ s0.heap.get? b = none) (hal : ∀ a ∈ μ0.z, ∃ o, s0.heap.get? a = some o) : Stp W' fz μ0 s0 μ s :=
  ⟨T.pre, T.fresh, fun b o e hb hw => T.keep b o e hb fun q => (hW b q).elim hw fun q => (by rw [e] at q; cases q), T.live, T.frz, T.zeq, fun a ha hw => T.zk a ha fun q => (hW a q).elim hw fun q => (by
    obtain ⟨o, ho⟩ := hal a ha; rw [ho] at q; cases q), T.gens, T.os⟩

theorem SI.butF {wr : List Addr} {h' : Heap} (I : SI prog w base μ st s.heap) (hk : ∀ b o, b ∉ wr → s.heap.get? b = some o → h'.get? b = some o) (hF : ∀ b ∈ wr, ∃ o, s.heap.get? b = some o ∧ isF o) (hB : ∀ b ∈ wr, base.get? b = none) (hμ : ∀ b ∈ wr, ¬ μ.Has b) : SI prog w base μ st h' :=
  I.mono (fun b o e => hk b o (fun q => by rw [hB b q] at e; cases e) (I.keep b o e)) (fun b o e hs hb' => hk b o (fun q => by
      obtain ⟨o', ho', hf⟩ := hF b q; rw [e] at ho'; obtain rfl := Option.some.inj ho'; exact hf.notSeq hs) e) fun b hb' => by
    obtain ⟨o, ho⟩ := I.alive b hb'
    rw [ho, hk b o (fun q => hμ b q hb') ho]
theorem FR.butF {wr : List Addr} {h' : Heap} (F : FR base env names own μ ρ s.heap) (hk : ∀ b o, b ∉ wr → s.heap.get? b = some o → h'.get? b = some o) (hF : ∀ b ∈ wr, ∃ o, s.heap.get? b = some o ∧ isF o) : FR base env names own μ ρ h' :=
  F.mono (List.prefix_refl _) (fun _ h => .inl h) fun b o e _ hf => hk b o (fun q => by obtain ⟨o', ho', hf'⟩ := hF b q; rw [e] at ho'; obtain rfl := Option.some.inj ho'; exact hf hf') e

/-- the rule of a comprehension's loop -/
noncomputable def LoopRule (prog : Program) (w : World) (A : Around) (it : Value) (target : Expr) (env : Env) (bw : (Shared → Prop) → (Value → Shared → Prop) → Shared → Prop) (R : Result → Shared → Prop) (c : Code) : Prop :=
  ∀ (I : Nat → Shared → Prop) (E' : Value → Shared → Prop), E' = notedBy (model prog w) A env (fun e s' => R (.error e) s') → (∀ n s, I n s → wpAny (model prog w) A (pyNext it) (fun r s₁ => match r with
      | none => R (.ok .next) s₁
      | some v => wpAny (model prog w) A (letOwnedTupleGo target it v) (fun _ s₁' => wpAny (model prog w) A (assign target env v) (fun _ s₂ => bw (fun s₅ => ∃ m, m < n ∧ I m s₅) E' s₂) E' s₁') E' s₁) E' s) →
    ∀ n s, I n s → codeAny (model prog w) A c R s

section
variable {fz1 : List Nat} {μr μR : Mu} {sR : Shared} {target : Expr} {Ia : Addr} {wr src : List Addr} {its : List D} {St' : Nat → Heap → Prop} {W ow : Addr → Prop} {μ' μ5 : Mu} {s' s3 s5 : Shared} {j : Nat}
theorem Itr.frame5 (It : Itr prog w A fz1 μr sR target Ia wr src its St') (T' : Stp W fz1 μR sR μ' s') (T5 : Stp ow fz1 μ' s3 μ5 s5) (st3 : St' j s3.heap) (hwμ : ∀ b ∈ wr, ¬ μ'.Has b) (hwow : ∀ b ∈ wr, ¬ ow b)
    (hsrc : ∀ b ∈ src, ∃ o, sR.heap.get? b = some o ∧ ((isSeq o ∧ ¬ μR.Has b) ∨ ∃ r ∈ fz1, μR.l[r]? = some b)) (hso : ∀ b ∈ src, ¬ ow b) : St' j s5.heap := by
  refine It.frame j s3.heap s5.heap st3 fun b o hb' e => ?_
  rcases hb' with q | q
  · exact T5.keep b o e (hwμ b q) (hwow b q)
  · obtain ⟨o4, ho4, hc⟩ := hsrc b q
    rcases hc with ⟨hs, hn⟩ | ⟨r, hr, hrb⟩
    · refine T5.keep b o e (fun hm => ?_) (hso b q)
      rcases T'.fresh b hm with z | z
      · exact hn z
      · rw [ho4] at z; exact none_ne z.symm
    · exact (T5.frz r hr b (pre_get T'.pre hrb)).trans e
theorem Itr.apart5 (It : Itr prog w A fz1 μr sR target Ia wr src its St') (T5 : Stp ow fz1 μ' s3 μ5 s5) (st3 : St' j s3.heap) (hwμ : ∀ b ∈ wr, ¬ μ'.Has b) : ∀ b ∈ wr, ¬ μ5.Has b := fun b hb q => by
  rcases T5.fresh b q with q | q
  · exact hwμ b hb q
  · obtain ⟨o, ho, _⟩ := It.wrF _ _ st3 b hb; rw [ho] at q; exact none_ne q.symm
theorem Itr.wrBase (It : Itr prog w A fz1 μR sR target Ia wr src its St') (I : SI prog w base μR st sR.heap) : ∀ b ∈ wr, base.get? b = none := fun b hb => by
  cases e : base.get? b with
  | none => rfl
  | some o => have := It.fresh b hb; rw [I.keep b o e] at this; exact none_ne this.symm
theorem Itr.fresh_not (It : Itr prog w A fz1 μR sR target Ia wr src its St') {b : Addr} (h : ∃ o, sR.heap.get? b = some o) : b ∉ wr := fun q => by
  obtain ⟨o, ho⟩ := h; rw [It.fresh b q] at ho; exact none_ne ho
theorem Itr.src1 (It : Itr prog w A fz1 μR sR target Ia wr src its St') : ∀ b ∈ src, ∃ o, sR.heap.get? b = some o ∧ ((isSeq o ∧ ¬ μR.Has b) ∨ ∃ r ∈ fz1, μR.l[r]? = some b) := fun b hb => by
  obtain ⟨⟨o, ho⟩, hc⟩ := It.srcOk b hb
  refine ⟨o, ho, hc.imp (fun ⟨o', ho', hs, hn⟩ => ?_) id⟩
  obtain rfl := Option.some.inj (ho.symm.trans ho')
  exact ⟨hs, hn⟩
theorem Itr.srcOwn (It : Itr prog w A fz1 μR sR target Ia wr src its St') {q : Addr → Prop} (h1 : ∀ b o, q b → sR.heap.get? b = some o → isSeq o → μR.Has b) (h2 : ∀ b, q b → b ∉ μR.l) : ∀ b ∈ src, ¬ q b := fun b hb hq => by
  obtain ⟨o, ho, ⟨hs, hn⟩ | ⟨r, _, hrb⟩⟩ := It.src1 b hb
  · exact hn (h1 b o hq ho hs)
  · exact h2 b hq (List.mem_of_getElem? hrb)
theorem Stp.start {h1 : Heap} {tk : Nat} (I : SI prog w base μR st sR.heap) (hk : ∀ b o, sR.heap.get? b = some o → h1.get? b = some o) : Stp W fz1 μR sR μR { sR with heap := h1, toks := tk } :=
  ⟨List.prefix_refl _, fun _ h => .inl h, fun b o e _ _ => hk b o e, fun b o e => ⟨o, hk b o e⟩, fun r _ x e => by
    obtain ⟨o, ho⟩ := I.alive x (Mu.mem e); show h1.get? x = _; rw [ho, hk x o ho], rfl, fun x hx _ => by
    obtain ⟨o, ho⟩ := I.zlive x hx; show h1.get? x = _; rw [ho, hk x o ho], rfl, rfl⟩
end
theorem loopF_at {σ : Type} {f : D → σ → St → Option (σ × St)} {its : List D} {i : Nat} {acc : σ} {st : St} {r : σ × St} (hlt : i < its.length) (h : loopF f (its.drop i) acc st = some r) : ∃ p, f its[i] acc st = some p ∧ loopF f (its.drop (i + 1)) p.1 p.2 = some r := by
  rw [List.drop_eq_getElem_cons hlt] at h
  exact bindE h
theorem loopF_end {σ : Type} {f : D → σ → St → Option (σ × St)} {its : List D} {acc a : σ} {st s : St} (h : loopF f (its.drop its.length) acc st = some (a, s)) : acc = a ∧ st = s := by
  rw [List.drop_length] at h
  exact someP h
inductive CLoop {α : Type} (prog : Program) (w : World) (base : Heap) (env : Env) (names : Nms) (own : List Addr) (V : Addr → Prop) (wr : List Addr) (fz1 : List Nat) (μR : Mu) (sR : Shared) (St' : Nat → Heap → Prop) (a : Addr) (toC : α → Cont) (ρ0 : Rho) (f : D → α → St → Option (α × St)) (its : List D) (fin : α × St) (n : Nat) (s : Shared) : Prop
  | mk (i : Nat) (μ : Mu) (acc : α) (st : St) (ρi : Rho) (hi : i ≤ its.length) (hn : n = its.length - i) (T : Stp V fz1 μR sR μ s) (I : SI prog w base μ st s.heap) (F : FR base env names own μ ρi s.heap) (hr : Rle ρ0 ρi)
    (hC : CR prog w μ s.heap a (toC acc)) (hst : St' i s.heap) (hwμ : ∀ b ∈ wr, ¬ μ.Has b) (hl : loopF f (its.drop i) acc st = some fin)
theorem comp_loop {fz1 : List Nat} {μr μR : Mu} {sR : Shared} {target : Expr} {tgt : List Nat} {Ia : Addr} {wr src : List Addr} {its : List D} {St' : Nat → Heap → Prop} {ow : Addr → Prop} {bw : (Shared → Prop) → (Value → Shared → Prop) → Shared → Prop} {R : Result → Shared → Prop} {c : Code}
    {α : Type} {toC : α → Cont} {a : Addr} {ρ0 : Rho} {inner : D → Rho → α → St → Option (α × St)} {acc0 accN : α} {st0 stN : St}
    (rule : LoopRule prog w A (.ref Ia) target env bw R c) (hmono : ∀ {P P' : Shared → Prop} {E' : Value → Shared → Prop} {s : Shared}, bw P E' s → (∀ s, P s → P' s) → bw P' E' s)
    (hh : A.handled = none) (ht : tgtOk names target tgt = true) (It : Itr prog w A fz1 μr sR target Ia wr src its St') (hvr : ∀ d v, VR μr sR.heap d v → VR μR sR.heap d v)
    (hsrc : ∀ b ∈ src, ∃ o, sR.heap.get? b = some o ∧ ((isSeq o ∧ ¬ μR.Has b) ∨ ∃ r ∈ fz1, μR.l[r]? = some b)) (hsrcW : ∀ b ∈ src, ¬ ow b ∧ b ∉ wr) (hwrB : ∀ b ∈ wr, base.get? b = none)
    (how : ∀ b ∈ own, ow b) (howS : ∀ b o, ow b ∨ b ∈ wr → sR.heap.get? b = some o → ¬ isSeq o ∨ μR.Has b) (hwow : ∀ b ∈ wr, ¬ ow b) (hown : ∀ b, ow b → b ∈ own ∨ b = a) (haz : a ∈ μR.z) (hown2 : a ∉ own)
    (hrle : ∀ x ρ', bindT tgt x ρ0 = some ρ' → Rle ρ0 ρ')
    (hbody : ∀ {E' : Value → Shared → Prop} {ρ' : Rho} {x : D} {acc : α} {st : St} {acc' : α} {st' : St} {s : Shared} {μ : Mu}, bindT tgt x ρ0 = some ρ' → inner x ρ' acc st = some (acc', st') → FR base env names own μ ρ' s.heap → SI prog w base μ st s.heap → CR prog w μ s.heap a (toC acc) → a ∈ μ.z →
      bw (fun s' => ∃ μ' ρ'', Stp ow fz1 μ s μ' s' ∧ SI prog w base μ' st' s'.heap ∧ FR base env names own μ' ρ'' s'.heap ∧ Rle ρ0 ρ'' ∧ CR prog w μ' s'.heap a (toC acc')) E' s)
    (hl : loopF (fun x acc st => (bindT tgt x ρ0).bind fun ρ' => inner x ρ' acc st) its acc0 st0 = some (accN, stN))
    (hR : ∀ (s' : Shared) (μ' : Mu) (ρ'' : Rho) (h' : Heap) (tk : Nat), Stp (fun b => ow b ∨ b ∈ wr) fz1 μR sR μ' s' → SI prog w base μ' stN s'.heap → FR base env names own μ' ρ'' s'.heap → Rle ρ0 ρ'' → CR prog w μ' s'.heap a (toC accN) →
      (∀ b o, b ∉ wr → s'.heap.get? b = some o → h'.get? b = some o) → (∀ b ∈ wr, ¬ μ'.Has b) → (∀ b ∈ wr, ∃ o, s'.heap.get? b = some o ∧ isF o) → R (.ok .next) { s' with heap := h', toks := tk })
    {ρ1 : Rho} (T : Stp (fun b => ow b ∨ b ∈ wr) fz1 μR sR μ s) (I : SI prog w base μ st0 s.heap) (F : FR base env names own μ ρ1 s.heap) (hr1 : Rle ρ0 ρ1) (hC : CR prog w μ s.heap a (toC acc0)) (hst : St' 0 s.heap) (hwμ : ∀ b ∈ wr, ¬ μ.Has b) :
    codeAny (model prog w) A c R s := by
  refine rule (CLoop prog w base env names own (fun b => ow b ∨ b ∈ wr) wr fz1 μR sR St' a toC ρ0 (fun x acc st => (bindT tgt x ρ0).bind fun ρ' => inner x ρ' acc st) its (accN, stN)) _ rfl (fun n s' hx => ?_) _ s ⟨0, μ, acc0, st0, ρ1, Nat.zero_le _, rfl, T, I, F, hr1, hC, hst, hwμ, hl⟩
  clear hl hst hC hr1 F I T hwμ
  obtain ⟨i, μ', acc, st', ρi, hi, rfl, T', I', F', hr', hC', hst', hwμ', hl'⟩ := hx
  by_cases hlt : i < its.length
  · obtain ⟨p, hp, hl2⟩ := loopF_at hlt hl'
    obtain ⟨ρ', hρ', hin⟩ := bindE hp
    have haz' : a ∈ μ'.z := by rw [T'.zeq]; exact haz
    clear hl' hp
    refine wpAny_mono (itr_step (Q := fun _ s₂ => bw (fun s₅ => ∃ m, m < its.length - i ∧ CLoop prog w base env names own (fun b => ow b ∨ b ∈ wr) wr fz1 μR sR St' a toC ρ0 (fun x acc st => (bindT tgt x ρ0).bind fun ρ' => inner x ρ' acc st) its (accN, stN) m s₅) (notedBy (model prog w) A env fun e s' => R (.error e) s') s₂)
      hh ht It hvr hsrc hsrcW hwrB how howS (fun b hb q => hwow b hb (how b q)) T' I' (F'.weaken hr') hst' hwμ' (List.getElem?_eq_getElem hlt) hρ' fun h3 tk3 T3 I3 F3 st3 => ?_) (fun r s₁ hq => ?_) fun _ _ e => e
    · have hC3 : CR prog w μ' h3 a (toC acc) := by
        refine CR.stp T3 (fun b o q e => ?_) (T3.zk a haz' fun q => q.elim (fun q => hown2 q) fun q => hwμ' a q (Mu.memZ haz')) hC'
        rcases q with q | q
        · exact F'.own_seq b o q e
        · obtain ⟨o', ho', hf⟩ := It.wrF _ _ hst' b q
          obtain rfl := Option.some.inj (e.symm.trans ho')
          exact hf.notSeq
      refine hmono (hbody hρ' hin F3 I3 hC3 haz') fun s₅ hq => ?_
      obtain ⟨μ5, ρ5, T5, I5, F5, hr5, hC5⟩ := hq
      exact ⟨its.length - (i + 1), Nat.sub_lt_sub_left hlt (Nat.lt_succ_self i), i + 1, μ5, p.1, p.2, ρ5, hlt, rfl, (T'.trans (T3.weaken (fun b q => q.elim (fun q => .inl (how b q)) .inr) fun r hr => hr)).trans (T5.weaken (fun b q => .inl q) fun r hr => hr), I5, F5, hr5, hC5,
        It.frame5 T' T5 st3 hwμ' hwow hsrc fun b hb => (hsrcW b hb).1, It.apart5 T5 st3 hwμ', hl2⟩
    · obtain ⟨v, rfl, hq⟩ := hq
      exact hq
  · obtain rfl : i = its.length := Nat.le_antisymm hi (Nat.le_of_not_lt hlt)
    obtain ⟨rfl, rfl⟩ := loopF_end hl'
    exact It.done s' _ _ hst' fun h' tk hk => hR s' μ' ρi h' tk T' I' F' hr' hC' hk hwμ' (It.wrF _ _ hst')
end Mine
end
section
open PySem PySem.W PyProof.Rows
set_option linter.unusedVariables false
namespace Mine
variable {prog : Program} {w : World} {A : Around} {E' : Value → Shared → Prop} {s : Shared} {base : Heap} {μ : Mu} {st : St} {fz : List Nat}
variable {env : Env} {names : Nms} {own : List Addr} {ρ : Rho} {mg mb : Str → Option Value} {R : Result → Shared → Prop}

noncomputable def testsOf (ifs : List Expr) (env : Env) : Sem Bool := forIn ifs true fun c r => if r = true then do let ok ← isTrue c env (eval c env); pure (ForInStep.yield ok) else pure (ForInStep.yield r)

noncomputable def bodyOf (prog : Program) (w : World) (A : Around) (ifs : List Expr) (env : Env) (emit : Sem Unit) (P : Shared → Prop) (E' : Value → Shared → Prop) (s : Shared) : Prop :=
  wpAny (model prog w) A (testsOf ifs env) (fun ok s₃ => if ok = true then wpAny (model prog w) A emit (fun _ s₅ => P s₅) E' s₃ else P s₃) E' s
theorem bodyOf_mono {ifs : List Expr} {emit : Sem Unit} {P P' : Shared → Prop} (h : bodyOf prog w A ifs env emit P E' s) (hp : ∀ s, P s → P' s) : bodyOf prog w A ifs env emit P' E' s :=
  wpAny_mono h (fun ok s₃ h₃ => by
    split at h₃
    · rename_i hk; rw [if_pos hk]; exact wpAny_mono h₃ (fun _ s' q => hp s' q) fun _ _ e => e
    · rename_i hk; rw [if_neg hk]; exact hp _ h₃) fun _ _ e => e
noncomputable def emitL (elt : Expr) (acc : Value) (env : Env) : Sem Unit := do let _ ← call (.builtin "list.append") [acc, ← eval elt env]
noncomputable def emitD (kx vx : Expr) (acc : Value) (env : Env) : Sem Unit := do
        let kv ← eval kx env
        let vv ← holding [kv] (eval vx env)
        match acc with
        | .ref d => do
          standAt { kx.pos with endLine := vx.pos.endLine, endCol := vx.pos.endCol }
          holding [kv, vv] (dictSet d kv vv)
        | _ => unsupported "internal:dictcomp"
noncomputable def emit2 (e : Expr) (iter2 : Expr) (acc : Value) (env : Env) : Sem Unit := do
        let x ← eval iter2 env
        standAt iter2.pos
        let x ← foldedSetIterable iter2 env x
        let _ ← runOwn (.compStart e 1 (← holding [x] (pyIter x)) acc env) env

theorem rule_of {e : Expr} {k : Nat} {target iter : Expr} {ifs : List Expr} {it acc : Value} {emit : Sem Unit} (hq : (Code.compLoop e k it acc env).quiet = true) (hun : A.under (Code.compLoop e k it acc env) = A)
    (hden : (model prog w).den (.compLoop e k it acc env) = (compTurn e k it acc env).onRaise (fun x => do noteFrame x env; theTreesLotGoes x))
    (hturn : compTurn e k it acc env = (do
      standAt iter.pos
      match ← pyNext it with
      | none => pure (.done .next)
      | some v =>
        letOwnedTupleGo target it v
        assign target env v
        let mut ok := true
        for c in ifs do
          if ok then ok ← isTrue c env (eval c env)
        if ok then
          emit
        again (.compLoop e k it acc env))) :
    LoopRule prog w A it target env (bodyOf prog w A ifs env emit) R (.compLoop e k it acc env) := by
  intro I E' hE turn n s hI
  subst hE
  refine codeAny_loop hq I (fun n s hI => ?_) n hI
  rw [hun, hden]
  refine wpAny_noted ?_
  rw [hturn]
  refine wpAny_bind (wpAny_standAt (wpAny_bind (wpAny_mono (turn n s hI) (fun r s₁ h₁ => ?_) fun _ _ h' => h')))
  cases r with
  | none => exact wpAny_pure h₁
  | some v =>
    refine wpAny_bind (wpAny_mono h₁ (fun _ s₁' h₁' => ?_) fun _ _ h' => h')
    refine wpAny_bind (wpAny_mono h₁' (fun _ s₂ h₂ => ?_) fun _ _ h' => h')
    refine wpAny_bind (wpAny_mono h₂ (fun ok s₃ h₃ => ?_) fun _ _ h' => h')
    cases ok with
    | false => exact wpAny_pure ⟨rfl, h₃⟩
    | true =>
      exact wpAny_bind (wpAny_mono h₃ (fun _ s₅ h₅ => wpAny_pure ⟨rfl, h₅⟩) fun _ _ h' => h')

theorem rule_L1 {elt target iter : Expr} {ifs : List Expr} {scope : Scope} {pos : Pos} {it acc : Value} :
    LoopRule prog w A it target env (bodyOf prog w A ifs env (emitL elt acc env)) R (.compLoop (.ListComp elt [⟨target, iter, ifs, 0⟩] scope pos) 0 it acc env) :=
  rule_of (iter := iter) rfl rfl rfl rfl
theorem rule_D {kx vx target iter : Expr} {ifs : List Expr} {scope : Scope} {pos : Pos} {it acc : Value} :
    LoopRule prog w A it target env (bodyOf prog w A ifs env (emitD kx vx acc env)) R (.compLoop (.DictComp kx vx [⟨target, iter, ifs, 0⟩] scope pos) 0 it acc env) :=
  rule_of (iter := iter) rfl rfl rfl rfl
theorem rule_2a {elt target iter target2 iter2 : Expr} {scope : Scope} {pos : Pos} {it acc : Value} :
    LoopRule prog w A it target env (bodyOf prog w A [] env (emit2 (.ListComp elt [⟨target, iter, [], 0⟩, ⟨target2, iter2, [], 0⟩] scope pos) iter2 acc env)) R (.compLoop (.ListComp elt [⟨target, iter, [], 0⟩, ⟨target2, iter2, [], 0⟩] scope pos) 0 it acc env) :=
  rule_of (iter := iter) rfl rfl rfl (by unfold compTurn emit2; simp only [bind_assoc]; rfl)
theorem rule_2b {elt target iter target2 iter2 : Expr} {scope : Scope} {pos : Pos} {it acc : Value} :
    LoopRule prog w A it target2 env (bodyOf prog w A [] env (emitL elt acc env)) R (.compLoop (.ListComp elt [⟨target, iter, [], 0⟩, ⟨target2, iter2, [], 0⟩] scope pos) 1 it acc env) :=
  rule_of (iter := iter2) rfl rfl rfl rfl
end Mine
end
section
open PySem PySem.W PyProof.Rows
set_option linter.unusedVariables false
namespace Mine
variable {prog : Program} {w : World} {A : Around} {E' : Value → Shared → Prop} {s : Shared} {base : Heap} {μ : Mu} {st : St} {fz : List Nat}
variable {env : Env} {names : Nms} {own : List Addr} {ρ : Rho} {mg mb : Str → Option Value}

noncomputable def Mu.lock (μ : Mu) (a : Addr) : Mu := ⟨μ.l, a :: μ.z⟩
theorem Mu.lock_mem {a x : Addr} (h : (μ.lock a).Has x) : μ.Has x ∨ x = a := by
  rcases h with h | h
  · exact .inl (.inl h)
  · rcases List.mem_cons.mp h with h | h
    · exact .inr h
    · exact .inl (.inr h)
theorem Mu.lock_in {a x : Addr} (h : μ.Has x) : (μ.lock a).Has x := h.elim .inl fun h => .inr (List.mem_cons_of_mem _ h)
theorem Mu.lock_self {a : Addr} : a ∈ (μ.lock a).z := List.mem_cons_self

theorem VR.lock {h : Heap} {a : Addr} {d : D} {v : Value} (ha : h.get? a = none) (x : VR μ h d v) : VR (μ.lock a) h d v :=
  x.mono (show μ.l <+: (μ.lock a).l from List.prefix_refl _) (fun y hy => (Mu.lock_mem hy).imp id fun (e : y = a) => e ▸ ha) fun _ _ e _ _ => e

theorem SI.lock {o : Obj} {h : Heap} (I : SI prog w base μ st h) (h1 : 1 < h.objs.size) (hself : (h.push o).get? h.objs.size = some o) : SI prog w base (μ.lock h.objs.size) st (h.push o) := by
  have fr : h.get? h.objs.size = none := fresh_none (Nat.le_refl _)
  have hn : ¬ μ.Has h.objs.size := fun q => by obtain ⟨o, ho⟩ := I.alive _ q; rw [fr] at ho; exact none_ne ho
  refine ⟨fun b o e => push_keeps _ _ (I.keep b o e), I.len, I.nodup, fun x hx => ?_, fun x hx => ?_, fun x hx => ?_, fun x hx q => ?_, fun r x c e1 e2 => ?_⟩
  · rcases Mu.lock_mem hx with hx | rfl
    · exact I.above x hx
    · cases e : base.get? h.objs.size with
      | none => rfl
      | some o => rw [I.keep _ _ e] at fr; cases fr
  · rcases Mu.lock_mem hx with hx | rfl
    · exact I.big x hx
    · exact h1
  · rcases List.mem_cons.mp hx with rfl | hx
    · exact ⟨o, hself⟩
    · obtain ⟨o', ho'⟩ := I.zlive x hx; exact ⟨o', push_keeps _ _ ho'⟩
  · rcases List.mem_cons.mp hx with rfl | hx
    · exact hn (Mu.memL q)
    · exact I.apart x hx q
  · obtain ⟨o', ho'⟩ := I.alive x (Mu.mem e1)
    exact (I.cont r x c e1 e2).mono (show μ.l <+: (μ.lock h.objs.size).l from List.prefix_refl _) (fun y hy => (Mu.lock_mem hy).imp id fun (e : y = h.objs.size) => e ▸ fr) (fun b o e _ _ => push_keeps _ _ e) (by rw [ho', push_keeps _ _ ho'])

noncomputable def Mu.unlock (μ : Mu) (z : List Addr) : Mu := ⟨μ.l, z⟩
theorem Mu.unlock_mem {z : List Addr} {x : Addr} (hz : ∀ y ∈ z, y ∈ μ.z) (h : (μ.unlock z).Has x) : μ.Has x := h.elim .inl fun h => .inr (hz x h)
theorem SI.unlock {h : Heap} {z : List Addr} (I : SI prog w base μ st h) (hz : ∀ y ∈ z, y ∈ μ.z) : SI prog w base (μ.unlock z) st h :=
  ⟨I.keep, I.len, I.nodup, fun x hx => I.above x (Mu.unlock_mem hz hx), fun x hx => I.big x (Mu.unlock_mem hz hx), fun x hx => I.zlive x (hz x hx), fun x hx => I.apart x (hz x hx), fun r x c e1 e2 =>
    (I.cont r x c e1 e2).mono (show μ.l <+: (μ.unlock z).l from List.prefix_refl _) (fun y hy => .inl (Mu.unlock_mem hz hy)) (fun b o e _ _ => e) rfl⟩
theorem CR.unlock {h : Heap} {z : List Addr} {a : Addr} {c : Cont} (x : CR prog w μ h a c) (hz : ∀ y ∈ z, y ∈ μ.z) : CR prog w (μ.unlock z) h a c :=
  x.mono (show μ.l <+: (μ.unlock z).l from List.prefix_refl _) (fun y hy => .inl (Mu.unlock_mem hz hy)) (fun b o e _ _ => e) rfl

theorem setAll_len : ∀ (is : List Nat) (xs : List D) (ρ : Rho), (setAll is xs ρ).length = ρ.length
  | [], _, _ => by unfold setAll; rfl
  | _ :: _, [], _ => by unfold setAll; rfl
  | i :: is, x :: xs, ρ => by unfold setAll; rw [setAll_len is xs, List.length_set]
theorem setAll_other {j : Nat} : ∀ (is : List Nat) (xs : List D) (ρ : Rho), j ∉ is → (setAll is xs ρ)[j]? = ρ[j]?
  | [], _, _, _ => by unfold setAll; rfl
  | _ :: _, [], _, _ => by unfold setAll; rfl
  | i :: is, x :: xs, ρ, h => by
    unfold setAll
    rw [List.mem_cons, not_or] at h
    rw [setAll_other is xs _ h.2, List.getElem?_set_ne fun e => h.1 e.symm]
theorem setAll_rle {is : List Nat} {xs : List D} {ρ : Rho} (h : ∀ i ∈ is, (ρ[i]?).join = none) : Rle ρ (setAll is xs ρ) :=
  ⟨(setAll_len ..).symm, fun j d hj => by
    rw [setAll_other is xs ρ fun q => by rw [h j q] at hj; cases hj]; exact hj⟩

theorem tgts_kinds {ts : List Expr} : ∀ {is : List Nat}, tgts names ts is = true → ∀ i ∈ is, ∃ x k, names[i]? = some (x, k) ∧ (k = .local ∨ k = .cell) := by
  induction ts with
  | nil => intro is h j hj; rw [nil_s h] at hj; exact absurd hj List.not_mem_nil
  | cons t r ih =>
    intro is h j hj
    obtain ⟨i, is, rfl, h⟩ := onC_s (f := fun i is => okNm (fun x => tgt1 names x i) t && tgts names r is) h
    rcases List.mem_cons.mp hj with rfl | hj
    · obtain ⟨x, p, rfl, hx⟩ := okNm_spec (andT h).1
      exact ⟨x, tgt1_spec hx⟩
    · exact ih (andT h).2 j hj

theorem imp_none {imps : List (Option Nat)} {sc : Scope} {i : Nat} {x : Str} {k : NameKind} (hsc : scOk imps names sc = true) (hi : sc.names[i]? = some (x, k)) (hk : k = .local ∨ k = .cell) : ((impRho imps ρ)[i]?).join = none := by
  rcases (impOk_spec (scOk_spec hsc).2.1).2 i x k hi with ⟨rfl, _⟩ | ⟨_, _, e⟩
  · rcases hk with e | e <;> cases e
  · rw [impRho, List.getElem?_map, e]; rfl

theorem bind_rle {imps : List (Option Nat)} {sc : Scope} {target : Expr} {tgt : List Nat} {x : D} {ρ' : Rho} (hsc : scOk imps names sc = true) (ht : tgtOk sc.names target tgt = true) (hb : bindT tgt x (impRho imps ρ) = some ρ') : Rle (impRho imps ρ) ρ' := by
  rcases tgtOk_s ht with ⟨y, p, i, rfl, rfl, ht1⟩ | ⟨ts, kk, p, rfl, h1, h2, h3⟩
  · obtain ⟨k, hk, hkk⟩ := tgt1_spec ht1
    obtain rfl := Option.some.inj hb
    have := imp_none (ρ := ρ) hsc hk hkk
    exact ⟨(List.length_set ..).symm, fun j d hj => by
      rw [List.getElem?_set_ne fun e => by subst e; rw [this] at hj; exact none_ne hj]; exact hj⟩
  · obtain ⟨xs, rfl, hl, rfl⟩ := bindT_tup h2 hb
    refine setAll_rle fun i hi => ?_
    obtain ⟨y, k, e1, e2⟩ := tgts_kinds h1 i hi
    exact imp_none hsc e1 e2

/-- the part of a comprehension that is alike for all its kinds: after the source's iterator is made -/
theorem comp_core {fz1 : List Nat} {μ0 : Mu} {sR : Shared} {h1 : Heap} {tk1 : Nat} {imps : List (Option Nat)} {sc : Scope} {target : Expr} {tgt : List Nat} {Ia : Addr} {wr src : List Addr} {its : List D} {St' : Nat → Heap → Prop} {o : Obj}
    {α : Type} {toC : α → Cont} {inner : D → Rho → α → St → Option (α × St)} {acc0 accN : α} {st0 stN : St} {bw : Env → Value → (Shared → Prop) → (Value → Shared → Prop) → Shared → Prop} {R : Env → Addr → Result → Shared → Prop} {c : Env → Value → Code}
    (rule : ∀ cenv acc, LoopRule prog w A (.ref Ia) target cenv (bw cenv acc) (R cenv h1.objs.size) (c cenv acc))
    (hmono : ∀ {cenv : Env} {acc : Value} {P P' : Shared → Prop} {E' : Value → Shared → Prop} {s : Shared}, bw cenv acc P E' s → (∀ s, P s → P' s) → bw cenv acc P' E' s)
    (hh : A.handled = none) (ht : tgtOk sc.names target tgt = true) (hsc : scOk imps names sc = true) (two : ∃ o, base.get? 2 = some o)
    (I0 : SI prog w base μ0 st0 sR.heap) (F0 : FR base env names own μ0 ρ sR.heap) (It : Itr prog w A fz1 μ0 sR target Ia wr src its St') (hst : St' 0 h1) (hk1 : ∀ b o, sR.heap.get? b = some o → h1.get? b = some o)
    (hself : (h1.push o).get? h1.objs.size = some o) (hC0 : CR prog w (μ0.lock h1.objs.size) (h1.push o) h1.objs.size (toC acc0))
    (hbody : ∀ {E' : Value → Shared → Prop} {ρ' : Rho} {x : D} {acc : α} {st : St} {acc' : α} {st' : St} {s : Shared} {μ : Mu} {cenv : Env} {own' : List Addr}, bindT tgt x (impRho imps ρ) = some ρ' → Rle (impRho imps ρ) ρ' → inner x ρ' acc st = some (acc', st') → FR base cenv sc.names own' μ ρ' s.heap → SI prog w base μ st s.heap →
      CR prog w μ s.heap h1.objs.size (toC acc) → h1.objs.size ∈ μ.z → h1.objs.size ∉ own' →
      bw cenv (.ref h1.objs.size) (fun s' => ∃ μ' ρ'', Stp (fun b => b ∈ own' ∨ b = h1.objs.size) fz1 μ s μ' s' ∧ SI prog w base μ' st' s'.heap ∧ FR base cenv sc.names own' μ' ρ'' s'.heap ∧ Rle (impRho imps ρ) ρ'' ∧ CR prog w μ' s'.heap h1.objs.size (toC acc')) E' s)
    (hl : loopF (fun x acc st => (bindT tgt x (impRho imps ρ)).bind fun ρ' => inner x ρ' acc st) its acc0 st0 = some (accN, stN))
    (hR : ∀ cenv (μ5 : Mu) (s5 : Shared) (m : Str → Option Value), Stp NoW fz1 μ0 sR μ5 s5 → SI prog w base μ5 stN s5.heap → CR prog w μ5 s5.heap h1.objs.size (toC accN) → ¬ μ5.Has h1.objs.size → sR.heap.get? h1.objs.size = none → 1 < h1.objs.size → base.get? h1.objs.size = none →
      s5.heap.Ns cenv.locals m → ¬ μ5.Has cenv.locals → sR.heap.get? cenv.locals = none → cenv.locals ≠ h1.objs.size → base.get? cenv.locals = none → R cenv h1.objs.size (.ok .next) s5) :
    let h3 := h1.push o
    codeAny (model prog w) A (c (compEnv' sc env h3.objs.size) (.ref h1.objs.size)) (R (compEnv' sc env h3.objs.size) h1.objs.size)
      { sR with heap := pushCells (h3.push { cls := .type "dict", data := .dict #[] }) sc.names, toks := tk1 } := by
  intro h3
  have hsz3 : h3.objs.size = h1.objs.size + 1 := Heap.size_push ..
  have fr1 : h1.get? h1.objs.size = none := fresh_none (Nat.le_refl _)
  have aR : sR.heap.get? h1.objs.size = none := by
    cases e : sR.heap.get? h1.objs.size with
    | none => rfl
    | some o => rw [hk1 _ _ e] at fr1; cases fr1
  have aμ : ¬ μ0.Has h1.objs.size := fun q => by obtain ⟨o, ho⟩ := I0.alive _ q; rw [aR] at ho; exact none_ne ho
  have big : 1 < h1.objs.size := by
    obtain ⟨o2, ho2⟩ := two
    exact Nat.lt_of_lt_of_le (by decide) (Nat.le_of_lt (Heap.lt_size (hk1 _ _ (I0.keep 2 o2 ho2))))
  have aB : base.get? h1.objs.size = none := by
    cases e : base.get? h1.objs.size with
    | none => rfl
    | some o => rw [I0.keep _ _ e] at aR; cases aR
  have I1 : SI prog w base μ0 st0 h1 := I0.keeps hk1
  have I3 : SI prog w base (μ0.lock h1.objs.size) st0 h3 := SI.lock (h := h1) I1 big hself
  have F3 : FR base env names own (μ0.lock h1.objs.size) ρ h3 := F0.mono (show μ0.l <+: (μ0.lock h1.objs.size).l from List.prefix_refl _) (fun y hy => (Mu.lock_mem hy).imp id fun (e : y = h1.objs.size) => e ▸ aR) fun b o e _ _ => push_keeps _ _ (hk1 b o e)
  obtain ⟨own', F4, hge⟩ := compFrame (s := { sR with heap := h3 }) hsc F3 I3
  have hge : ∀ b ∈ own', h3.objs.size ≤ b := hge
  have k34 : ∀ b o, h3.get? b = some o → (pushCells (h3.push { cls := .type "dict", data := .dict #[] }) sc.names).get? b = some o := fun b o e => pushCells_keeps _ _ b o (push_keeps b o e)
  have k14 : ∀ b o, h1.get? b = some o → (pushCells (h3.push { cls := .type "dict", data := .dict #[] }) sc.names).get? b = some o := fun b o e => k34 b o (push_keeps b o e)
  have kR4 : ∀ b o, sR.heap.get? b = some o → (pushCells (h3.push { cls := .type "dict", data := .dict #[] }) sc.names).get? b = some o := fun b o e => k14 b o (hk1 b o e)
  have I4 : SI prog w base (μ0.lock h1.objs.size) st0 (pushCells (h3.push { cls := .type "dict", data := .dict #[] }) sc.names) := I3.keeps k34
  have oR : ∀ b ∈ own', sR.heap.get? b = none := fun b hb => by
    cases e : sR.heap.get? b with
    | none => rfl
    | some o => exact absurd (Nat.lt_of_lt_of_le (Nat.lt_trans (Heap.lt_size (hk1 b o e)) (by rw [hsz3]; exact Nat.lt_succ_self _)) (hge b hb)) (Nat.lt_irrefl _)
  have aown : h1.objs.size ∉ own' := fun q => absurd (hge _ q) (by rw [hsz3]; exact Nat.not_succ_le_self _)
  have wrlt : ∀ b ∈ wr, b < h1.objs.size := fun b hb => by obtain ⟨o, ho, _⟩ := It.wrF 0 h1 hst b hb; exact Heap.lt_size ho
  have wrow : ∀ b ∈ wr, ¬ (b ∈ own' ∨ b = h1.objs.size) := fun b hb q => by
    rcases q with q | q
    · exact absurd (Nat.lt_of_lt_of_le (Nat.lt_trans (wrlt b hb) (by rw [hsz3]; exact Nat.lt_succ_self _)) (hge b q)) (Nat.lt_irrefl _)
    · have := wrlt b hb; rw [q] at this; exact Nat.lt_irrefl _ this
  have WR : ∀ b, ((b ∈ own' ∨ b = h1.objs.size) ∨ b ∈ wr) → sR.heap.get? b = none := fun b q => by
    rcases q with (q | q) | q
    · exact oR b q
    · rw [q]; exact aR
    · exact It.fresh b q
  have T4 : Stp (fun b => (b ∈ own' ∨ b = h1.objs.size) ∨ b ∈ wr) fz1 (μ0.lock h1.objs.size) sR (μ0.lock h1.objs.size) { sR with heap := pushCells (h3.push { cls := .type "dict", data := .dict #[] }) sc.names, toks := tk1 } :=
    ⟨List.prefix_refl _, fun x hx => .inl hx, fun b o e _ _ => kR4 b o e, fun b o e => ⟨o, kR4 b o e⟩, fun r _ x e => by
      obtain ⟨o, ho⟩ := I0.alive x (Mu.mem e)
      show (pushCells _ _).get? x = _
      rw [ho, kR4 x o ho], rfl, fun x hx hw => by
      rcases List.mem_cons.mp hx with rfl | hx
      · exact absurd (.inl (.inr rfl)) hw
      · obtain ⟨o, ho⟩ := I0.zlive x hx
        show (pushCells _ _).get? x = _
        rw [ho, kR4 x o ho], rfl, rfl⟩
  have srcal : ∀ b ∈ src, ∃ o, sR.heap.get? b = some o := fun b hb => (It.srcOk b hb).1
  have wrB : ∀ b ∈ wr, base.get? b = none := fun b hb => by
    cases e : base.get? b with
    | none => rfl
    | some o => have := It.fresh b hb; rw [I0.keep b o e] at this; cases this
  refine comp_loop (s := { sR with heap := pushCells (h3.push { cls := .type "dict", data := .dict #[] }) sc.names, toks := tk1 }) (own := own') (ow := fun b => b ∈ own' ∨ b = h1.objs.size) (μR := μ0.lock h1.objs.size) (rule _ _) hmono hh ht It (fun d v x => x.lock aR) (fun b hb => ?_) (fun b hb => ?_) wrB (fun b hb => .inl hb) (fun b o q e => ?_) wrow (fun b q => q)
    Mu.lock_self aown (fun x ρ' hb => bind_rle hsc ht hb) (fun {E' ρ' x acc st acc' st' s μ} hb hin F I hC hz => hbody hb (bind_rle hsc ht hb) hin F I hC hz aown) hl ?_ T4 I4 F4 Rle.refl ?_ ?_ ?_
  · obtain ⟨⟨o, ho⟩, hc⟩ := It.srcOk b hb
    refine ⟨o, ho, ?_⟩
    rcases hc with ⟨o', ho', hs, hn⟩ | hc
    · rw [ho] at ho'; obtain rfl := Option.some.inj ho'
      exact .inl ⟨hs, fun q => (Mu.lock_mem q).elim hn fun (e : b = h1.objs.size) => by rw [e, aR] at ho; cases ho⟩
    · exact .inr hc
  · obtain ⟨o, ho⟩ := srcal b hb
    exact ⟨fun q => (by rw [WR b (.inl q)] at ho; cases ho), fun q => (by rw [WR b (.inr q)] at ho; cases ho)⟩
  · rw [WR b q] at e; exact none_ne e
  · intro s' μ' ρ'' h' tk T' I' F' hr hC hk hwμ hwF
    have hz : μ'.z = h1.objs.size :: μ0.z := T'.zeq
    have sub : ∀ y ∈ μ0.z, y ∈ μ'.z := fun y hy => by rw [hz]; exact List.mem_cons_of_mem _ hy
    have aμ' : h1.objs.size ∈ μ'.z := by rw [hz]; exact List.mem_cons_self
    have Ib := I'.butF hk hwF wrB hwμ
    have Fb := F'.butF hk hwF
    obtain ⟨m, hm, _⟩ := Fb.ns
    have a5 : ¬ (μ'.unlock μ0.z).Has h1.objs.size := fun q => q.elim (fun q => I'.apart _ aμ' q) fun q => aμ (Mu.memZ q)
    refine hR _ (μ'.unlock μ0.z) _ m ?_ (Ib.unlock sub) ?_ a5 aR big aB hm (fun q => F'.ownμ _ F'.loc (Mu.unlock_mem sub q)) (oR _ F4.loc) (fun q => aown (q ▸ F4.loc)) (F'.ownB _ F'.loc)
    · refine ⟨T'.pre, fun x hx => ?_, fun b o e hb hw => ?_, fun b o e => ?_, fun r hr x e => ?_, rfl, fun x hx hw => ?_, T'.gens, T'.os⟩
      · rcases T'.fresh x (Mu.unlock_mem sub hx) with q | q
        · rcases Mu.lock_mem q with q | rfl
          · exact .inl q
          · exact .inr aR
        · exact .inr q
      · refine hk b o (fun q => by rw [It.fresh b q] at e; cases e) (T'.keep b o e (fun q => (Mu.lock_mem q).elim hb fun (z : b = h1.objs.size) => by rw [z, aR] at e; cases e) fun q => by rw [WR b q] at e; exact none_ne e)
      · obtain ⟨o', ho'⟩ := T'.live b o e
        exact ⟨o', hk b o' (fun q => by rw [It.fresh b q] at e; cases e) ho'⟩
      · obtain ⟨o, ho⟩ := I0.alive x (Mu.mem e)
        have := T'.frz r hr x e
        rw [ho] at this
        show h'.get? x = _
        rw [ho]; exact hk x o (fun q => by rw [It.fresh x q] at ho; cases ho) this
      · obtain ⟨o, ho⟩ := I0.zlive x hx
        have := T'.zk x (List.mem_cons_of_mem _ hx) fun q => by rw [WR x q] at ho; exact none_ne ho
        rw [ho] at this
        show h'.get? x = _
        rw [ho]; exact hk x o (fun q => by rw [It.fresh x q] at ho; cases ho) this
    · refine CR.unlock (CR.mono (List.prefix_refl _) (fun _ h => .inl h) (fun b o e hs _ => hk b o (fun q => ?_) e) ?_ hC) sub
      · obtain ⟨o', ho', hf⟩ := hwF b q; rw [e] at ho'; obtain rfl := Option.some.inj ho'; exact hf.notSeq hs
      · obtain ⟨o, ho⟩ := hC.alive
        show h'.get? _ = _
        rw [ho]; exact hk _ o (fun q => wrow _ q (.inr rfl)) ho
  · exact CR.mono (List.prefix_refl _) (fun _ h => .inl h) (fun b o e _ _ => k34 b o e) (by rw [hself, k34 _ _ hself]) hC0
  · refine It.frame 0 h1 _ hst fun b o _ e => k14 b o e
  · intro b hb q
    rcases Mu.lock_mem q with q | q
    · obtain ⟨o, ho⟩ := I0.alive b q; rw [It.fresh b hb] at ho; exact none_ne ho
    · exact wrow b hb (.inr q)
end Mine
end
section
open PySem PySem.W PyProof.Rows
set_option linter.unusedVariables false
namespace Mine
variable {prog : Program} {w : World} {A : Around} {E' : Value → Shared → Prop} {s : Shared} {base : Heap} {μ : Mu} {st : St} {fz : List Nat}
variable {env : Env} {names : Nms} {own : List Addr} {ρ : Rho} {mg mb : Str → Option Value} {cf : List Nat → Nat → List D → St → Option (D × St)} {n : Nat}

theorem acc_step {a : Addr} {h' : Heap} {k : Nat} (I : SI prog w base μ st s.heap) (F : FR base env names own μ ρ s.heap) (haz : a ∈ μ.z) (ha : a ∉ own) (hs : Heap.SameBut a s.heap h') (hlive : ∃ o, h'.get? a = some o) :
    Stp (fun b => b ∈ own ∨ b = a) fz μ s μ { s with heap := h', toks := k } ∧ SI prog w base μ st h' ∧ FR base env names own μ ρ h' := by
  have ham : μ.Has a := Mu.memZ haz
  have hal : ∀ x ∈ μ.l, x ≠ a := fun x hx e => I.apart a haz (e ▸ hx)
  have hkb : ∀ b o, s.heap.get? b = some o → ¬ μ.Has b → h'.get? b = some o := fun b o e hb => (hs.2 b fun q => hb (q ▸ ham)).trans e
  refine ⟨⟨List.prefix_refl _, fun _ h => .inl h, fun b o e hb _ => hkb b o e hb, fun b o e => ?_, fun r _ x e => hs.2 x (hal x (List.mem_of_getElem? e)), rfl, fun x hx hw => hs.2 x fun e => hw (.inr e), rfl, rfl⟩, ⟨fun b o e => ?_, I.len, I.nodup, I.above, I.big, fun x hx => ?_, I.apart, fun r x c e1 e2 => ?_⟩, F.mono (List.prefix_refl _) (fun _ h => .inl h) fun b o e hb _ => hkb b o e hb⟩
  · by_cases q : b = a
    · subst q; exact hlive
    · exact ⟨o, (hs.2 b q).trans e⟩
  · exact (hs.2 b fun q => by rw [q, I.above a ham] at e; cases e).trans (I.keep b o e)
  · by_cases q : x = a
    · subst q; exact hlive
    · obtain ⟨o, ho⟩ := I.zlive x hx; exact ⟨o, (hs.2 x q).trans ho⟩
  · exact (I.cont r x c e1 e2).mono (List.prefix_refl _) (fun _ h => .inl h) (fun b o e _ hb => hkb b o e hb) (hs.2 x (hal x (List.mem_of_getElem? e1)))

theorem CR.stpN {μ' : Mu} {s' : Shared} {a : Addr} {c : Cont} (T : Stp NoW fz μ s μ' s') (haz : a ∈ μ.z) (x : CR prog w μ s.heap a c) : CR prog w μ' s'.heap a c :=
  CR.stp T (fun _ _ h => h.elim) (T.zk a haz fun h => h) x

noncomputable abbrev EmitP (prog : Program) (w : World) (base : Heap) (env : Env) (names : Nms) (own : List Addr) (fz : List Nat) (μ : Mu) (s : Shared) (st' : St) (ρ0 : Rho) (a : Addr) (c : Cont) (s' : Shared) : Prop :=
  ∃ μ' ρ'', Stp (fun b => b ∈ own ∨ b = a) fz μ s μ' s' ∧ SI prog w base μ' st' s'.heap ∧ FR base env names own μ' ρ'' s'.heap ∧ Rle ρ0 ρ'' ∧ CR prog w μ' s'.heap a c

theorem emit_list {a : Addr} {elt : E} {x : Expr} {xs : List D} {y : D} {st' : St} {ρ0 : Rho} (hx : SemE prog w base cf n names elt x) (hA : AOk n A) (I : SI prog w base μ st s.heap) (F : FR base env names own μ ρ s.heap) (hr : Rle ρ0 ρ) (haz : a ∈ μ.z) (ha : a ∉ own)
    (hC : CR prog w μ s.heap a (.lst xs)) (hev : evE cf elt fz ρ st = some (y, st')) (hl : xs.length < lim) :
    wpAny (model prog w) A (emitL x (.ref a) env) (fun _ s' => EmitP prog w base env names own fz μ s st' ρ0 a (.lst (xs ++ [y])) s') E' s := by
  refine wpAny_bind (wpAny_mono (hx hev hA F I) (fun v s₁ h₁ => ?_) fun _ _ e => e)
  obtain ⟨μ1, T1, I1, V1⟩ := h₁
  have hC1 := CR.stpN T1 haz hC
  have haz1 : a ∈ μ1.z := by rw [T1.zeq]; exact haz
  obtain ⟨vs, k, ho, v1⟩ := hC1
  refine wpAny_bind (wpAny_list_append_plain (items := List.toArray vs) ⟨k, ho⟩ (fun h' hp hs => ?_) (by rw [List.size_toArray, v1.length]; exact lim_le hl))
  obtain ⟨k', hp⟩ := hp
  obtain ⟨T2, I2, F2⟩ := acc_step (fz := fz) (k := s₁.toks) I1 (F.stp0 T1) haz1 ha hs ⟨_, hp⟩
  have T1w : Stp (fun b => b ∈ own ∨ b = a) fz μ s μ1 s₁ := T1.up
  have ham : μ1.Has a := Mu.memZ haz1
  exact wpAny_pure ⟨μ1, ρ, T1w.trans T2, I2, F2, hr, vs ++ [v], k', by rw [hp]; simp, (v1.same' ham hs).append (VRs.cons (V1.same' ham hs) VRs.nil)⟩

theorem emit_dict {a : Addr} {key val : E} {kx vx : Expr} {es : List (List Int × D)} {kk y : D} {ki : List Int} {st1 st' : St} {ρ0 : Rho} (hx : SemE prog w base cf n names key kx) (hy : SemE prog w base cf n names val vx) (hA : AOk n A) (I : SI prog w base μ st s.heap)
    (F : FR base env names own μ ρ s.heap) (hr : Rle ρ0 ρ) (haz : a ∈ μ.z) (ha : a ∉ own)
    (hC : CR prog w μ s.heap a (.dic es)) (hev : evE cf key fz ρ st = some (kk, st1)) (hev2 : evE cf val fz ρ st1 = some (y, st')) (hk : keyOf kk = some ki) (hl : es.length < lim) :
    wpAny (model prog w) A (emitD kx vx (.ref a) env) (fun _ s' => EmitP prog w base env names own fz μ s st' ρ0 a (.dic (dput es ki y)) s') E' s := by
  refine wpAny_bind (wpAny_mono (hx hev hA F I) (fun v s₁ h₁ => ?_) fun _ _ e => e)
  obtain ⟨μ1, T1, I1, V1⟩ := h₁
  refine wpAny_bind (wpAny_holding (wpAny_mono (hy hev2 hA (F.stp0 T1) I1) (fun u s₂ h₂ => ?_) fun _ _ e => e))
  obtain ⟨μ2, T2, I2, V2⟩ := h₂
  have T12 := T1.trans T2
  have hC2 := CR.stpN T12 haz hC
  have haz2 : a ∈ μ2.z := by rw [T12.zeq]; exact haz
  have V1' : VR μ2 s₂.heap kk v := V1.stp0 T2
  obtain ⟨kvs, hD, hμ, hR⟩ := hC2
  obtain ⟨ka, rfl, hkn, hkey⟩ := V1'.key (prog := prog) (w := w) hk
  have ham : μ2.Has a := Mu.memZ haz2
  refine wpAny_bind (wpAny_standAt (wpAny_holding ?_))
  refine wpAny_dictSet_heap (knd := tk prog w) (show (tk prog w).room A from hA.in0) hkey hD (fun h' hD' hs => ?_) (by rw [hR.length]; exact lim_le hl)
  obtain ⟨T3, I3, F3⟩ := acc_step (fz := fz) (k := s₂.toks + (tk prog w).draws ki) I2 (F.stp0 T12) haz2 ha hs (by obtain ⟨o, _, _, e, _⟩ := hD'; exact ⟨o, e⟩)
  have T1w : Stp (fun b => b ∈ own ∨ b = a) fz μ s μ2 s₂ := T12.up
  refine ⟨μ2, ρ, T1w.trans T3, I3, F3, hr, _, hD', fun x hx => ?_, (hR.same' ham hs).put (V2.same' ham hs)⟩
  rcases mem_storedH hx with ⟨z, hz, _, e⟩ | ⟨_, e⟩
  · rw [e]; exact hμ z hz
  · rw [e]; exact hkn

/-- the conditions, then the emission -/
theorem body_sem {cond : E} {ifs : List Expr} {emit : Sem Unit} {P : Shared → Prop} {z : D} {st' : St} (hc : SemC prog w base cf n names cond ifs) (hA : AOk n A) (I : SI prog w base μ st s.heap) (F : FR base env names own μ ρ s.heap)
    (hev : evE cf cond fz ρ st = some (z, st')) (hz : ∃ b, z = .bool b) (ht : ∀ μ1 s1, z = .bool true → Stp NoW fz μ s μ1 s1 → SI prog w base μ1 st' s1.heap → wpAny (model prog w) A emit (fun _ s' => P s') E' s1) (hf : ∀ μ1 s1, z = .bool false → Stp NoW fz μ s μ1 s1 → SI prog w base μ1 st' s1.heap → P s1) :
    bodyOf prog w A ifs env emit P E' s := by
  refine wpAny_mono (hc hev hz hA F I) (fun ok s₁ h₁ => ?_) fun _ _ e => e
  obtain ⟨rfl, μ1, T1, I1, _⟩ := h₁
  cases ok with
  | true => rw [if_pos rfl]; exact ht μ1 s₁ rfl T1 I1
  | false => rw [if_neg (by decide)]; exact hf μ1 s₁ rfl T1 I1

theorem folded_notSet {it : Expr} {env : Env} (h : notSet it = true) : ∀ x, foldedSetIterable it env x = pure x := fun x => by
  cases it <;> first | rfl | (cases h; done)

theorem comp_pre {e : Expr} {sc : Scope} {pos : Pos} {newAcc : Sem Value} {o : Obj} {t it : Expr} {ifs : List Expr} {gs : List Comprehension} {use : Option (Value → Sem Unit)} {Q : Value → Shared → Prop} {imps : List (Option Nat)} {k : SK} {src : E} {d : D} {st1 : St} {its : List D}
    (hcl : clausesOf e = ⟨t, it, ifs, 0⟩ :: gs) (hset : notSet it = true) (hsc : scOk imps names sc = true) (hA : AOk n A) (F : FR base env names own μ ρ s.heap) (I : SI prog w base μ st s.heap) (hS : SemS prog w base cf n names k src it) (hev : evE cf src fz ρ st = some (d, st1)) (hi : items k d st1 = some its) (hsk : skTgt k t = true)
    (hnew : ∀ {E' : Value → Shared → Prop} {s : Shared} {Q : Value → Shared → Prop}, Q (.ref s.heap.objs.size) { s with heap := s.heap.push o } → wpAny (model prog w) A newAcc Q E' s)
    (hgo : ∀ (μ0 : Mu) (sR : Shared) (Ia : Addr) (wr src : List Addr) (St' : Nat → Heap → Prop) (h1 : Heap) (tk : Nat), Stp NoW fz μ s μ0 sR → SI prog w base μ0 st1 sR.heap → Itr prog w A (fzOf d fz) μ0 sR t Ia wr src its St' → St' 0 h1 → (∀ b o, sR.heap.get? b = some o → h1.get? b = some o) →
      codeAny (model prog w) A (.compStart e 0 (.ref Ia) (.ref h1.objs.size) (compEnv' sc env (h1.push o).objs.size)) (compPost (model prog w) A E' use Q (.ref h1.objs.size) (h1.push o).objs.size)
        { sR with heap := pushCells ((h1.push o).push { cls := .type "dict", data := .dict #[] }) sc.names, toks := tk }) :
    wpAny (model prog w) A (comprehension e sc env pos newAcc false (eval it env) use) Q E' s := by
  obtain ⟨h1, h2, h3, h4⟩ := scOk_spec hsc
  refine wpAny_comprehension_free hcl (folded_notSet hset) (closureFor_eq (outer_free hsc F)) h1 (fun x hx e => by rw [← e]; exact lookup_of_mem h3 hx) ?_
  refine hS hev hi hA F I hsk fun μ0 sR Ia wr src' St' hh1 tk T I0 It st0 hk => ?_
  refine hnew (newEnvC ?_)
  exact hgo μ0 sR Ia wr src' St' hh1 tk T I0 It st0 hk
end Mine
end
section
open PySem PySem.W PyProof.Rows
set_option linter.unusedVariables false
namespace Mine
variable {prog : Program} {w : World} {A : Around} {E' : Value → Shared → Prop} {s : Shared} {base : Heap} {μ : Mu} {st : St} {fz : List Nat}
variable {env : Env} {names : Nms} {own : List Addr} {ρ : Rho} {mg mb : Str → Option Value} {cf : List Nat → Nat → List D → St → Option (D × St)} {n : Nat}

noncomputable def CompQ (prog : Program) (w : World) (base : Heap) (A : Around) (E' : Value → Shared → Prop) (use : Option (Value → Sem Unit)) (Q : Value → Shared → Prop) (μ : Mu) (fz : List Nat) (s : Shared) (st' : St) (z : D) : Prop :=
  ∀ (C : Addr) (μ5 : Mu) (s5 : Shared) (m : Str → Option Value) (v : Value), Stp NoW fz μ s μ5 s5 → SI prog w base μ5 st' s5.heap → VR μ5 s5.heap z v → s5.heap.Ns C m → ¬ μ5.Has C → s.heap.get? C = none → base.get? C = none →
    compPost (model prog w) A E' use Q v C (.ok .next) s5

theorem Stp.deadBack {μ' : Mu} {s' : Shared} {W : Addr → Prop} {C : Addr} (T : Stp W fz μ s μ' s') (h : s'.heap.get? C = none) : s.heap.get? C = none := by
  cases e : s.heap.get? C with
  | none => rfl
  | some o => obtain ⟨o', ho'⟩ := T.live C o e; rw [h] at ho'; exact none_ne ho'

theorem fz_sub {d : D} : ∀ r ∈ fz, r ∈ fzOf d fz := fun r hr => by
  unfold fzOf; split
  · exact List.mem_cons_of_mem _ hr
  · exact hr

theorem Stp.less {W : Addr → Prop} {fz' : List Nat} {μ' : Mu} {s' : Shared} (T : Stp W fz' μ s μ' s') (h : ∀ r ∈ fz, r ∈ fz') : Stp W fz μ s μ' s' := T.weaken (fun _ q => q) h

theorem lcomp_run {imps : List (Option Nat)} {tgt : List Nat} {k : SK} {src cond elt : E} {x t it : Expr} {ifs : List Expr} {sc : Scope} {pos p0 : Pos} {use : Option (Value → Sem Unit)} {Q : Value → Shared → Prop} {z : D} {st' : St}
    (two : ∃ o, base.get? 2 = some o) (hsc : scOk imps names sc = true) (ht : tgtOk sc.names t tgt = true) (hsk : skTgt k t = true) (hset : notSet it = true) (hS : SemS prog w base cf n names k src it) (hc : SemC prog w base cf n sc.names cond ifs) (he : SemE prog w base cf n sc.names elt x)
    (hev : evE cf (.lcomp imps tgt k src cond elt) fz ρ st = some (z, st')) (hA : AOk n A) (F : FR base env names own μ ρ s.heap) (I : SI prog w base μ st s.heap) (hQ : CompQ prog w base A E' use Q μ fz s st' z) :
    wpAny (model prog w) A (comprehension (.ListComp x [⟨t, it, ifs, 0⟩] sc pos) sc env p0 (newList []) false (eval it env) use) Q E' s := by
  obtain ⟨d, hd, hev⟩ := Option.bind_eq_some_iff.mp hev
  obtain ⟨its, hi, hev⟩ := Option.bind_eq_some_iff.mp hev
  obtain ⟨⟨accN, stN⟩, hl, hev⟩ := Option.map_eq_some_iff.mp hev
  obtain ⟨rfl, rfl⟩ := Prod.mk.inj hev
  obtain ⟨d, st1⟩ := d
  refine comp_pre (o := { cls := .type "list", data := .seq ([] : List Value).toArray }) rfl hset hsc hA F I hS hd hi hsk (fun h => wpAny_newObj_type h) fun μ0 sR Ia wr src' St' h1 tk T I0 It st0 hk => ?_
  have key := comp_core (o := { cls := .type "list", data := .seq ([] : List Value).toArray }) (tk1 := tk) (env := env) (fz1 := fzOf d fz) (toC := Cont.lst) (acc0 := []) (accN := accN) (stN := stN) (bw := fun cenv acc => bodyOf prog w A ifs cenv (emitL x acc cenv)) (R := fun cenv a => compPost (model prog w) A E' use Q (.ref a) cenv.locals)
    (c := fun cenv acc => .compLoop (.ListComp x [⟨t, it, ifs, 0⟩] sc pos) 0 (.ref Ia) acc cenv)
    (inner := fun _ => cdI (evE cf cond (fzOf d fz)) (emI (evE cf elt (fzOf d fz))))
    (fun cenv acc => rule_L1) (fun h hp => bodyOf_mono h hp) hA.handled ht hsc two I0 (F.stp0 T) It st0 hk (Heap.get?_push_size _ rfl) ⟨[], 0, Heap.get?_push_size _ rfl, VRs.nil⟩ ?_ hl ?_
  · refine codeAny_compStart_list key (It.self 0 _ _ _ (It.frame 0 h1 _ st0 fun b o _ e => ?_) key)
    exact pushCells_keeps _ _ _ _ (push_keeps _ _ (push_keeps _ _ e))
  · intro E1 ρ' xx acc st acc' st' s μ cenv own' hb hr hin F1 I1 hC haz ha
    obtain ⟨b, st2, htz, h1, h0⟩ := cdI_s hin
    refine body_sem hc hA I1 F1 htz ⟨b, rfl⟩ (fun μ1 s1 e T1 I2 => ?_) fun μ1 s1 e T1 I2 => ?_
    · obtain ⟨y, hy, hlt, rfl⟩ := emI_s (h1 (D.bool.inj e))
      refine wpAny_mono (emit_list he hA I2 (F1.stp0 T1) hr (by rw [T1.zeq]; exact haz) ha (CR.stpN T1 haz hC) hy hlt) (fun _ s' hp => ?_) fun _ _ e => e
      obtain ⟨μ3, ρ3, T3, r⟩ := hp
      exact ⟨μ3, ρ3, (T1.up).trans T3, r⟩
    · obtain ⟨rfl, rfl⟩ := h0 (D.bool.inj e)
      exact ⟨μ1, ρ', T1.up, I2, F1.stp0 T1, hr, CR.stpN T1 haz hC⟩
  · intro cenv μ5 s5 m T5 I5 hC5 ha5 aR big aB hm hCμ hCR hCa hCB
    obtain ⟨vs, kk, ho, v1⟩ := hC5
    exact hQ cenv.locals μ5 s5 m (.ref h1.objs.size) (T.trans (T5.less fun r hr => fz_sub r hr)) I5 (by unfold VR; exact ⟨_, vs, rfl, ha5, ⟨_, ho, rfl, kk, rfl⟩, v1⟩) hm hCμ (T.deadBack hCR) hCB
/-! a finished dict becomes a container -/
mutual
theorem VR.push {a : Addr} {h : Heap} (ha : ∀ o, h.get? a = some o → ¬ isSeq o) : ∀ {d : D} {v : Value}, VR μ h d v → VR (μ.push a) h d v
  | .none, _, e => e
  | .bool _, _, e => e
  | .int _, _, e => e
  | .str _, _, e => e
  | .tup xs, v, e => by
    unfold VR at e ⊢
    obtain ⟨b, vs, e1, e2, e3, e4⟩ := e
    obtain ⟨o, ho, hs⟩ := isTuple_seq e3
    exact ⟨b, vs, e1, fun q => (Mu.push_mem q).elim e2 fun q => ha o (q ▸ ho) hs, e3, VRs.push ha e4⟩
  | .ilst xs, v, e => by
    unfold VR at e ⊢
    obtain ⟨b, vs, e1, e2, e3, e4⟩ := e
    obtain ⟨o, ho, hs⟩ := isList_seq e3
    exact ⟨b, vs, e1, fun q => (Mu.push_mem q).elim e2 fun q => ha o (q ▸ ho) hs, e3, VRs.push ha e4⟩
  | .obj r, v, e => by
    unfold VR at e ⊢
    obtain ⟨b, e1, e2⟩ := e
    exact ⟨b, e1, pre_get (l' := (μ.push a).l) ⟨[a], rfl⟩ e2⟩
theorem VRs.push {a : Addr} {h : Heap} (ha : ∀ o, h.get? a = some o → ¬ isSeq o) : ∀ {ds : List D} {vs : List Value}, VRs μ h ds vs → VRs (μ.push a) h ds vs
  | [], _, e => e
  | x :: xs, vs, e => by
    unfold VRs at e ⊢
    obtain ⟨v, r, e1, e2, e3⟩ := e
    exact ⟨v, r, e1, VR.push ha e2, VRs.push ha e3⟩
end
theorem ERs.push {a : Addr} {h : Heap} (ha : ∀ o, h.get? a = some o → ¬ isSeq o) : ∀ {es : List (List Int × D)} {kvs : List (List Int × Addr × Value)}, ERs μ h es kvs → ERs (μ.push a) h es kvs
  | [], _, e => e
  | (k, d) :: es, kvs, e => by
    unfold ERs at e ⊢
    obtain ⟨b, v, r, e1, e2, e3⟩ := e
    exact ⟨b, v, r, e1, e2.push ha, e3.push ha⟩
theorem CR.push {a b : Addr} {h : Heap} {c : Cont} (ha : ∀ o, h.get? a = some o → ¬ isSeq o) (x : CR prog w μ h b c) : CR prog w (μ.push a) h b c := by
  cases c with
  | lst xs => obtain ⟨vs, n, e, r⟩ := x; exact ⟨vs, n, e, r.push ha⟩
  | dic es =>
    obtain ⟨kvs, hD, hm, r⟩ := x
    have hkk := hD
    obtain ⟨o, ess, ep, e, hx, hd, he, hkk, hn⟩ := hkk
    refine ⟨kvs, hD, fun y hy q => ?_, r.push ha⟩
    obtain ⟨o', ho', hs'⟩ := isTupleKey_tuple (hkk y hy)
    exact (Mu.push_mem q).elim (hm y hy) fun q => ha o' (q ▸ ho') hs'

theorem adopt {a : Addr} {c : Cont} {μ5 : Mu} {s5 : Shared} {st5 : St} (T : Stp NoW fz μ s μ5 s5) (I : SI prog w base μ5 st5 s5.heap) (hC : CR prog w μ5 s5.heap a c) (ha : ¬ μ5.Has a) (hs : s.heap.get? a = none) (h1 : 1 < a) (hB : base.get? a = none) (hns : ∀ o, s5.heap.get? a = some o → ¬ isSeq o) :
    Stp NoW fz μ s (μ5.push a) s5 ∧ SI prog w base (μ5.push a) (st5 ++ [c]) s5.heap ∧ VR (μ5.push a) s5.heap (.obj st5.length) (.ref a) := by
  refine ⟨⟨T.pre.trans ⟨[a], rfl⟩, fun x hx => (Mu.push_mem hx).elim (T.fresh x) fun e => .inr (e ▸ hs), T.keep, T.live, T.frz, T.zeq, T.zk, T.gens, T.os⟩, ⟨I.keep, ?_, ?_, fun x hx => (Mu.push_mem hx).elim (I.above x) fun e => e ▸ hB, fun x hx => (Mu.push_mem hx).elim (I.big x) fun e => e ▸ h1, I.zlive, fun x hx q => ?_, fun r x c' e1 e2 => ?_⟩, ?_⟩
  · show (μ5.l ++ [a]).length = _
    simp [I.len]
  · show (μ5.l ++ [a]).Nodup
    rw [List.nodup_append]
    exact ⟨I.nodup, by simp, fun x hx y hy => by rw [List.mem_singleton] at hy; subst hy; exact fun e => ha (e ▸ Mu.memL hx)⟩
  · rcases List.mem_append.mp (show x ∈ μ5.l ++ [a] from q) with q | q
    · exact I.apart x hx q
    · rw [List.mem_singleton] at q; subst q; exact ha (Mu.memZ hx)
  · have e1 : (μ5.l ++ [a])[r]? = some x := e1
    by_cases hr : r < μ5.l.length
    · rw [List.getElem?_append_left hr] at e1
      rw [List.getElem?_append_left (by rw [← I.len]; exact hr)] at e2
      exact (I.cont r x c' e1 e2).push hns
    · have hr' := (List.getElem?_eq_some_iff.mp e1).1
      rw [List.length_append, List.length_singleton] at hr'
      have : r = μ5.l.length := by lia
      subst this
      rw [List.getElem?_append_right (Nat.le_refl _), Nat.sub_self] at e1
      rw [I.len, List.getElem?_append_right (Nat.le_refl _), Nat.sub_self] at e2
      obtain rfl := Option.some.inj e1; cases e2; exact hC.push hns
  · unfold VR
    exact ⟨a, rfl, by show (μ5.l ++ [a])[st5.length]? = some a; rw [← I.len, List.getElem?_append_right (Nat.le_refl _), Nat.sub_self]; rfl⟩

theorem dcomp_run {imps : List (Option Nat)} {tgt : List Nat} {k : SK} {src cond key val : E} {kx vx t it : Expr} {ifs : List Expr} {sc : Scope} {pos p0 : Pos} {use : Option (Value → Sem Unit)} {Q : Value → Shared → Prop} {z : D} {st' : St}
    (two : ∃ o, base.get? 2 = some o) (hsc : scOk imps names sc = true) (ht : tgtOk sc.names t tgt = true) (hsk : skTgt k t = true) (hset : notSet it = true) (hS : SemS prog w base cf n names k src it) (hc : SemC prog w base cf n sc.names cond ifs) (hx : SemE prog w base cf n sc.names key kx) (hy : SemE prog w base cf n sc.names val vx)
    (hev : evE cf (.dcomp imps tgt k src cond key val) fz ρ st = some (z, st')) (hA : AOk n A) (F : FR base env names own μ ρ s.heap) (I : SI prog w base μ st s.heap) (hQ : CompQ prog w base A E' use Q μ fz s st' z) :
    wpAny (model prog w) A (comprehension (.DictComp kx vx [⟨t, it, ifs, 0⟩] sc pos) sc env p0 newDict false (eval it env) use) Q E' s := by
  obtain ⟨d, hd, hev⟩ := Option.bind_eq_some_iff.mp hev
  obtain ⟨its, hi, hev⟩ := Option.bind_eq_some_iff.mp hev
  obtain ⟨⟨accN, stN⟩, hl, hev⟩ := Option.map_eq_some_iff.mp hev
  obtain ⟨rfl, rfl⟩ := Prod.mk.inj hev
  obtain ⟨d, st1⟩ := d
  refine comp_pre (o := { cls := .type "dict", data := .dict #[] }) rfl hset hsc hA F I hS hd hi hsk (fun h => wpAny_newObj_type h) fun μ0 sR Ia wr src' St' h1 tk T I0 It st0 hk => ?_
  have key := comp_core (o := { cls := .type "dict", data := .dict #[] }) (tk1 := tk) (env := env) (fz1 := fzOf d fz) (toC := Cont.dic) (acc0 := []) (accN := accN) (stN := stN) (bw := fun cenv acc => bodyOf prog w A ifs cenv (emitD kx vx acc cenv)) (R := fun cenv a => compPost (model prog w) A E' use Q (.ref a) cenv.locals)
    (c := fun cenv acc => .compLoop (.DictComp kx vx [⟨t, it, ifs, 0⟩] sc pos) 0 (.ref Ia) acc cenv)
    (inner := fun _ => cdI (evE cf cond (fzOf d fz)) (edI (evE cf key (fzOf d fz)) (evE cf val (fzOf d fz))))
    (fun cenv acc => rule_D) (fun h hp => bodyOf_mono h hp) hA.handled ht hsc two I0 (F.stp0 T) It st0 hk (Heap.get?_push_size _ rfl)
    ⟨[], ⟨_, #[], 0, Heap.get?_push_size _ rfl, ⟨rfl, rfl, rfl⟩, rfl, rfl, fun _ h => (by cases h), List.nodup_nil⟩, fun _ h => (by cases h), by unfold ERs; rfl⟩ ?_ hl ?_
  · refine codeAny_compStart_dict key (It.self 0 _ _ _ (It.frame 0 h1 _ st0 fun b o _ e => ?_) key)
    exact pushCells_keeps _ _ _ _ (push_keeps _ _ (push_keeps _ _ e))
  · intro E1 ρ' xx acc st acc' st' s μ cenv own' hb hr hin F1 I1 hC haz ha
    obtain ⟨b, st2, htz, h1, h0⟩ := cdI_s hin
    refine body_sem hc hA I1 F1 htz ⟨b, rfl⟩ (fun μ1 s1 e T1 I2 => ?_) fun μ1 s1 e T1 I2 => ?_
    · obtain ⟨kk, st3, y, ki, hkk, hy', hki, hlt, rfl⟩ := edI_s (h1 (D.bool.inj e))
      refine wpAny_mono (emit_dict hx hy hA I2 (F1.stp0 T1) hr (by rw [T1.zeq]; exact haz) ha (CR.stpN T1 haz hC) hkk hy' hki hlt) (fun _ s' hp => ?_) fun _ _ e => e
      obtain ⟨μ3, ρ3, T3, r⟩ := hp
      exact ⟨μ3, ρ3, (T1.up).trans T3, r⟩
    · obtain ⟨rfl, rfl⟩ := h0 (D.bool.inj e)
      exact ⟨μ1, ρ', T1.up, I2, F1.stp0 T1, hr, CR.stpN T1 haz hC⟩
  · intro cenv μ5 s5 m T5 I5 hC5 ha5 aR big aB hm hCμ hCR hCa hCB
    have hns : ∀ o, s5.heap.get? h1.objs.size = some o → ¬ isSeq o := fun o e => by
      obtain ⟨kvs, ⟨o', _, _, ho', _, hd', _⟩, _⟩ := hC5
      rw [e] at ho'; obtain rfl := Option.some.inj ho'
      exact isDC.notSeq (.inl ⟨_, _, hd'⟩)
    obtain ⟨T6, I6, V6⟩ := adopt (T.trans (T5.less fun r hr => fz_sub r hr)) I5 hC5 ha5 (T.deadBack aR) big aB hns
    exact hQ cenv.locals (μ5.push h1.objs.size) s5 m (.ref h1.objs.size) T6 I6 V6 hm (fun q => (Mu.push_mem q).elim hCμ hCa) (T.deadBack hCR) hCB
end Mine
end
section
open PySem PySem.W PyProof.Rows
set_option linter.unusedVariables false
namespace Mine
variable {prog : Program} {w : World} {A : Around} {E' : Value → Shared → Prop} {s : Shared} {base : Heap} {μ : Mu} {st : St} {fz : List Nat}
variable {env : Env} {names : Nms} {own : List Addr} {ρ : Rho} {mg mb : Str → Option Value} {cf : List Nat → Nat → List D → St → Option (D × St)} {n : Nat} {R : Result → Shared → Prop}

theorem compStart_2 {elt target iter target2 iter2 : Expr} {scope : Scope} {pos : Pos} {it acc : Value}
    (h0 : codeAny (model prog w) A (.compLoop (.ListComp elt [⟨target, iter, [], 0⟩, ⟨target2, iter2, [], 0⟩] scope pos) 1 it acc env) R s)
    (h : wpAny (model prog w) A (pyIter it) (fun it' s' => codeAny (model prog w) A (.compLoop (.ListComp elt [⟨target, iter, [], 0⟩, ⟨target2, iter2, [], 0⟩] scope pos) 1 it' acc env) R s')
      (notedBy (model prog w) A env fun x s' => R (.error x) s') s) :
    codeAny (model prog w) A (.compStart (.ListComp elt [⟨target, iter, [], 0⟩, ⟨target2, iter2, [], 0⟩] scope pos) 1 it acc env) R s := by
  refine codeAny_of_tree ?_
  show wpAny _ A ((compStart (.ListComp elt [⟨target, iter, [], 0⟩, ⟨target2, iter2, [], 0⟩] scope pos) 1 it acc env).onRaise (fun x => do noteFrame x env; standAt theWindowsPlace)) _ _ s
  refine wpAny_notedAt ?_
  unfold compStart
  show wpAny _ A (ask >>= _) _ _ s
  refine wpAny_bind (wpAny_askSetting (wpAny_ite ?_))
  split
  · first
      | exact wpAny_bind (wpAny_pure (wpAny_pure (And.intro rfl h0)))
      | exact wpAny_pure (And.intro rfl h0)
  · first
      | exact wpAny_bind (wpAny_rule (wpAny_bind (wpAny_standAt (wpAny_bind (wpAny_mono h (fun it' s' h' => wpAny_pure (And.intro rfl h')) fun _ _ x => x)))))
      | (refine wpAny_bind (wpAny_rule ?_); show wpAny _ A (standAt iter2.pos >>= _) _ _ s; exact wpAny_bind (wpAny_standAt (wpAny_bind (wpAny_mono h (fun it' s' h' => wpAny_pure (And.intro rfl h')) fun _ _ x => x))))

theorem semC_nil : SemC prog w base cf n names .nil [] := by
  intro fz ρ st z st' A E' s μ env own hev _ hA F I
  obtain ⟨rfl, rfl⟩ := someP hev
  rw [List.forIn_nil]
  exact wpAny_pure ⟨rfl, PE.bool I true⟩

theorem bindT_other {tgt : List Nat} {names : Nms} {target : Expr} {x : D} {ρ ρ' : Rho} {j : Nat} (ht : tgtOk names target tgt = true) (hb : bindT tgt x ρ = some ρ') (hj : j ∉ tgt) : ρ'[j]? = ρ[j]? := by
  rcases tgtOk_s ht with ⟨y, p, i, rfl, rfl, ht1⟩ | ⟨ts, kk, p, rfl, h1, h2, h3⟩
  · obtain rfl := Option.some.inj hb
    rw [List.getElem?_set_ne fun e => hj (List.mem_singleton.mpr e.symm)]
  · obtain ⟨xs, rfl, hl, rfl⟩ := bindT_tup h2 hb
    exact setAll_other _ _ _ hj

/-- a second target's places are free -/
theorem bind_rle2 {imps : List (Option Nat)} {sc : Scope} {t t2 : Expr} {tgt tgt2 : List Nat} {x x2 : D} {ρ' ρ2 : Rho} (hsc : scOk imps names sc = true) (ht : tgtOk sc.names t tgt = true) (ht2 : tgtOk sc.names t2 tgt2 = true) (hd : (tgt.all fun i => !tgt2.contains i) = true)
    (hb : bindT tgt x (impRho imps ρ) = some ρ') (hb2 : bindT tgt2 x2 ρ' = some ρ2) : Rle ρ' ρ2 := by
  have hn : ∀ i ∈ tgt2, (ρ'[i]?).join = none := by
    intro i hi
    have hit : i ∉ tgt := fun q => by
      have := List.all_eq_true.mp hd i q
      simp [hi] at this
    rw [bindT_other ht hb hit]
    have hk : ∃ y k, sc.names[i]? = some (y, k) ∧ (k = .local ∨ k = .cell) := by
      rcases tgtOk_s ht2 with ⟨y, p, j, rfl, rfl, ht1⟩ | ⟨ts, kk, p, rfl, h1, h2, h3⟩
      · obtain rfl := List.mem_singleton.mp hi
        exact ⟨_, tgt1_spec ht1⟩
      · exact tgts_kinds h1 i hi
    obtain ⟨y, k, e1, e2⟩ := hk
    exact imp_none hsc e1 e2
  have hlen : ρ'.length = ρ2.length := by
    rcases tgtOk_s ht2 with ⟨y, p, j, rfl, rfl, ht1⟩ | ⟨ts, kk, p, rfl, h1, h2, h3⟩
    · obtain rfl := Option.some.inj hb2; rw [List.length_set]
    · obtain ⟨xs, rfl, hl, rfl⟩ := bindT_tup h2 hb2
      rw [setAll_len]
  refine ⟨hlen, fun j d hj => ?_⟩
  have : j ∉ tgt2 := fun q => by rw [hn j q] at hj; exact none_ne hj
  rw [bindT_other ht2 hb2 this]; exact hj

theorem lcomp2_run {imps : List (Option Nat)} {tgt tgt2 : List Nat} {k k2 : SK} {src src2 elt : E} {x t it t2 it2 : Expr} {sc : Scope} {pos p0 : Pos} {use : Option (Value → Sem Unit)} {Q : Value → Shared → Prop} {z : D} {st' : St}
    (two : ∃ o, base.get? 2 = some o) (hsc : scOk imps names sc = true) (ht : tgtOk sc.names t tgt = true) (hsk : skTgt k t = true) (hset : notSet it = true) (hdis : (tgt.all fun i => !tgt2.contains i) = true) (ht2 : tgtOk sc.names t2 tgt2 = true) (hsk2 : skTgt k2 t2 = true) (hset2 : notSet it2 = true)
    (hS : SemS prog w base cf n names k src it) (hS2 : SemS prog w base cf n sc.names k2 src2 it2) (he : SemE prog w base cf n sc.names elt x)
    (hev : evE cf (.lcomp2 imps tgt k src tgt2 k2 src2 elt) fz ρ st = some (z, st')) (hA : AOk n A) (F : FR base env names own μ ρ s.heap) (I : SI prog w base μ st s.heap) (hQ : CompQ prog w base A E' use Q μ fz s st' z) :
    wpAny (model prog w) A (comprehension (.ListComp x [⟨t, it, [], 0⟩, ⟨t2, it2, [], 0⟩] sc pos) sc env p0 (newList []) false (eval it env) use) Q E' s := by
  obtain ⟨d, hd, hev⟩ := Option.bind_eq_some_iff.mp hev
  obtain ⟨its, hi, hev⟩ := Option.bind_eq_some_iff.mp hev
  obtain ⟨⟨accN, stN⟩, hl, hev⟩ := Option.map_eq_some_iff.mp hev
  obtain ⟨rfl, rfl⟩ := Prod.mk.inj hev
  obtain ⟨d, st1⟩ := d
  refine comp_pre (o := { cls := .type "list", data := .seq ([] : List Value).toArray }) rfl hset hsc hA F I hS hd hi hsk (fun h => wpAny_newObj_type h) fun μ0 sR Ia wr src' St' h1 tk T I0 It st0 hk => ?_
  have key := comp_core (o := { cls := .type "list", data := .seq ([] : List Value).toArray }) (tk1 := tk) (env := env) (fz1 := fzOf d fz) (toC := Cont.lst) (acc0 := []) (accN := accN) (stN := stN) (bw := fun cenv acc => bodyOf prog w A [] cenv (emit2 (.ListComp x [⟨t, it, [], 0⟩, ⟨t2, it2, [], 0⟩] sc pos) it2 acc cenv)) (R := fun cenv a => compPost (model prog w) A E' use Q (.ref a) cenv.locals)
    (c := fun cenv acc => .compLoop (.ListComp x [⟨t, it, [], 0⟩, ⟨t2, it2, [], 0⟩] sc pos) 0 (.ref Ia) acc cenv)
    (inner := fun xx ρ' acc st => (evE cf src2 (fzOf d fz) ρ' st).bind fun d2 => (items k2 d2.1 d2.2).bind fun its2 =>
        loopF (fun x2 acc st => (bindT tgt2 x2 ρ').bind fun ρ2 => emI (evE cf elt (fzOf d2.1 (fzOf d fz))) ρ2 acc st) its2 acc d2.2)
    (fun cenv acc => rule_2a) (fun h hp => bodyOf_mono h hp) hA.handled ht hsc two I0 (F.stp0 T) It st0 hk (Heap.get?_push_size _ rfl) ⟨[], 0, Heap.get?_push_size _ rfl, VRs.nil⟩ ?_ hl ?_
  · refine codeAny_compStart_list key (It.self 0 _ _ _ (It.frame 0 h1 _ st0 fun b o _ e => ?_) key)
    exact pushCells_keeps _ _ _ _ (push_keeps _ _ (push_keeps _ _ e))
  · intro E1 ρ' xx acc st acc' st' s μ cenv own' hb hr hin F1 I1 hC haz ha
    obtain ⟨d2, hd2, hin⟩ := Option.bind_eq_some_iff.mp hin
    obtain ⟨its2, hi2, hin⟩ := Option.bind_eq_some_iff.mp hin
    obtain ⟨d2, st2⟩ := d2
    refine body_sem (cf := cf) (fz := fzOf d fz) (cond := .nil) (z := .bool true) (st' := st) semC_nil hA I1 F1 rfl ⟨true, rfl⟩ (fun μ1 s1 _ T1 I2 => ?_) fun μ1 s1 e T1 I2 => by cases e
    have haz1 : h1.objs.size ∈ μ1.z := by rw [T1.zeq]; exact haz
    have hC1 := CR.stpN T1 haz hC
    refine wpAny_bind (wpAny_mono (hS2 hd2 hi2 hA (F1.stp0 T1) I2 hsk2 (E' := E1) (Q := fun iv s' => wpAny (model prog w) A (do let _ ← runOwn (.compStart (.ListComp x [⟨t, it, [], 0⟩, ⟨t2, it2, [], 0⟩] sc pos) 1 iv (.ref h1.objs.size) cenv) cenv) (fun _ s' => EmitP prog w base cenv sc.names own' (fzOf d fz) μ s st' (impRho imps ρ) h1.objs.size (.lst acc') s') E1 s')
      fun μ2 s2 Ia2 wr2 src2 St2 h2 tk2 T2 I3 It2 st2' hk2 => ?_) (fun xv s' hq => ?_) fun _ _ e => e)
    · refine wpAny_bind (wpAny_runOwn (h := none) ?_)
      have F3 : FR base cenv sc.names own' μ2 ρ' s2.heap := (F1.stp0 T1).stp0 T2
      have haz2 : h1.objs.size ∈ μ2.z := by rw [T2.zeq]; exact haz1
      have hC2 := CR.stpN T2 haz1 hC1
      have wrB := It2.wrBase I3
      have ownal : ∀ b, (b ∈ own' ∨ b = h1.objs.size) → ∃ o, s2.heap.get? b = some o := fun b q => by
        rcases q with q | rfl
        · obtain ⟨o, ho, _⟩ := F3.nseq b q; exact ⟨o, ho⟩
        · exact I3.alive _ (Mu.memZ haz2)
      have I4 : SI prog w base μ2 st2 h2 := I3.keeps hk2
      have loop := comp_loop (s := { s2 with heap := h2, toks := tk2 }) (own := own') (names := sc.names) (env := cenv) (ow := fun b => b ∈ own' ∨ b = h1.objs.size) (μr := μ2) (μR := μ2) (sR := s2) (toC := Cont.lst) (a := h1.objs.size) (tgt := tgt2) (ρ0 := ρ') (acc0 := acc) (accN := acc') (st0 := st2) (stN := st') (fz1 := fzOf d2 (fzOf d fz))
        (R := fun r s' => match r with
          | .ok f => wpAny (model prog w) A (pure () : Sem Unit) (fun _ s' => EmitP prog w base cenv sc.names own' (fzOf d fz) μ s st' (impRho imps ρ) h1.objs.size (.lst acc') s') E1 s'
          | .error e => cameBackBy (model prog w) A cenv E1 e s')
        (inner := fun _ => emI (evE cf elt (fzOf d2 (fzOf d fz))))
        (rule_2b (prog := prog) (w := w) (A := A) (elt := x) (target := t) (iter := it) (target2 := t2) (iter2 := it2) (scope := sc) (pos := pos) (it := .ref Ia2) (acc := .ref h1.objs.size) (env := cenv)) (fun h hp => bodyOf_mono h hp) hA.handled ht2 It2 (fun d v q => q) ?_ ?_ wrB (fun b q => .inl q) ?_ ?_ (fun b q => q) haz2 ha
        (fun x2 ρ2 hb2 => bind_rle2 hsc ht ht2 hdis hb hb2) ?_ hin ?_ (ρ1 := ρ') (μ := μ2) ?_ I4 (F3.mono (List.prefix_refl _) (fun _ h => .inl h) fun b o e _ _ => hk2 b o e) Rle.refl ?_ st2' ?_
      · exact compStart_2 loop (It2.self 0 _ _ _ st2' loop)
      · exact It2.src1
      · exact fun b hb => ⟨It2.srcOwn (q := fun b => b ∈ own' ∨ b = h1.objs.size) (fun b o q e hs => q.elim (fun q => absurd hs (F3.own_seq b o q e)) fun q => q ▸ Mu.memZ haz2) (fun b q z => q.elim (fun q => F3.ownμ b q (Mu.memL z)) fun q => I3.apart _ haz2 (q ▸ z)) b hb, It2.fresh_not (It2.srcOk b hb).1⟩
      · intro b o q e
        rcases q with (q | rfl) | q
        · exact .inl (F3.own_seq b o q e)
        · exact .inr (Mu.memZ haz2)
        · rw [It2.fresh b q] at e; exact none_ne e
      · exact fun b hb q => It2.fresh_not (ownal b q) hb
      · intro E2 ρ2 x2 acc2 st3 acc3 st4 s3 μ3 hb2 hin2 F4 I5 hC4 haz4
        obtain ⟨y, hy, hlt, rfl⟩ := emI_s hin2
        refine body_sem (cf := cf) (cond := .nil) (z := .bool true) (st' := st3) (fz := fzOf d2 (fzOf d fz)) semC_nil hA I5 F4 rfl ⟨true, rfl⟩ (fun μ4 s4 _ T4 I6 => ?_) fun μ1 s1 e T1 I2 => by cases e
        refine wpAny_mono (emit_list he hA I6 (F4.stp0 T4) (bind_rle2 hsc ht ht2 hdis hb hb2) (by rw [T4.zeq]; exact haz4) ha (CR.stpN T4 haz4 hC4) hy hlt) (fun _ s' hp => ?_) fun _ _ e => e
        obtain ⟨μ5, ρ5, T5, r⟩ := hp
        exact ⟨μ5, ρ5, (T4.up).trans T5, r⟩
      · intro s5 μ5 ρ5 h5 tk5 T5 I5 F5 hr5 hC5 hk5 hwμ hwF
        refine wpAny_pure ⟨μ5, ρ5, ?_, I5.butF hk5 hwF wrB hwμ, F5.butF hk5 hwF, hr.trans hr5, ?_⟩
        · have T6 := (T5.tail (tk := tk5) hk5 It2.fresh I3.alive).drop (W' := fun b => b ∈ own' ∨ b = h1.objs.size) (fun b q => q.elim .inl fun q => .inr (It2.fresh b q)) I3.zlive
          exact ((T1.trans T2).up).trans (T6.less fun r hr => fz_sub r hr)
        · refine CR.mono (List.prefix_refl _) (fun _ h => .inl h) (fun b o e hs _ => hk5 b o (fun q => ?_) e) ?_ hC5
          · obtain ⟨o', ho', hf⟩ := hwF b q; rw [e] at ho'; obtain rfl := Option.some.inj ho'; exact hf.notSeq hs
          · obtain ⟨o, ho⟩ := hC5.alive
            show h5.get? _ = _
            rw [ho]
            exact hk5 _ o (fun q => by obtain ⟨o2, ho2⟩ := ownal _ (.inr rfl); rw [It2.fresh _ q] at ho2; cases ho2) ho
      · exact Stp.start I3 hk2
      · exact CR.mono (List.prefix_refl _) (fun _ h => .inl h) (fun b o e _ _ => hk2 b o e) (by obtain ⟨o, ho⟩ := hC2.alive; show h2.get? _ = _; rw [ho, hk2 _ o ho]) hC2
      · exact fun b hb q => It2.fresh_not (I3.alive b q) hb
    · refine wpAny_bind (wpAny_standAt ?_)
      rw [folded_notSet hset2]
      exact wpAny_bind (wpAny_pure (wpAny_bind (wpAny_holding hq)))
  · intro cenv μ5 s5 m T5 I5 hC5 ha5 aR big aB hm hCμ hCR hCa hCB
    obtain ⟨vs, kk, ho, v1⟩ := hC5
    exact hQ cenv.locals μ5 s5 m (.ref h1.objs.size) (T.trans (T5.less fun r hr => fz_sub r hr)) I5 (by unfold VR; exact ⟨_, vs, rfl, ha5, ⟨_, ho, rfl, kk, rfl⟩, v1⟩) hm hCμ (T.deadBack hCR) hCB
end Mine
end
section
open PySem PySem.W PyProof.Rows
set_option linter.unusedVariables false
namespace Mine
variable {prog : Program} {w : World} {base : Heap} {mg mb : Str → Option Value} {cf : List Nat → Nat → List D → St → Option (D × St)} {n : Nat}

noncomputable def CallOk (prog : Program) (w : World) (base : Heap) (mg : Str → Option Value) (n : Nat) (cf : List Nat → Nat → List D → St → Option (D × St)) : Prop :=
  ∀ {fz : List Nat} {f : Nat} {args : List D} {st : St} {z : D} {st' : St} {x : Str} {a : Addr}, cf fz f args st = some (z, st') → fnNames[f]? = some x → mg x = some (.ref a) →
    ∀ {A : Around} {E' : Value → Shared → Prop} {s : Shared} {μ : Mu} {vs : List Value}, AOk n A → SI prog w base μ st s.heap → VRs μ s.heap args vs → wpAny (model prog w) A (call (.ref a) vs) (PE prog w base μ fz s st' z) E' s

noncomputable def SemTL (prog : Program) (w : World) (base : Heap) (cf : List Nat → Nat → List D → St → Option (D × St)) (n : Nat) (names : Nms) (e : E) (xs : List Expr) : Prop :=
  ∀ {isAnd : Bool} {fz : List Nat} {ρ : Rho} {st : St} {z : D} {st' : St} {A : Around} {E' : Value → Shared → Prop} {s : Shared} {μ : Mu} {env : Env} {own : List Addr}, evB cf isAnd e fz ρ st = some (z, st') → AOk n A → FR base env names own μ ρ s.heap →
    SI prog w base μ st s.heap → wpAny (model prog w) A (allTrue (if isAnd then .And else .Or) xs env) (fun b s' => z = .bool b ∧ PE prog w base μ fz s st' (.bool b) (.bool b) s') E' s
noncomputable def SemBL (prog : Program) (w : World) (base : Heap) (cf : List Nat → Nat → List D → St → Option (D × St)) (n : Nat) (names : Nms) (e : E) (xs : List Expr) : Prop :=
  ∀ {isAnd : Bool} {fz : List Nat} {ρ : Rho} {st : St} {z : D} {st' : St} {A : Around} {E' : Value → Shared → Prop} {s : Shared} {μ : Mu} {env : Env} {own : List Addr} {pos : Pos}, evB cf isAnd e fz ρ st = some (z, st') → AOk n A → FR base env names own μ ρ s.heap →
    SI prog w base μ st s.heap → wpAny (model prog w) A (boolOp pos (if isAnd then .And else .Or) (evalEach xs env)) (PE prog w base μ fz s st' z) E' s
noncomputable def flatP (ps : List (Value × Value)) : List Value := ps.flatMap fun p => [p.1, p.2]
noncomputable def SemK (prog : Program) (w : World) (base : Heap) (cf : List Nat → Nat → List D → St → Option (D × St)) (n : Nat) (names : Nms) (e : E) (ks : List (Option Expr)) (xs : List Expr) : Prop :=
  ∀ {fz : List Nat} {ρ : Rho} {st : St} {z : List D} {st' : St} {A : Around} {E' : Value → Shared → Prop} {s : Shared} {μ : Mu} {env : Env} {own : List Addr} {pos : Pos}, evL cf e fz ρ st = some (z, st') → AOk n A → FR base env names own μ ρ s.heap →
    SI prog w base μ st s.heap → wpAny (model prog w) A (evalPairs (pairTrees ks xs env pos)) (fun ps s' => PL prog w base μ fz s st' z (flatP ps) s') E' s

structure Snd (prog : Program) (w : World) (base : Heap) (cf : List Nat → Nat → List D → St → Option (D × St)) (n : Nat) (e : E) : Prop where
  sE : ∀ {ns x}, chkE e ns x = true → SemE prog w base cf n ns e x
  sT : ∀ {ns x}, chkT e ns x = true → SemT prog w base cf n ns e x
  sTL : ∀ {ns xs}, chkTL e ns xs = true → SemTL prog w base cf n ns e xs
  sBL : ∀ {ns xs}, chkL e ns xs = true → SemBL prog w base cf n ns e xs
  sL : ∀ {ns xs}, chkL e ns xs = true → SemL prog w base cf n ns e xs
  sK : ∀ {ns ks xs}, chkK e ns ks xs = true → SemK prog w base cf n ns e ks xs
  sC : ∀ {ns xs}, chkC e ns xs = true → SemC prog w base cf n ns e xs

/-- most expressions are nothing but a value -/
theorem Snd.ofE {e : E} (h : ∀ {ns x}, chkE e ns x = true → SemE prog w base cf n ns e x) (ht : ∀ {ns x}, chkT e ns x = false) (htl : ∀ {ns xs}, chkTL e ns xs = false) (hl : ∀ {ns xs}, chkL e ns xs = false) (hk : ∀ {ns ks xs}, chkK e ns ks xs = false) (hc : ∀ {ns xs}, chkC e ns xs = false) :
    Snd prog w base cf n e :=
  ⟨h, fun q => by rw [ht] at q; (cases q), fun q => by rw [htl] at q; (cases q), fun q => by rw [hl] at q; (cases q), fun q => by rw [hl] at q; (cases q), fun q => by rw [hk] at q; (cases q), fun q => by rw [hc] at q; (cases q)⟩

theorem bh_of {op : CmpOp} {r : Expr} (h : notSet r = true) : behindInMarks op r = false := by cases r <;> first | rfl | (cases h; done)

theorem isVar_spec {ns : Nms} {i : Nat} {x : Str} (h : isVar ns i x = true) : ∃ k, ns[i]? = some (x, k) := by
  obtain ⟨⟨y, k⟩, e, h⟩ := onO_s h
  obtain rfl : y = x := decT (andT h).1
  exact ⟨k, e⟩
theorem plain_dbg {x : Str} (h : plainNm x = true) : (x == ("__debug__" : Str)) = false := by simp [plainNm] at h; simpa using h.1

theorem snd_var {i : Nat} : Snd prog w base cf n (.var i) := by
  refine Snd.ofE (fun {ns x} h => ?_) ?_ ?_ ?_ ?_ ?_
  · have qq := okNm_spec h
    clear h
    obtain ⟨y, p, rfl, h⟩ := qq
    have h := Bool.and_eq_true_iff.mp h
    intro fz ρ st z st' A E' s μ env own hev hA F I
    obtain ⟨k, hk⟩ := isVar_spec h.1
    obtain ⟨d, hd, e⟩ := Option.map_eq_some_iff.mp hev
    obtain ⟨rfl, rfl⟩ := Prod.mk.inj e
    exact wpAny_Name (F.load hk hd fun v hv => PE.here I hv) (plain_dbg h.2)
  all_goals (intros; first | rfl | (unfold chkT; rfl))
end Mine
end
section
open PySem PySem.W PyProof.Rows
set_option linter.unusedVariables false
namespace Mine
variable {prog : Program} {w : World} {base : Heap} {mg mb : Str → Option Value} {cf : List Nat → Nat → List D → St → Option (D × St)} {n : Nat}
variable {A : Around} {E' : Value → Shared → Prop} {s : Shared} {μ : Mu} {st : St} {fz : List Nat} {env : Env} {ns : Nms} {own : List Addr} {ρ : Rho}

theorem chkL_star {xs : List Expr} : ∀ {e : E}, chkL e ns xs = true → xs.all notStar = true := by
  induction xs with
  | nil =>
    intro _ _
    exact rfl
  | cons x xs ih =>
    intro e h
    cases e with
    | cons a b =>
      have h := Bool.and_eq_true_iff.mp (show ((chkE a ns x && notStar x) && chkL b ns xs) = true from h)
      rw [List.all_cons, (Bool.and_eq_true_iff.mp h.1).2, ih h.2]; rfl
    | _ => exact notFT h

theorem two_sem {a b : E} {xa xb : Expr} {za zb : D} {st1 st2 : St} {k : Value → Value → Sem Value} {Q : Value → Shared → Prop} (ha : SemE prog w base cf n ns a xa) (hb : SemE prog w base cf n ns b xb)
    (hea : evE cf a fz ρ st = some (za, st1)) (heb : evE cf b fz ρ st1 = some (zb, st2)) (hA : AOk n A) (F : FR base env ns own μ ρ s.heap) (I : SI prog w base μ st s.heap)
    (h : ∀ μ2 s2 u v, Stp NoW fz μ s μ2 s2 → SI prog w base μ2 st2 s2.heap → VR μ2 s2.heap za u → VR μ2 s2.heap zb v → wpAny (model prog w) A (k u v) Q E' s2) :
    wpAny (model prog w) A (eval xa env) (fun u s1 => wpAny (model prog w) A (eval xb env) (fun v s2 => wpAny (model prog w) A (k u v) Q E' s2) E' s1) E' s := by
  refine wpAny_mono (ha hea hA F I) (fun u s1 h1 => ?_) fun _ _ e => e
  obtain ⟨μ1, T1, I1, V1⟩ := h1
  refine wpAny_mono (hb heb hA (F.stp0 T1) I1) (fun v s2 h2 => ?_) fun _ _ e => e
  obtain ⟨μ2, T2, I2, V2⟩ := h2
  exact h μ2 s2 u v (T1.trans T2) I2 (V1.stp0 T2) V2

theorem chkC_two {e : E} {c c2 : Expr} {r : List Expr} : chkC e ns (c :: c2 :: r) = false := by
  cases e <;> rfl

theorem snd_cst {d : D} : Snd prog w base cf n (.cst d) := by
  refine Snd.ofE (fun {ns x} h => ?_) ?_ ?_ ?_ ?_ ?_
  · have qq := okCst_spec h
    clear h
    obtain ⟨c, k, pos, rfl, h⟩ := qq
    intro fz ρ st z st' A E' s μ env own hev hA F I
    obtain ⟨rfl, rfl⟩ := someP hev
    cases d with
    | none => cases c with
      | none => exact wpAny_Constant_none (PE.here I (by unfold VR; rfl))
      | _ => exact notFT h
    | bool b => cases c with
      | bool c => have h := eq_of_beq (show (b == c) = true from h); subst h; exact wpAny_Constant_bool (PE.here I (by unfold VR; rfl))
      | _ => exact notFT h
    | int b => cases c with
      | int c => have h := of_decide_eq_true (show decide (b = c) = true from h); subst h; exact wpAny_Constant_int (PE.int I _ _ _)
      | _ => exact notFT h
    | str b => cases c with
      | str c => have h := of_decide_eq_true (show decide (b = c) = true from h); subst h; exact Calls.Constant_str (PE.same I (by unfold VR; exact ⟨_, rfl⟩))
      | _ => exact notFT h
    | _ => exact notFT h
  all_goals (intros; first | rfl | (unfold chkT; rfl))

theorem snd_glob {g : Nat} (B : HB base mg mb) : Snd prog w base cf n (.glob g) := by
  refine Snd.ofE (fun {ns x} h => ?_) ?_ ?_ ?_ ?_ ?_
  · have qq := okNm_spec h
    clear h
    obtain ⟨y, pos, rfl, h⟩ := qq
    simp only [Bool.and_eq_true, decide_eq_true_eq] at h
    intro fz ρ st z st' A E' s μ env own hev hA F I
    obtain ⟨d, hd, e⟩ := Option.map_eq_some_iff.mp hev
    obtain ⟨rfl, rfl⟩ := Prod.mk.inj e
    obtain ⟨⟨h1, h2⟩, h3⟩ := h
    obtain ⟨v, hv, V⟩ := B.glob g _ _ h1 hd
    exact load_global B F I h2 h3 hv (PE.here I (V.ofBase I))
  all_goals (intros; first | rfl | (unfold chkT; rfl))

theorem snd_bin {op : BOp} {a b : E} (ha : Snd prog w base cf n a) (hb : Snd prog w base cf n b) : Snd prog w base cf n (.bin op a b) := by
  refine Snd.ofE (fun {ns x} h => ?_) ?_ ?_ ?_ ?_ ?_
  · obtain ⟨l, r, pos, rfl, h1, h2⟩ := okBin_spec h
    intro fz ρ st z st' A E' s μ env own hev hA F I
    obtain ⟨p, hp, hev⟩ := Option.bind_eq_some_iff.mp hev
    obtain ⟨q, hq, hev⟩ := Option.bind_eq_some_iff.mp hev
    obtain ⟨d, hd, e⟩ := Option.map_eq_some_iff.mp hev
    obtain ⟨rfl, rfl⟩ := Prod.mk.inj e
    exact wpAny_BinOp (two_sem (ha.sE h1) (hb.sE h2) hp hq hA F I fun μ2 s2 u v T I2 V1 V2 => wpAny_mono (op_bin I2 V1 V2 hd) (fun _ _ r => PE.from T r) fun _ _ e => e)
  all_goals (intros; first | rfl | (unfold chkT; rfl))

theorem snd_neg {a : E} (ha : Snd prog w base cf n a) : Snd prog w base cf n (.neg a) := by
  refine Snd.ofE (fun {ns x} h => ?_) ?_ ?_ ?_ ?_ ?_
  · have qq := okNeg_spec h
    clear h
    obtain ⟨x, pos, rfl, h⟩ := qq
    intro fz ρ st z st' A E' s μ env own hev hA F I
    obtain ⟨p, hp, hev⟩ := Option.bind_eq_some_iff.mp hev
    obtain ⟨p, st1⟩ := p
    obtain ⟨i, e, hev⟩ := dInt_s hev
    obtain rfl : p = .int i := e
    obtain ⟨rfl, rfl⟩ := someP hev
    refine wpAny_UnaryOp (wpAny_mono (ha.sE h hp hA F I) (fun v s1 h1 => ?_) fun _ _ e => e)
    obtain ⟨μ1, T1, I1, V1⟩ := h1
    obtain ⟨t, rfl⟩ := V1
    exact PyProof.Rows.neg_int (PE.from T1 (PE.int I1 _ _ _))
  all_goals (intros; first | rfl | (unfold chkT; rfl))

theorem pe_bool {st' : St} {b : Bool} {v : Value} (h : PE prog w base μ fz s st' (.bool b) v s) : v = .bool b := by
  obtain ⟨_, _, _, V⟩ := h; exact V

theorem snd_cmp {op : COp} {a b : E} (ha : Snd prog w base cf n a) (hb : Snd prog w base cf n b) : Snd prog w base cf n (.cmp op a b) := by
  have T : ∀ {ns x}, chkT (.cmp op a b) ns x = true → SemT prog w base cf n ns (.cmp op a b) x := by
    intro ns x h
    obtain ⟨l, r, pos, rfl, h1, h2, h3⟩ := okCmp_spec h
    intro fz ρ st z st' A E' s μ env own hev _ hA F I
    obtain ⟨p, hp, hev⟩ := Option.bind_eq_some_iff.mp hev
    obtain ⟨q, hq, hev⟩ := Option.bind_eq_some_iff.mp hev
    obtain ⟨t, ht, e⟩ := Option.map_eq_some_iff.mp hev
    obtain ⟨rfl, rfl⟩ := Prod.mk.inj e
    refine wpAny_isTrue_Compare1 ?_ (bh_of h3)
    refine two_sem (k := fun u v => compareOp (copOf op) u v) (ha.sE h1) (hb.sE h2) hp hq hA F I fun μ2 s2 u v T I2 V1 V2 => wpAny_mono (op_cmp (fz := fz) hA I2 V1 V2 ht) (fun c s3 r => ?_) fun _ _ e => e
    have hc : c = .bool t := by obtain ⟨_, _, _, V⟩ := r; exact V
    subst hc
    exact wpAny_truthy_bool ⟨rfl, PE.from T r⟩
  refine ⟨fun {ns x} h => ?_, T, ?_, ?_, ?_, ?_, fun {ns xs} h => ?_⟩
  · obtain ⟨l, r, pos, rfl, h1, h2, h3⟩ := okCmp_spec h
    intro fz ρ st z st' A E' s μ env own hev hA F I
    obtain ⟨p, hp, hev⟩ := Option.bind_eq_some_iff.mp hev
    obtain ⟨q, hq, hev⟩ := Option.bind_eq_some_iff.mp hev
    obtain ⟨t, ht, e⟩ := Option.map_eq_some_iff.mp hev
    obtain ⟨rfl, rfl⟩ := Prod.mk.inj e
    exact wpAny_Compare1 (two_sem (ha.sE h1) (hb.sE h2) hp hq hA F I fun μ2 s2 u v T I2 V1 V2 => wpAny_mono (op_cmp hA I2 V1 V2 ht) (fun _ _ r => PE.from T r) fun _ _ e => e) (bh_of h3)
  · intro ns xs h; exact notFT h
  · intro ns xs h; exact notFT h
  · intro ns xs h; exact notFT h
  · intro ns ks xs h; exact notFT h
  · have qq := okOne_spec h
    clear h
    obtain ⟨c, rfl, h⟩ := qq
    intro fz ρ st z st' A E' s μ env own hev hz hA F I
    exact wpAny_tests_one (T h hev hz hA F I)

theorem snd_ite {t a b : E} (ht : Snd prog w base cf n t) (ha : Snd prog w base cf n a) (hb : Snd prog w base cf n b) : Snd prog w base cf n (.ite t a b) := by
  refine Snd.ofE (fun {ns x} h => ?_) ?_ ?_ ?_ ?_ ?_
  · obtain ⟨t', a', b', pos, rfl, g1, g2, g3⟩ := okIte_spec h
    intro fz ρ st z st' A E' s μ env own hev hA F I
    obtain ⟨p, hp, hev⟩ := Option.bind_eq_some_iff.mp hev
    obtain ⟨p, st1⟩ := p
    obtain ⟨c, e, hev⟩ := dBool_s hev
    obtain rfl : p = .bool c := e
    refine wpAny_IfExp (wpAny_mono (ht.sT g1 hp ⟨c, rfl⟩ hA F I) (fun c' s1 h1 => ?_) fun _ _ e => e)
    obtain ⟨e, μ1, T1, I1, V1⟩ := h1
    obtain rfl := D.bool.inj e
    cases c with
    | true => exact wpAny_mono (ha.sE g2 hev hA (F.stp0 T1) I1) (fun _ _ r => PE.from T1 r) fun _ _ e => e
    | false => exact wpAny_mono (hb.sE g3 hev hA (F.stp0 T1) I1) (fun _ _ r => PE.from T1 r) fun _ _ e => e
  all_goals (intros; first | rfl | (unfold chkT; rfl))

theorem snd_cmp2 {o1 o2 : COp} {a b c : E} (ha : Snd prog w base cf n a) (hb : Snd prog w base cf n b) (hc : Snd prog w base cf n c) : Snd prog w base cf n (.cmp2 o1 o2 a b c) := by
  refine ⟨?_, fun {ns x} h => ?_, ?_, ?_, ?_, ?_, ?_⟩
  · intro ns x h; exact notFT h
  · obtain ⟨l, r1, r2, pos, rfl, h1, h2, h3, h4, h5⟩ := okCmp2_spec h
    intro fz ρ st z st' A E' s μ env own hev _ hA F I
    obtain ⟨p, hp, hev⟩ := Option.bind_eq_some_iff.mp hev
    obtain ⟨q, hq, hev⟩ := Option.bind_eq_some_iff.mp hev
    obtain ⟨t, ht, hev⟩ := Option.bind_eq_some_iff.mp hev
    obtain ⟨p, st1⟩ := p
    obtain ⟨q, st2⟩ := q
    rw [arm_isTrue_Compare]
    refine wpAny_bind (wpAny_mono (ha.sE h1 hp hA F I) (fun u s1 g1 => ?_) fun _ _ e => e)
    obtain ⟨μ1, T1, I1, V1⟩ := g1
    have hm : markedEach [copOf o1, copOf o2] [r1, r2] (evalEach [r1, r2] env) = [eval r1 env, markedBehindIn (copOf o2) r2 (eval r2 env)] := rfl
    rw [hm, markedBehindIn_of_false (bh_of h5)]
    show wpAny _ _ (holding [u] (eval r1 env) >>= _) _ _ s1
    refine wpAny_bind (wpAny_holding (wpAny_mono (hb.sE h2 hq hA (F.stp0 T1) I1) (fun v s2 g2 => ?_) fun _ _ e => e))
    obtain ⟨μ2, T2, I2, V2⟩ := g2
    have T12 := T1.trans T2
    refine wpAny_bind (wpAny_standAt (wpAny_bind (wpAny_holding (wpAny_mono (op_cmp (fz := fz) hA I2 (V1.stp0 T2) V2 ht) (fun cv s3 g3 => ?_) fun _ _ e => e))))
    obtain ⟨μ3, T3, I3, V3⟩ := g3
    subst V3
    have T13 := T12.trans T3
    refine wpAny_bind (PySem.wpAny_release (wpAny_bind (wpAny_holding (wpAny_truthy_bool ?_))))
    cases t with
    | false =>
      obtain ⟨rfl, rfl⟩ := someP hev
      exact wpAny_pure ⟨rfl, PE.from T13 (PE.bool I3 false)⟩
    | true =>
      obtain ⟨y, hy, hev⟩ := Option.bind_eq_some_iff.mp hev
      obtain ⟨b2, hb2, e⟩ := Option.map_eq_some_iff.mp hev
      obtain ⟨rfl, rfl⟩ := Prod.mk.inj e
      obtain ⟨y, st3⟩ := y
      show wpAny _ _ (holding [v] (eval r2 env) >>= _) _ _ s3
      refine wpAny_bind (wpAny_holding (wpAny_mono (hc.sE h3 hy hA (F.stp0 T13) I3) (fun x4 s4 g4 => ?_) fun _ _ e => e))
      obtain ⟨μ4, T4, I4, V4⟩ := g4
      refine wpAny_bind (wpAny_standAt (wpAny_bind (wpAny_operating (wpAny_mono (op_cmp (fz := fz) hA I4 ((V2.stp0 T3).stp0 T4) V4 hb2) (fun cv s5 g5 => ?_) fun _ _ e => e))))
      obtain ⟨μ5, T5, I5, V5⟩ := g5
      subst V5
      exact wpAny_holding (wpAny_truthy_bool ⟨rfl, PE.from ((T13.trans T4).trans T5) (PE.bool I5 b2)⟩)
  · intro ns xs h; exact notFT h
  · intro ns xs h; exact notFT h
  · intro ns xs h; exact notFT h
  · intro ns ks xs h; exact notFT h
  · intro ns xs h; exact notFT h
end Mine
end
section
open PySem PySem.W PyProof.Rows
set_option linter.unusedVariables false
namespace Mine
variable {prog : Program} {w : World} {base : Heap} {mg mb : Str → Option Value} {cf : List Nat → Nat → List D → St → Option (D × St)} {n : Nat}
variable {A : Around} {E' : Value → Shared → Prop} {s : Shared} {μ : Mu} {st : St} {fz : List Nat} {env : Env} {ns : Nms} {own : List Addr} {ρ : Rho}


theorem snd_bad : Snd prog w base cf n .bad := by
  refine ⟨?_, ?_, ?_, ?_, ?_, ?_, ?_⟩
  · intro ns x _ fz ρ st z st' A E' s μ env own hev; exact none_ne hev
  · intro ns x _ fz ρ st z st' A E' s μ env own hev; exact none_ne hev
  · intro ns xs h; exact notFT h
  · intro ns xs h; exact notFT h
  · intro ns xs h; exact notFT h
  · intro ns ks xs h; exact notFT h
  · intro ns xs _ fz ρ st z st' A E' s μ env own hev; exact none_ne hev

theorem snd_nil : Snd prog w base cf n .nil := by
  refine ⟨?_, ?_, ?_, ?_, ?_, ?_, ?_⟩
  · intro ns x h; exact notFT h
  · intro ns x h; exact notFT h
  · intro ns xs h isAnd fz ρ st z st' A E' s μ env own hev; exact none_ne hev
  · intro ns xs h isAnd fz ρ st z st' A E' s μ env own pos hev; exact none_ne hev
  · intro ns xs h
    have h := empty_spec h
    subst h
    intro fz ρ st z st' A E' s μ env own pos hev hA F I
    obtain ⟨rfl, rfl⟩ := someP hev
    exact Calls.spliced_nil ⟨μ, Stp.refl, I, VRs.nil⟩
  · intro ns ks xs h
    have h := Bool.and_eq_true_iff.mp h
    have h1 := empty_spec h.1
    have h2 := empty_spec h.2
    subst h1; subst h2
    intro fz ρ st z st' A E' s μ env own pos hev hA F I
    obtain ⟨rfl, rfl⟩ := someP hev
    exact wpAny_pure ⟨μ, Stp.refl, I, VRs.nil⟩
  · intro ns xs h
    cases xs with
    | nil => exact semC_nil
    | cons _ _ => exact notFT h

theorem PL.from {μ1 : Mu} {s1 s2 : Shared} {st' : St} {ds : List D} {vs : List Value} (T : Stp NoW fz μ s μ1 s1) (h : PL prog w base μ1 fz s1 st' ds vs s2) : PL prog w base μ fz s st' ds vs s2 := by
  obtain ⟨μ', T', I', V'⟩ := h
  exact ⟨μ', T.trans T', I', V'⟩

theorem evB_s {isAnd : Bool} {e es : E} {z : D} {st' : St} (h : evB cf isAnd (.cons e es) fz ρ st = some (z, st')) : ∃ b st1, evE cf e fz ρ st = some (.bool b, st1) ∧
    (((es.ctorIdx = 0 ∨ b ≠ isAnd) ∧ .bool b = z ∧ st1 = st') ∨ (es.ctorIdx ≠ 0 ∧ b = isAnd ∧ evB cf isAnd es fz ρ st1 = some (z, st'))) := by
  obtain ⟨⟨x, s1⟩, hx, h1⟩ := bindE h
  obtain ⟨b, e, h2⟩ := dBool_s h1
  obtain rfl : x = .bool b := e
  by_cases hc : es.ctorIdx = 0 ∨ b ≠ isAnd
  · exact ⟨b, s1, hx, .inl ⟨hc, someP ((if_pos hc).symm.trans h2)⟩⟩
  · exact ⟨b, s1, hx, .inr ⟨fun q => hc (.inl q), Decidable.not_not.mp fun q => hc (.inr q), (if_neg hc).symm.trans h2⟩⟩
theorem nil_ix {e : E} (h : e.ctorIdx = 0) : e = .nil := E.nil.elim (motive := fun e => e = .nil) e h rfl
theorem chkL_ne {e : E} {xs : List Expr} (h : chkL e ns xs = true) (hn : e.ctorIdx ≠ 0) : ∃ y ys, xs = y :: ys := by
  cases e with
  | nil => exact absurd rfl hn
  | cons a b => obtain ⟨y, ys, e, _⟩ := okCons_spec h; exact ⟨y, ys, e⟩
  | _ => exact notFT h
theorem cons_TL {e es : E} (he : Snd prog w base cf n e) (hes : Snd prog w base cf n es) {xs : List Expr} (h : chkTL (.cons e es) ns xs = true) : SemTL prog w base cf n ns (.cons e es) xs := by
  obtain ⟨x, xs, rfl, hx, hr⟩ := okCons_spec h
  clear h
  intro isAnd fz ρ st z st' A E' s μ env own hev hA F I
  obtain ⟨b, st1, hb, hc⟩ := evB_s hev
  clear hev
  have hT := he.sT hx hb ⟨b, rfl⟩ hA F I (E' := E')
  rcases isAnd with _ | _
  · refine wpAny_allTrue_Or_cons (wpAny_mono hT (fun b' s1 h1 => ?_) fun _ _ e => e)
    obtain ⟨e, h1⟩ := h1
    obtain rfl := D.bool.inj e
    rcases hc with ⟨hc, rfl, rfl⟩ | ⟨_, rfl, hev⟩
    · rcases b with _ | _
      · obtain rfl := nil_ix (hc.resolve_right fun q => q rfl)
        obtain rfl := nil_s hr
        exact wpAny_allTrue_Or_nil ⟨rfl, h1⟩
      · exact ⟨rfl, h1⟩
    · obtain ⟨μ1, T1, I1, _⟩ := h1
      exact wpAny_mono (hes.sTL hr hev hA (F.stp0 T1) I1) (fun b s' hb => ⟨hb.1, PE.from T1 hb.2⟩) fun _ _ e => e
  · refine wpAny_allTrue_And_cons (wpAny_mono hT (fun b' s1 h1 => ?_) fun _ _ e => e)
    obtain ⟨e, h1⟩ := h1
    obtain rfl := D.bool.inj e
    rcases hc with ⟨hc, rfl, rfl⟩ | ⟨_, rfl, hev⟩
    · rcases b with _ | _
      · exact ⟨rfl, h1⟩
      · obtain rfl := nil_ix (hc.resolve_right fun q => q rfl)
        obtain rfl := nil_s hr
        exact wpAny_allTrue_And_nil ⟨rfl, h1⟩
    · obtain ⟨μ1, T1, I1, _⟩ := h1
      exact wpAny_mono (hes.sTL hr hev hA (F.stp0 T1) I1) (fun b s' hb => ⟨hb.1, PE.from T1 hb.2⟩) fun _ _ e => e
theorem boolOp_step {x y : Expr} {ys : List Expr} {pos : Pos} {isAnd b : Bool} {Q : Value → Shared → Prop} (h : wpAny (model prog w) A (eval x env) (fun v s1 => v = .bool b ∧
    (b = isAnd → wpAny (model prog w) A (boolOp pos (if isAnd then .And else .Or) (evalEach (y :: ys) env)) Q E' s1) ∧ (b ≠ isAnd → Q (.bool b) s1)) E' s) :
    wpAny (model prog w) A (boolOp pos (if isAnd then .And else .Or) (evalEach (x :: y :: ys) env)) Q E' s := by
  show wpAny _ _ (eval x env >>= fun v => standAt pos >>= fun _ => holding [v] (truthy v) >>= fun t => match (if isAnd then BoolOp.And else BoolOp.Or), t with
          | .And, false | .Or, true => pure v
          | _, _ => boolOp pos (if isAnd then .And else .Or) (evalEach (y :: ys) env)) _ _ s
  refine wpAny_bind (wpAny_mono h (fun v s1 h1 => ?_) fun _ _ e => e)
  obtain ⟨rfl, h2, h3⟩ := h1
  refine wpAny_bind (wpAny_standAt (wpAny_bind (wpAny_holding (wpAny_truthy_bool ?_))))
  rcases isAnd with _ | _ <;> rcases b with _ | _
  · exact h2 rfl
  · exact wpAny_pure (h3 fun e => nomatch e)
  · exact wpAny_pure (h3 fun e => nomatch e)
  · exact h2 rfl
theorem pe_bv {s1 : Shared} {st' : St} {b : Bool} {v : Value} (h : PE prog w base μ fz s st' (.bool b) v s1) : v = .bool b := by
  obtain ⟨_, _, _, V⟩ := h; exact V
theorem cons_BL {e es : E} (he : Snd prog w base cf n e) (hes : Snd prog w base cf n es) {xs : List Expr} (h : chkL (.cons e es) ns xs = true) : SemBL prog w base cf n ns (.cons e es) xs := by
  obtain ⟨x, xs, rfl, hx, hr⟩ := okCons_spec h
  clear h
  intro isAnd fz ρ st z st' A E' s μ env own pos hev hA F I
  obtain ⟨b, st1, hb, hc⟩ := evB_s hev
  clear hev
  have hE := he.sE (andT hx).1 hb hA F I (E' := E')
  rcases hc with ⟨hc, rfl, rfl⟩ | ⟨hn, rfl, hev⟩
  · rcases xs with _ | ⟨y, ys⟩
    · exact hE
    · refine boolOp_step (b := b) (wpAny_mono hE (fun v s1 h1 => ⟨pe_bv h1, fun q => ?_, fun _ => pe_bv h1 ▸ h1⟩) fun _ _ e => e)
      obtain rfl := nil_ix (hc.resolve_right fun p => p q)
      exact absurd (nil_s hr) (List.cons_ne_nil _ _)
  · obtain ⟨y, ys, rfl⟩ := chkL_ne hr hn
    refine boolOp_step (b := b) (wpAny_mono hE (fun v s1 h1 => ⟨pe_bv h1, fun _ => ?_, fun q => absurd rfl q⟩) fun _ _ e => e)
    obtain ⟨μ1, T1, I1, _⟩ := h1
    exact wpAny_mono (hes.sBL hr (pos := pos) hev hA (F.stp0 T1) I1) (fun v s' hv => PE.from T1 hv) fun _ _ e => e
theorem cons_L {e es : E} (he : Snd prog w base cf n e) (hes : Snd prog w base cf n es) {xs : List Expr} (h : chkL (.cons e es) ns xs = true) : SemL prog w base cf n ns (.cons e es) xs := by
  obtain ⟨x, xs, rfl, hx, hr⟩ := okCons_spec h
  clear h
  intro fz ρ st z st' A E' s μ env own pos hev hA F I
  obtain ⟨p, hp, hev⟩ := bindE hev
  obtain ⟨q, hq, e⟩ := mapE hev
  obtain ⟨rfl, rfl⟩ := Prod.mk.inj e
  rw [star_cons (andT hx).2]
  refine Calls.spliced_cons (wpAny_mono (he.sE (andT hx).1 hp hA F I) (fun v s1 h1 => ?_) fun _ _ e => e)
  obtain ⟨μ1, T1, I1, V1⟩ := h1
  refine wpAny_mono (hes.sL hr hq hA (F.stp0 T1) I1) (fun vs s2 h2 => ?_) fun _ _ e => e
  obtain ⟨μ2, T2, I2, V2⟩ := h2
  exact ⟨μ2, T1.trans T2, I2, VRs.cons (V1.stp0 T2) V2⟩
theorem cons_K {e v es : E} (he : Snd prog w base cf n e) (hv : Snd prog w base cf n v) (hes : Snd prog w base cf n es) {ks : List (Option Expr)} {xs : List Expr} (h : chkK (.cons e (.cons v es)) ns ks xs = true) : SemK prog w base cf n ns (.cons e (.cons v es)) ks xs := by
  obtain ⟨k, ks, x, xs, rfl, rfl, g1, g2, g3⟩ := okCons2_spec h
  clear h
  intro fz ρ st z st' A E' s μ env own pos hev hA F I
  obtain ⟨p, hp, hev⟩ := bindE hev
  obtain ⟨q, hq, e⟩ := mapE hev
  obtain ⟨q1, hq1, hq⟩ := bindE hq
  obtain ⟨r, hr, rfl⟩ := mapE hq
  obtain ⟨rfl, rfl⟩ := Prod.mk.inj e
  show wpAny _ _ (eval k env >>= fun kv => holding [kv] (eval x env >>= fun y => standAt pos >>= fun _ => pure y) >>= fun vv => holding [kv, vv] (evalPairs (pairTrees ks xs env pos)) >>= fun l => pure ((kv, vv) :: l)) _ _ s
  refine wpAny_bind (wpAny_mono (he.sE g1 hp hA F I) (fun u s1 h1 => ?_) fun _ _ e => e)
  obtain ⟨μ1, T1, I1, V1⟩ := h1
  refine wpAny_bind (wpAny_holding (wpAny_bind (wpAny_mono (hv.sE g2 hq1 hA (F.stp0 T1) I1) (fun y s2 h2 => wpAny_bind (wpAny_standAt (wpAny_pure ?_))) fun _ _ e => e)))
  obtain ⟨μ2, T2, I2, V2⟩ := h2
  refine wpAny_bind (wpAny_holding (wpAny_mono (hes.sK g3 hr hA ((F.stp0 T1).stp0 T2) I2) (fun l s3 h3 => wpAny_pure ?_) fun _ _ e => e))
  obtain ⟨μ3, T3, I3, V3⟩ := h3
  exact ⟨μ3, (T1.trans T2).trans T3, I3, VRs.cons ((V1.stp0 T2).stp0 T3) (VRs.cons (V2.stp0 T3) V3)⟩
theorem snd_cons {e es : E} (he : Snd prog w base cf n e) (hes : Snd prog w base cf n es) (hk2 : ∀ a b, es = .cons a b → Snd prog w base cf n a ∧ Snd prog w base cf n b) : Snd prog w base cf n (.cons e es) := by
  refine ⟨fun h => notFT h, fun h => notFT h, cons_TL he hes, cons_BL he hes, cons_L he hes, fun {ns ks xs} h => ?_, fun h => notFT h⟩
  cases es with
  | cons v es2 => exact cons_K he (hk2 v es2 rfl).1 (hk2 v es2 rfl).2 h
  | _ => exact notFT h

theorem snd_bop {isAnd : Bool} {es : E} (hes : Snd prog w base cf n es) : Snd prog w base cf n (.bop isAnd es) := by
  have T : ∀ {ns x}, chkT (.bop isAnd es) ns x = true → SemT prog w base cf n ns (.bop isAnd es) x := by
    intro ns x h
    have qq := okBop_spec h
    clear h
    obtain ⟨vs, pos, rfl, h⟩ := qq
    intro fz ρ st z st' A E' s μ env own hev _ hA F I
    exact wpAny_isTrue_BoolOp (hes.sTL h hev hA F I)
  refine ⟨?_, T, ?_, ?_, ?_, ?_, ?_⟩
  · intro ns x h
    have qq := okBop_spec h
    clear h
    obtain ⟨vs, pos, rfl, h⟩ := qq
    intro fz ρ st z st' A E' s μ env own hev hA F I
    rw [arm_eval_BoolOp]
    exact hes.sBL h hev hA F I
  · intro ns xs h; exact notFT h
  · intro ns xs h; exact notFT h
  · intro ns xs h; exact notFT h
  · intro ns ks xs h; exact notFT h
  · intro ns xs h
    have qq := okOne_spec h
    clear h
    obtain ⟨c, rfl, h⟩ := qq
    intro fz ρ st z st' A E' s μ env own hev hz hA F I
    exact wpAny_tests_one (T h hev hz hA F I)
end Mine
end
section
open PySem PySem.W PyProof.Rows
set_option linter.unusedVariables false
namespace Mine
variable {prog : Program} {w : World} {base : Heap} {mg mb : Str → Option Value} {cf : List Nat → Nat → List D → St → Option (D × St)} {n : Nat}
variable {A : Around} {E' : Value → Shared → Prop} {s : Shared} {μ : Mu} {st : St} {fz : List Nat} {env : Env} {ns : Nms} {own : List Addr} {ρ : Rho}

theorem sem_call {f : Nat} {args : E} {x : Str} {np : Pos} {a : Expr} {as : List Expr} {pos : Pos} (B : HB base mg mb) (hcf : CallOk prog w base mg n cf) (hargs : Snd prog w base cf n args)
    (h : (decide (fnNames[f]? = some x) && isG ns x && plainNm x) = true) (h4 : chkL args ns (a :: as) = true) : SemE prog w base cf n ns (.call f args) (.Call (.Name x np) (a :: as) [] pos) := by
  simp only [Bool.and_eq_true, decide_eq_true_eq] at h
  obtain ⟨⟨h1, h2⟩, h3⟩ := h
  intro fz ρ st z st' A E' s μ env own hev hA F I
  obtain ⟨p, hp, hev⟩ := Option.bind_eq_some_iff.mp hev
  obtain ⟨fa, o, fd, g1, g2, g3⟩ := B.fn f x h1
  refine Call_ (load_global B F I h2 h3 g1 (with_fn (chkL_star h4) g3 ?_))
  refine wpAny_mono (hargs.sL h4 hp hA F I) (fun vs s1 h1' => ?_) fun _ _ e => e
  obtain ⟨μ1, T1, I1, V1⟩ := h1'
  exact ⟨I1.keep _ _ g2, wpAny_mono (hcf hev h1 g1 hA I1 V1) (fun v s2 h2 => PE.from T1 h2) fun _ _ e => e⟩

theorem sem_blt {b : Blt} {args : E} {x : Str} {np : Pos} {a : Expr} {as : List Expr} {pos : Pos} (B : HB base mg mb) (hargs : Snd prog w base cf n args)
    (h : (decide (x = bltNm b) && isG ns x && plainNm x) = true) (h4 : chkL args ns (a :: as) = true) : SemE prog w base cf n ns (.blt b args) (.Call (.Name x np) (a :: as) [] pos) := by
  simp only [Bool.and_eq_true, decide_eq_true_eq] at h
  obtain ⟨⟨rfl, h2⟩, h3⟩ := h
  intro fz ρ st z st' A E' s μ env own hev hA F I
  obtain ⟨p, hp, hev⟩ := Option.bind_eq_some_iff.mp hev
  refine Call_ (load_blt B F I h2 h3 (B.blt b).1 (B.blt b).2 ?_)
  have go : wpAny (model prog w) A (spliced (backTo pos (starEach (a :: as) env))) (fun vs s' => wpAny (model prog w) A (call (bltV b) vs) (PE prog w base μ fz s st' z) E' s') E' s := by
    refine wpAny_mono (hargs.sL h4 hp hA F I) (fun vs s1 h1' => ?_) fun _ _ e => e
    obtain ⟨μ1, T1, I1, V1⟩ := h1'
    exact wpAny_mono (op_blt hA I1 B.two V1 hev) (fun v s2 h2 => PE.from T1 h2) fun _ _ e => e
  have st := chkL_star h4
  cases b with
  | len => exact with_builtin (id := "len") (first := []) st go
  | abs => exact with_builtin (id := "abs") (first := []) st go
  | sum => exact with_builtin (id := "sum") (first := []) st go
  | max => exact with_builtin (id := "max") (first := []) st go
  | any => exact with_builtin (id := "any") (first := []) st go
  | tuple => exact with_type (T := "tuple") st go
  | dict => exact with_type (T := "dict") st go
  | int => exact with_type (T := "int") st go

theorem isTrue_call {x : Expr} {as : List Expr} {kw : List Keyword} {pos : Pos} {Q : Bool → Shared → Prop} (h : wpAny (model prog w) A (eval (.Call x as kw pos) env) (fun v s' => wpAny (model prog w) A (truthy v) Q E' s') E' s) :
    wpAny (model prog w) A (PySem.isTrue (.Call x as kw pos) env (eval (.Call x as kw pos) env)) Q E' s := wpAny_isTrue_value h

theorem pe_bool' {st' : St} {b : Bool} {v : Value} {s1 : Shared} (h : PE prog w base μ fz s st' (.bool b) v s1) : v = .bool b := by
  obtain ⟨_, _, _, V⟩ := h; exact V

theorem snd_callLike {e : E} (hE : ∀ {ns x}, chkE e ns x = true → SemE prog w base cf n ns e x) (hT : ∀ {ns x}, chkT e ns x = true → chkE e ns x = true ∧ ∃ fe as kw pos, x = .Call fe as kw pos)
    (htl : ∀ {ns xs}, chkTL e ns xs = false) (hl : ∀ {ns xs}, chkL e ns xs = false) (hk : ∀ {ns ks xs}, chkK e ns ks xs = false) (hc : ∀ {ns xs}, chkC e ns xs = false) : Snd prog w base cf n e := by
  refine ⟨hE, fun {ns x} h => ?_, fun q => by rw [htl] at q; (cases q), fun q => by rw [hl] at q; (cases q), fun q => by rw [hl] at q; (cases q), fun q => by rw [hk] at q; (cases q), fun q => by rw [hc] at q; (cases q)⟩
  obtain ⟨h1, fe, as, kw, pos, rfl⟩ := hT h
  intro fz ρ st z st' A E' s μ env own hev hz hA F I
  obtain ⟨b, rfl⟩ := hz
  refine isTrue_call (wpAny_mono (hE h1 hev hA F I) (fun v s1 h1 => ?_) fun _ _ e => e)
  have := pe_bool' h1
  subst this
  exact wpAny_truthy_bool ⟨rfl, h1⟩

theorem snd_call {f : Nat} {args : E} (B : HB base mg mb) (hcf : CallOk prog w base mg n cf) (hargs : Snd prog w base cf n args) : Snd prog w base cf n (.call f args) := by
  refine snd_callLike (fun {ns x} h => ?_) (fun {ns x} h => ?_) ?_ ?_ ?_ ?_
  · obtain ⟨y, np, a, as, pos, rfl, hq, hf⟩ := okCall_spec h
    exact sem_call B hcf hargs hq hf
  · obtain ⟨y, np, a, as, pos, e, _⟩ := okCall_spec h
    exact ⟨h, _, _, _, _, e⟩
  all_goals (intros; rfl)

theorem snd_blt {b : Blt} {args : E} (B : HB base mg mb) (hargs : Snd prog w base cf n args) : Snd prog w base cf n (.blt b args) := by
  refine snd_callLike (fun {ns x} h => ?_) (fun {ns x} h => ?_) ?_ ?_ ?_ ?_
  · obtain ⟨y, np, a, as, pos, rfl, hq, hf⟩ := okCall_spec h
    exact sem_blt B hargs hq hf
  · obtain ⟨y, np, a, as, pos, e, _⟩ := okCall_spec h
    exact ⟨h, _, _, _, _, e⟩
  all_goals (intros; rfl)

theorem fits_of {m : Meth} {o : D} (h : fitsM m o st = true) : methFits m st o := by
  obtain ⟨u, hu⟩ := Option.isSome_iff_exists.mp h
  obtain ⟨r, rfl, h1⟩ := dObj_s hu
  rcases m with _ | _ | _
  · obtain ⟨xs, e, _⟩ := cLst_s (f := fun _ => some ()) h1; exact ⟨xs, e⟩
  · obtain ⟨es, e, _⟩ := cDic_s (f := fun _ => some ()) h1; exact ⟨es, e⟩
  · obtain ⟨es, e, _⟩ := cDic_s (f := fun _ => some ()) h1; exact ⟨es, e⟩

theorem star_all {pos : Pos} {xs : List Expr} : xs.all notStar = true → (backTo pos (starEach xs env)).all (fun x => !x.1) = true := by
  induction xs with
  | nil =>
    intro _
    exact rfl
  | cons x xs ih =>
    intro h
    rw [List.all_cons, Bool.and_eq_true] at h
    rw [star_cons h.1]
    show (!false && (backTo pos (starEach xs env)).all (fun x => !x.1)) = true
    rw [ih h.2]; rfl

theorem snd_meth {m : Meth} {o args : E} (ho : Snd prog w base cf n o) (hargs : Snd prog w base cf n args) : Snd prog w base cf n (.meth m o args) := by
  refine Snd.ofE (fun {ns x} h => ?_) ?_ ?_ ?_ ?_ ?_
  · obtain ⟨oe, apos, a, as, pos, rfl, h1, h2, h3, h4, h5⟩ := okMeth_spec h
    intro fz ρ st z st' A E' s μ env own hev hA F I
    obtain ⟨p, hp, hev⟩ := Option.bind_eq_some_iff.mp hev
    obtain ⟨hfit, hev⟩ := iteO hev
    · obtain ⟨q, hq, hev⟩ := Option.bind_eq_some_iff.mp hev
      obtain ⟨p, st1⟩ := p
      have hbase : attributeBase oe (methName m) env (eval oe env) = eval oe env := by
        cases oe <;> first | rfl | (cases h5; done)
      have star := chkL_star h2
      rw [arm_eval_Call, hbase]
      refine wpAny_bind (wpAny_mono (ho.sE h1 hp hA F I) (fun ov s1 g1 => ?_) fun _ _ e => e)
      obtain ⟨μ1, T1, I1, V1⟩ := g1
      refine wpAny_bind (wpAny_standAt ?_)
      have hform : methodCallForm ((a :: as).length + ([] : List Keyword).length) (backTo pos (starEach (a :: as) env)) (backToKw pos (keywordEach [] env)) = true := by
        have e0 : backToKw pos (keywordEach [] env) = [] := rfl
        rw [e0]
        unfold methodCallForm
        rw [star_all star]
        simp; lia
      have hpos : methodCallPos true oe env apos pos = pure pos := by unfold methodCallPos; simp [h3]
      unfold methodCall
      rw [hform]
      refine wpAny_bind (wpAny_holding (show wpAny _ _ (getMethod ov (methName m) _) _ _ s1 from op_getMethod I1 V1 (fits_of hfit) ?_))
      refine wpAny_bind (wpAny_of_eq hpos ?_)
      refine with_builtin star (wpAny_mono (hargs.sL h2 hq hA (F.stp0 T1) I1) (fun vs s2 g2 => ?_) fun _ _ e => e)
      obtain ⟨μ2, T2, I2, V2⟩ := g2
      exact wpAny_mono (op_meth hA I2 (V1.stp0 T2) V2 hev) (fun v s3 g3 => PE.from (T1.trans T2) g3) fun _ _ e => e
  all_goals (intros; first | rfl | (unfold chkT; rfl))
end Mine
end
section
open PySem PySem.W PyProof.Rows
set_option linter.unusedVariables false
namespace Mine
variable {prog : Program} {w : World} {base : Heap} {mg mb : Str → Option Value} {cf : List Nat → Nat → List D → St → Option (D × St)} {n : Nat}
variable {A : Around} {E' : Value → Shared → Prop} {s : Shared} {μ : Mu} {st : St} {fz : List Nat} {env : Env} {ns : Nms} {own : List Addr} {ρ : Rho}

theorem snd_idx {a b : E} (ha : Snd prog w base cf n a) (hb : Snd prog w base cf n b) : Snd prog w base cf n (.idx a b) := by
  refine Snd.ofE (fun {ns x} h => ?_) ?_ ?_ ?_ ?_ ?_
  · obtain ⟨v, sx, pos, rfl, g1, g2⟩ := okIdx_spec h
    intro fz ρ st z st' A E' s μ env own hev hA F I
    obtain ⟨p, hp, hev⟩ := Option.bind_eq_some_iff.mp hev
    obtain ⟨q, hq, hev⟩ := Option.bind_eq_some_iff.mp hev
    obtain ⟨d, hd, e⟩ := Option.map_eq_some_iff.mp hev
    obtain ⟨rfl, rfl⟩ := Prod.mk.inj e
    exact Subscript_ (two_sem (ha.sE g1) (hb.sE g2) hp hq hA F I fun μ2 s2 u v T I2 V1 V2 => wpAny_mono (op_sub hA I2 V1 V2 hd) (fun _ _ r => PE.from T r) fun _ _ e => e)
  all_goals (intros; first | rfl | (unfold chkT; rfl))

theorem PE.keep2 {μ1 : Mu} {s1 : Shared} {st' : St} {d : D} {v : Value} {h' : Heap} {tk : Nat} (T : Stp NoW fz μ s μ1 s1) (I : SI prog w base μ1 st' s1.heap) (hk : ∀ b o, s1.heap.get? b = some o → h'.get? b = some o) (x : VR μ1 h' d v) :
    PE prog w base μ fz s st' d v { s1 with heap := h', toks := tk } := PE.from T (PE.keeps I hk x)

theorem VRs.reverse {h : Heap} : ∀ {ds : List D} {vs : List Value}, VRs μ h ds vs → VRs μ h ds.reverse vs.reverse
  | [], _, e => by subst e; exact VRs.nil
  | d :: ds, _, e => by
    obtain ⟨v, r, rfl, e1, e2⟩ := e
    rw [List.reverse_cons, List.reverse_cons]
    exact e2.reverse.append (VRs.cons e1 VRs.nil)
theorem VRs.take {h : Heap} : ∀ (m : Nat) {ds : List D} {vs : List Value}, VRs μ h ds vs → VRs μ h (ds.take m) (vs.take m)
  | 0, _, _, _ => VRs.nil
  | m + 1, [], _, e => by subst e; exact VRs.nil
  | m + 1, d :: ds, _, e => by
    obtain ⟨v, r, rfl, e1, e2⟩ := e
    exact VRs.cons e1 (e2.take m)

theorem snd_rev {a : E} (ha : Snd prog w base cf n a) : Snd prog w base cf n (.rev a) := by
  refine Snd.ofE (fun {ns x} h => ?_) ?_ ?_ ?_ ?_ ?_
  · obtain ⟨v, sl, pos, rfl, h1, h2⟩ := okIdx_spec h
    obtain ⟨k, p3, p2, p, rfl⟩ := okRevS_spec h2
    intro fz ρ st z st' A E' s μ env own hev hA F I
    obtain ⟨q, hq, hev⟩ := Option.bind_eq_some_iff.mp hev
    obtain ⟨q, st1⟩ := q
    obtain ⟨xs, e, hev⟩ := dTup_s hev
    obtain rfl : q = .tup xs := e
    · obtain ⟨hl, rfl, rfl⟩ := iteP hev
      · skip
        refine Subscript_ (wpAny_mono (ha.sE h1 hq hA F I) (fun o s1 g1 => ?_) fun _ _ e => e)
        obtain ⟨μ1, T1, I1, V1⟩ := g1
        refine wpAny_Slice ?_
        rw [evalPart_none, evalPart_some]
        refine wpAny_pure (wpAny_pure (wpAny_UnaryOp (wpAny_Constant_int (PyProof.Rows.neg_int ?_))))
        obtain ⟨ta, vs, rfl, tn, t1, v1⟩ := V1
        obtain ⟨ops, hops⟩ := subscripted_ops (slice := .Slice none none (some (.UnaryOp .USub (.Constant (.int 1) k p3) p2)) p) (o := .ref ta) (i := .ref s1.heap.objs.size)
        have t2 := t1.push { cls := .type "slice", data := .fields #[.none, .none, .int (-1) (s1.toks + 1)] }
        refine tail_any (s := { s1 with heap := s1.heap.push { cls := .type "slice", data := .fields #[.none, .none, .int (-1) (s1.toks + 1)] }, toks := s1.toks + 1 + 1 }) t2.typeIs PyProof.Rows.slot_tuple_getitem.lookup
          (getItem_tuple_rev (vs := vs) t2 (Heap.IsSliceOf.new ..) ?_ (by rw [v1.length]; exact lim_le hl)) hops
        have kk : ∀ b x, s1.heap.get? b = some x → ((s1.heap.push { cls := .type "slice", data := .fields #[.none, .none, .int (-1) (s1.toks + 1)] })).get? b = some x := push_keeps
        have I2 : SI prog w base μ1 st1 (s1.heap.push { cls := .type "slice", data := .fields #[.none, .none, .int (-1) (s1.toks + 1)] }) := I1.keeps kk
        refine PE.keep2 (s1 := s1) T1 I1 (fun b o e => push_keeps _ _ (kk b o e)) (VR.newTup (size_notMem (s := { s1 with heap := s1.heap.push { cls := .type "slice", data := .fields #[.none, .none, .int (-1) (s1.toks + 1)] } }) I2) (VRs.reverse (v1.keeps kk)))
  all_goals (intros; first | rfl | (unfold chkT; rfl))

theorem snd_head {a : E} {m : Nat} (ha : Snd prog w base cf n a) : Snd prog w base cf n (.head a m) := by
  refine Snd.ofE (fun {ns x} h => ?_) ?_ ?_ ?_ ?_ ?_
  · obtain ⟨v, sl, pos, rfl, h1, h2⟩ := okIdx_spec h
    obtain ⟨k, p3, p, rfl⟩ := okHeadS_spec h2
    intro fz ρ st z st' A E' s μ env own hev hA F I
    obtain ⟨q, hq, hev⟩ := Option.bind_eq_some_iff.mp hev
    obtain ⟨q, st1⟩ := q
    obtain ⟨xs, e, hev⟩ := dIls_s hev
    obtain rfl : q = .ilst xs := e
    · obtain ⟨hl, rfl, rfl⟩ := iteP hev
      · skip
        refine Subscript_ (wpAny_mono (ha.sE h1 hq hA F I) (fun o s1 g1 => ?_) fun _ _ e => e)
        obtain ⟨μ1, T1, I1, V1⟩ := g1
        refine wpAny_Slice ?_
        rw [evalPart_none, evalPart_some]
        refine wpAny_pure (wpAny_Constant_int (wpAny_pure ?_))
        obtain ⟨ta, vs, rfl, tn, t1, v1⟩ := V1
        obtain ⟨ops, hops⟩ := subscripted_ops (slice := .Slice none (some (.Constant (.int (m : Int)) k p3)) none p) (o := .ref ta) (i := .ref s1.heap.objs.size)
        have t2 := t1.push { cls := .type "slice", data := .fields #[.none, .int (m : Int) s1.toks, .none] }
        have kk : ∀ b x, s1.heap.get? b = some x → ((s1.heap.push { cls := .type "slice", data := .fields #[.none, .int (m : Int) s1.toks, .none] })).get? b = some x := push_keeps
        have I2 : SI prog w base μ1 st1 (s1.heap.push { cls := .type "slice", data := .fields #[.none, .int (m : Int) s1.toks, .none] }) := I1.keeps kk
        refine tail_any (s := { s1 with heap := s1.heap.push { cls := .type "slice", data := .fields #[.none, .int (m : Int) s1.toks, .none] }, toks := s1.toks + 1 }) t2.typeIs PySem.slot_list_getitem.lookup
          (wpAny_getItem_list_slice t2 (Heap.IsSliceOf.new ..) .none (.int (m : Int) s1.toks) .none (by simp) ?_ (by rw [List.size_toArray, v1.length]; exact lim_le hl)) hops
        rw [slicePick_upto']
        refine PE.keep2 (s1 := s1) T1 I1 (fun b o e => push_keeps _ _ (kk b o e)) (VR.newLst (size_notMem (s := { s1 with heap := s1.heap.push { cls := .type "slice", data := .fields #[.none, .int (m : Int) s1.toks, .none] } }) I2) (VRs.take m (v1.keeps kk)))
  all_goals (intros; first | rfl | (unfold chkT; rfl))

theorem snd_tup {es : E} (hes : Snd prog w base cf n es) : Snd prog w base cf n (.tup es) := by
  refine Snd.ofE (fun {ns x} h => ?_) ?_ ?_ ?_ ?_ ?_
  · have qq := okTup_spec h
    clear h
    obtain ⟨xs, k, pos, rfl, h⟩ := qq
    intro fz ρ st z st' A E' s μ env own hev hA F I
    obtain ⟨q, hq, hev⟩ := Option.bind_eq_some_iff.mp hev
    obtain ⟨hl, rfl, rfl⟩ := iteP hev
    · skip
      refine wpAny_Tuple (wpAny_mono (hes.sL h hq hA F I) (fun vs s1 g1 => ?_) fun _ _ e => e)
      obtain ⟨μ1, T1, I1, V1⟩ := g1
      exact ⟨by rw [V1.length]; exact lim_le hl, PE.keep2 (tk := s1.toks) T1 I1 push_keeps (VR.newTup (size_notMem I1) V1)⟩
  all_goals (intros; first | rfl | (unfold chkT; rfl))

theorem snd_listI {es : E} (hes : Snd prog w base cf n es) : Snd prog w base cf n (.listI es) := by
  refine Snd.ofE (fun {ns x} h => ?_) ?_ ?_ ?_ ?_ ?_
  · have qq := okLst_spec h
    clear h
    obtain ⟨xs, pos, rfl, h⟩ := qq
    intro fz ρ st z st' A E' s μ env own hev hA F I
    obtain ⟨q, hq, hev⟩ := Option.bind_eq_some_iff.mp hev
    obtain ⟨hl, rfl, rfl⟩ := iteP hev
    · skip
      refine wpAny_List (wpAny_mono (hes.sL h hq hA F I) (fun vs s1 g1 => ?_) fun _ _ e => e)
      obtain ⟨μ1, T1, I1, V1⟩ := g1
      exact ⟨by rw [V1.length]; exact lim_le hl, PE.keep2 (tk := s1.toks) T1 I1 push_keeps (VR.newLst (size_notMem I1) V1)⟩
  all_goals (intros; first | rfl | (unfold chkT; rfl))

theorem big_of (two : ∃ o, base.get? 2 = some o) (I : SI prog w base μ st s.heap) : 1 < s.heap.objs.size := by
  obtain ⟨o2, ho2⟩ := two
  exact Nat.lt_of_lt_of_le (by decide) (Nat.le_of_lt (Heap.lt_size (I.keep 2 o2 ho2)))

theorem snd_listM {es : E} (B : HB base mg mb) (hes : Snd prog w base cf n es) : Snd prog w base cf n (.listM es) := by
  refine Snd.ofE (fun {ns x} h => ?_) ?_ ?_ ?_ ?_ ?_
  · have qq := okLst_spec h
    clear h
    obtain ⟨xs, pos, rfl, h⟩ := qq
    intro fz ρ st z st' A E' s μ env own hev hA F I
    obtain ⟨q, hq, hev⟩ := Option.bind_eq_some_iff.mp hev
    obtain ⟨hl, rfl, rfl⟩ := iteP hev
    · skip
      refine wpAny_List (wpAny_mono (hes.sL h hq hA F I) (fun vs s1 g1 => ?_) fun _ _ e => e)
      obtain ⟨μ1, T1, I1, V1⟩ := g1
      have fr : s1.heap.get? s1.heap.objs.size = none := fresh_none (Nat.le_refl _)
      refine ⟨by rw [V1.length]; exact lim_le hl, PE.from T1 (PE.new (k := s1.toks) I1 push_keeps fr (big_of B.two I1) ⟨vs, 0, Heap.get?_push_size _ rfl, ?_⟩)⟩
      exact V1.mono ⟨[_], rfl⟩ (fresh_pre fr) fun b o e _ _ => push_keeps _ _ e
  all_goals (intros; first | rfl | (unfold chkT; rfl))
end Mine
end
section
open PySem PySem.W PyProof.Rows
set_option linter.unusedVariables false
namespace Mine
variable {prog : Program} {w : World} {base : Heap} {mg mb : Str → Option Value} {cf : List Nat → Nat → List D → St → Option (D × St)} {n : Nat}
variable {A : Around} {E' : Value → Shared → Prop} {s : Shared} {μ : Mu} {st : St} {fz : List Nat} {env : Env} {ns : Nms} {own : List Addr} {ρ : Rho}

theorem dput_len {es : List (List Int × D)} {k : List Int} {v : D} : (dput es k v).length ≤ es.length + 1 := by
  unfold dput; split
  · rw [List.length_map]; lia
  · simp

theorem store_pairs {d : Addr} {Q : PUnit → Shared → Prop} (hA : AOk n A) (hd : ¬ μ.Has d) (hB : base.get? d = none) (ps : List (Value × Value)) : ∀ (zs : List D) (es es' : List (List Int × D)) (s : Shared), pairsD zs es = some es' → VRs μ s.heap zs (flatP ps) → SI prog w base μ st s.heap →
    CR prog w μ s.heap d (.dic es) → es.length + ps.length < lim → (∀ h' tk, Heap.SameBut d s.heap h' → SI prog w base μ st h' → CR prog w μ h' d (.dic es') → Q PUnit.unit { s with heap := h', toks := tk }) →
    wpAny (model prog w) A (PySem.storeAll d ps) Q E' s := by
  induction ps with
  | nil =>
    intro zs es es' s hp hV I hC _ h
    have : zs = [] := by have := hV.length; cases zs with | nil => rfl | cons _ _ => simp [flatP] at this
    subst this
    simp only [pairsD, Option.some.injEq] at hp
    subst hp
    unfold PySem.storeAll
    rw [List.forIn_nil]
    exact wpAny_pure (h s.heap s.toks (Heap.SameBut.refl ..) I hC)
  | cons X_ ps ih =>
    obtain ⟨kv, vv⟩ := X_
    intro zs es es' s hp hV I hC hl h
    obtain ⟨k, v, zs, rfl⟩ : ∃ k v zs', zs = k :: v :: zs' := by
      have := hV.length
      rcases zs with _ | ⟨k, _ | ⟨v, zs⟩⟩
      · simp [flatP] at this
      · simp [flatP] at this
      · exact ⟨k, v, zs, rfl⟩
    have hV : VRs μ s.heap (k :: v :: zs) (kv :: vv :: flatP ps) := hV
    obtain ⟨kv', r, e, V1, hV1⟩ := hV
    cases e
    obtain ⟨vv', r, e, V2, hV2⟩ := hV1
    cases e
    simp only [pairsD] at hp
    obtain ⟨ki, hki, hp⟩ := Option.bind_eq_some_iff.mp hp
    obtain ⟨kvs, hD, hμ, hR⟩ := hC
    obtain ⟨ka, rfl, hkn, hkey⟩ := V1.key (prog := prog) (w := w) hki
    unfold PySem.storeAll
    rw [List.forIn_cons]
    have hdC : ∀ o, s.heap.get? d = some o → ¬ isSeq o := fun o e => by
      obtain ⟨o', _, _, ho', _, hd', _⟩ := hD
      rw [e] at ho'; obtain rfl := Option.some.inj ho'; exact isDC.notSeq (.inl ⟨_, _, hd'⟩)
    refine wpAny_bind (wpAny_bind (wpAny_dictSet_heap (knd := tk prog w) (show (tk prog w).room A from hA.in0) hkey hD (fun h' hD' hs => ?_) (by rw [hR.length]; simp only [List.length_cons] at hl; exact lim_le (by lia))))
    refine wpAny_pure ?_
    have sq : ∀ b o, s.heap.get? b = some o → isSeq o → ¬ μ.Has b → h'.get? b = some o := fun b o e hq _ => (hs.2 b fun q => hdC o (q ▸ e) hq).trans e
    have I' : SI prog w base μ st h' := I.mono (fun b o e => (hs.2 b fun q => by rw [q, hB] at e; cases e).trans (I.keep b o e)) sq fun b hb => hs.2 b fun q => hd (q ▸ hb)
    have mv : ∀ {ds : List D} {vs : List Value}, VRs μ s.heap ds vs → VRs μ h' ds vs := fun x => x.mono (List.prefix_refl _) (fun _ h => .inl h) sq
    have hC' : CR prog w μ h' d (.dic (dput es ki v)) := by
      refine ⟨_, hD', fun x hx => ?_, ERs.put (hR.mono (List.prefix_refl _) (fun _ h => .inl h) sq) (V2.mono (List.prefix_refl _) (fun _ h => .inl h) sq)⟩
      rcases mem_storedH hx with ⟨y, hy, _, e⟩ | ⟨_, e⟩
      · rw [e]; exact hμ y hy
      · rw [e]; exact hkn
    have := dput_len (es := es) (k := ki) (v := v)
    simp only [List.length_cons] at hl
    refine ih zs _ es' _ hp (mv hV2) I' hC' (by lia) fun h'' tk2 hs2 I2 hC2 => ?_
    exact h h'' tk2 (hs.trans hs2) I2 hC2

inductive ChkKI (ns : Nms) : E → List (Option Expr) → List Expr → Prop
  | nil : ChkKI ns .nil [] []
  | cons {k v es : E} {x : Expr} {xs : List (Option Expr)} {y : Expr} {ys : List Expr} (h : chkK es ns xs ys = true) : ChkKI ns (.cons k (.cons v es)) (some x :: xs) (y :: ys)
theorem chkK_s {e : E} {ks : List (Option Expr)} {vs : List Expr} (h : chkK e ns ks vs = true) : ChkKI ns e ks vs := by
  cases e with
  | nil => obtain rfl := nil_s (andT h).1; obtain rfl := nil_s (andT h).2; exact .nil
  | cons a b => cases b with
    | cons c b => obtain ⟨x, xs, y, ys, rfl, rfl, _, _, g3⟩ := okCons2_spec h; exact .cons g3
    | _ => exact notFT h
  | _ => exact notFT h
theorem chkK_shape : ∀ {ks : List (Option Expr)} {vs : List Expr} {e : E}, chkK e ns ks vs = true → ks.all (·.isSome) = true ∧ ks.length = vs.length ∧ ∀ {cf : List Nat → Nat → List D → St → Option (D × St)} {fz ρ st z st'}, evL cf e fz ρ st = some (z, st') → z.length = 2 * ks.length := by
  intro ks
  induction ks with
  | nil =>
    intro vs e h
    cases chkK_s h with
    | nil => exact ⟨rfl, rfl, fun h => by obtain ⟨rfl, rfl⟩ := someP h; rfl⟩
  | cons k ks ih =>
    intro vs e h
    cases chkK_s h with
    | cons g3 =>
      obtain ⟨h1, h2, h3⟩ := ih g3
      refine ⟨by rw [List.all_cons, h1]; rfl, congrArg (· + 1) h2, fun {cf fz ρ st z st'} hev => ?_⟩
      obtain ⟨p, hp, hev1⟩ := bindE hev
      obtain ⟨q, hq, e⟩ := mapE hev1
      obtain ⟨q1, hq1, hq2⟩ := bindE hq
      obtain ⟨r, hr, e2⟩ := mapE hq2
      obtain rfl := e2
      obtain ⟨rfl, rfl⟩ := Prod.mk.inj e
      have := h3 hr
      simp only [List.length_cons, this]; lia

theorem snd_dict {kvs : E} (B : HB base mg mb) (hk : Snd prog w base cf n kvs) : Snd prog w base cf n (.dict kvs) := by
  refine Snd.ofE (fun {ns x} h => ?_) ?_ ?_ ?_ ?_ ?_
  · have qq := okDict_spec h
    clear h
    obtain ⟨ks, vs, pos, rfl, h⟩ := qq
    obtain ⟨g1, g2, g3⟩ := chkK_shape h
    intro fz ρ st z st' A E' s μ env own hev hA F I
    obtain ⟨q, hq, hev⟩ := Option.bind_eq_some_iff.mp hev
    obtain ⟨hl, hev⟩ := iteO hev
    · obtain ⟨es, hes, e⟩ := Option.map_eq_some_iff.mp hev
      obtain ⟨rfl, rfl⟩ := Prod.mk.inj e
      obtain ⟨zs, st1⟩ := q
      have hlen := g3 hq
      have fr : s.heap.get? s.heap.objs.size = none := fresh_none (Nat.le_refl _)
      have two := big_of B.two I
      by_cases h0 : ks = []
      · subst h0
        have hvs : vs = [] := List.length_eq_zero_iff.mp g2.symm
        subst hvs
        have hzs : zs = [] := List.length_eq_zero_iff.mp (by simpa using hlen)
        subst hzs
        simp only [pairsD, Option.some.injEq] at hes
        subst hes
        have hst : st1 = st := by
          cases chkK_s h with
          | nil => exact (someP hq).2.symm
        subst hst
        exact wpAny_Dict_empty (PE.new (k := s.toks) I push_keeps fr two ⟨[], ⟨_, #[], 0, Heap.get?_push_size _ rfl, ⟨rfl, rfl, rfl⟩, rfl, rfl, fun _ h => (by cases h), List.nodup_nil⟩, fun _ h => (by cases h), by unfold ERs; rfl⟩)
      · have hd : ¬ μ.Has s.heap.objs.size := size_notMem I
        have hdB : base.get? s.heap.objs.size = none := by
          cases e : base.get? s.heap.objs.size with
          | none => rfl
          | some o => rw [I.keep _ _ e] at fr; cases fr
        have hself : (s.heap.push { cls := .type "dict", data := .dict #[] }).get? s.heap.objs.size = some { cls := .type "dict", data := .dict #[] } := Heap.get?_push_size _ rfl
        have T0 : Stp NoW fz μ s μ { s with heap := s.heap.push { cls := .type "dict", data := .dict #[] } } := Stp.ofKeep push_keeps I.alive
        have hkl : ks.length ≤ 15 := by simp only at hl; lia
        refine wpAny_Dict_any g1 g2 h0 hkl (wpAny_mono (hk.sK h hq hA (F.stp0 T0) (I.keeps push_keeps)) (fun ps s1 g => ?_) fun _ _ e => e)
        obtain ⟨μ1, T1, I1, V1⟩ := g
        have ho1 := T1.keep _ _ hself hd fun q => q
        have hd1 : ¬ μ1.Has s.heap.objs.size := fun q => by
          rcases T1.fresh _ q with q | q
          · exact hd q
          · rw [hself] at q; cases q
        have hps : ps.length = ks.length := by
          have := V1.length
          have e : (flatP ps).length = 2 * ps.length := by
            clear this V1
            induction ps with
            | nil => rfl
            | cons p ps ih => show (p.1 :: p.2 :: flatP ps).length = _; simp only [List.length_cons, ih]; lia
          lia
        refine store_pairs hA hd1 hdB ps zs [] es s1 hes V1 I1 ⟨[], ⟨_, #[], 0, ho1, ⟨rfl, rfl, rfl⟩, rfl, rfl, fun _ h => (by cases h), List.nodup_nil⟩, fun _ h => (by cases h), by unfold ERs; rfl⟩ (by rw [hps]; simp only [List.length_nil]; show _ < 100000; lia) fun h' tk hs I2 hC2 => ?_
        have T2 : Stp NoW fz μ s μ1 { s1 with heap := h', toks := tk } := (T0.trans T1).tail (wr := [s.heap.objs.size]) (fun b o hb e => (hs.2 b fun q => hb (by simp [q])).trans e) (fun b hb => by rw [List.mem_singleton] at hb; rw [hb]; exact fr) I.alive
        obtain ⟨T3, I3, V3⟩ := adopt T2 I2 hC2 hd1 fr two hdB fun o e => by
          obtain ⟨kvs', ⟨o', _, _, ho', _, hd', _⟩, _⟩ := hC2
          have e : h'.get? s.heap.objs.size = some o := e
          rw [e] at ho'; obtain rfl := Option.some.inj ho'; exact isDC.notSeq (.inl ⟨_, _, hd'⟩)
        exact ⟨_, T3, I3, V3⟩
  all_goals (intros; first | rfl | (unfold chkT; rfl))

theorem comp_fin {C : Addr} {μ5 : Mu} {s5 : Shared} {m : Str → Option Value} {v : Value} {z : D} {st' : St} {h' : Heap} {k : Nat} (T : Stp NoW fz μ s μ5 s5) (I5 : SI prog w base μ5 st' s5.heap) (V : VR μ5 s5.heap z v) (hm : s5.heap.Ns C m) (hC : ¬ μ5.Has C) (hs : s.heap.get? C = none) (hB : base.get? C = none)
    (I : SI prog w base μ st s.heap) (h : Heap.SameBut C s5.heap h') : PE prog w base μ fz s st' z v { s5 with heap := h', toks := k } := by
  have hCn : ∀ o, s5.heap.get? C = some o → ¬ isSeq o := fun o e => by
    obtain ⟨o', es, ep, ho', hd, _⟩ := hm
    rw [e] at ho'; obtain rfl := Option.some.inj ho'; exact isDC.notSeq (.inl ⟨_, _, hd⟩)
  have sq : ∀ b o, s5.heap.get? b = some o → isSeq o → ¬ μ5.Has b → h'.get? b = some o := fun b o e hq _ => (h.2 b fun q => hCn o (q ▸ e) hq).trans e
  refine ⟨μ5, T.tail (wr := [C]) (fun b o hb e => (h.2 b fun q => hb (by simp [q])).trans e) (fun b hb => by rw [List.mem_singleton] at hb; rw [hb]; exact hs) I.alive, ?_, V.mono (List.prefix_refl _) (fun _ h => .inl h) sq⟩
  exact I5.mono (fun b o e => (h.2 b fun q => by rw [q, hB] at e; cases e).trans (I5.keep b o e)) sq fun b hb => h.2 b fun q => hC (q ▸ hb)

theorem compQ_none {z : D} {st' : St} (I : SI prog w base μ st s.heap) : CompQ prog w base A E' none (PE prog w base μ fz s st' z) μ fz s st' z :=
  fun C μ5 s5 m v T I5 V hm hC hs hB => ⟨m, hm, fun h' hh => comp_fin (k := s5.toks) T I5 V hm hC hs hB I hh⟩

theorem src_of {k : SK} {src : E} {it : Expr} (B : HB base mg mb) (hsrc : Snd prog w base cf n src) (h : srcB ns k it (chkE src ns) = true) : SemS prog w base cf n ns k src it := semS_of B h fun _ => hsrc.sE

inductive LcI (ns : Nms) (imps : List (Option Nat)) (tgt : List Nat) (k : SK) (src cond elt : E) : Expr → Prop
  | mk (elt' t it : Expr) (ifs : List Expr) (sc : Scope) (pos : Pos) (h1 : scOk imps ns sc = true) (h2 : tgtOk sc.names t tgt = true) (h3 : skTgt k t = true) (h4 : srcB ns k it (chkE src ns) = true) (h5 : notSet it = true) (h6 : chkC cond sc.names ifs = true) (h7 : chkE elt sc.names elt' = true) :
    LcI ns imps tgt k src cond elt (.ListComp elt' [⟨t, it, ifs, 0⟩] sc pos)
inductive DcI (ns : Nms) (imps : List (Option Nat)) (tgt : List Nat) (k : SK) (src cond key val : E) : Expr → Prop
  | mk (kx vx t it : Expr) (ifs : List Expr) (sc : Scope) (pos : Pos) (h1 : scOk imps ns sc = true) (h2 : tgtOk sc.names t tgt = true) (h3 : skTgt k t = true) (h4 : srcB ns k it (chkE src ns) = true) (h5 : notSet it = true) (h6 : chkC cond sc.names ifs = true) (h7 : chkE key sc.names kx = true) (h8 : chkE val sc.names vx = true) :
    DcI ns imps tgt k src cond key val (.DictComp kx vx [⟨t, it, ifs, 0⟩] sc pos)
inductive Lc2I (ns : Nms) (imps : List (Option Nat)) (tgt : List Nat) (k : SK) (src : E) (tgt2 : List Nat) (k2 : SK) (src2 elt : E) : Expr → Prop
  | mk (elt' t it t2 it2 : Expr) (sc : Scope) (pos : Pos) (h1 : scOk imps ns sc = true) (h2 : tgtOk sc.names t tgt = true) (h3 : skTgt k t = true) (h4 : srcB ns k it (chkE src ns) = true) (h5 : notSet it = true) (h6 : (tgt.all fun i => !tgt2.contains i) = true) (h7 : tgtOk sc.names t2 tgt2 = true) (h8 : skTgt k2 t2 = true)
    (h9 : srcB sc.names k2 it2 (chkE src2 sc.names) = true) (h10 : notSet it2 = true) (h11 : chkE elt sc.names elt' = true) : Lc2I ns imps tgt k src tgt2 k2 src2 elt (.ListComp elt' [⟨t, it, [], 0⟩, ⟨t2, it2, [], 0⟩] sc pos)
theorem chk_lcomp {imps : List (Option Nat)} {tgt : List Nat} {k : SK} {src cond elt : E} {x : Expr} (h : chkE (.lcomp imps tgt k src cond elt) ns x = true) : LcI ns imps tgt k src cond elt x := by
  obtain ⟨elt', gens, sc, pos, rfl, h0⟩ := okLc_spec h
  clear h
  obtain ⟨t, it, ifs, rfl, h⟩ := okGen_spec h0
  clear h0
  have a7 := andT h
  have a6 := andT a7.1
  have a5 := andT a6.1
  have a4 := andT a5.1
  have a3 := andT a4.1
  have a2 := andT a3.1
  exact .mk _ _ _ _ _ _ a2.1 a2.2 a3.2 a4.2 a5.2 a6.2 a7.2
theorem chk_dcomp {imps : List (Option Nat)} {tgt : List Nat} {k : SK} {src cond key val : E} {x : Expr} (h : chkE (.dcomp imps tgt k src cond key val) ns x = true) : DcI ns imps tgt k src cond key val x := by
  obtain ⟨kx, vx, gens, sc, pos, rfl, h0⟩ := okDc_spec h
  clear h
  obtain ⟨t, it, ifs, rfl, h⟩ := okGen_spec h0
  clear h0
  have a8 := andT h
  have a7 := andT a8.1
  have a6 := andT a7.1
  have a5 := andT a6.1
  have a4 := andT a5.1
  have a3 := andT a4.1
  have a2 := andT a3.1
  exact .mk _ _ _ _ _ _ _ a2.1 a2.2 a3.2 a4.2 a5.2 a6.2 a7.2 a8.2
theorem chk_lcomp2 {imps : List (Option Nat)} {tgt tgt2 : List Nat} {k k2 : SK} {src src2 elt : E} {x : Expr} (h : chkE (.lcomp2 imps tgt k src tgt2 k2 src2 elt) ns x = true) : Lc2I ns imps tgt k src tgt2 k2 src2 elt x := by
  obtain ⟨elt', gens, sc, pos, rfl, h0⟩ := okLc_spec h
  clear h
  obtain ⟨t, it, t2, it2, rfl, h⟩ := okGen2_spec h0
  clear h0
  have a11 := andT h
  have a10 := andT a11.1
  have a9 := andT a10.1
  have a8 := andT a9.1
  have a7 := andT a8.1
  have a6 := andT a7.1
  have a5 := andT a6.1
  have a4 := andT a5.1
  have a3 := andT a4.1
  have a2 := andT a3.1
  exact .mk _ _ _ _ _ _ _ a2.1 a2.2 a3.2 a4.2 a5.2 a6.2 a7.2 a8.2 a9.2 a10.2 a11.2

theorem snd_lcomp {imps : List (Option Nat)} {tgt : List Nat} {k : SK} {src cond elt : E} (B : HB base mg mb) (hs : Snd prog w base cf n src) (hc : Snd prog w base cf n cond) (he : Snd prog w base cf n elt) : Snd prog w base cf n (.lcomp imps tgt k src cond elt) := by
  refine Snd.ofE (fun {ns x} h => ?_) ?_ ?_ ?_ ?_ ?_
  · obtain ⟨elt', t, it, ifs, sc, pos, h1, h2, h3, h4, h5, h6, h7⟩ := chk_lcomp h
    intro fz ρ st z st' A E' s μ env own hev hA F I
    rw [eval_ListComp]
    exact lcomp_run B.two h1 h2 h3 h5 (src_of B hs h4) (hc.sC h6) (he.sE h7) hev hA F I (compQ_none I)
  all_goals (intros; first | rfl | (unfold chkT; rfl))
theorem snd_lcomp2 {imps : List (Option Nat)} {tgt tgt2 : List Nat} {k k2 : SK} {src src2 elt : E} (B : HB base mg mb) (hs : Snd prog w base cf n src) (hs2 : Snd prog w base cf n src2) (he : Snd prog w base cf n elt) : Snd prog w base cf n (.lcomp2 imps tgt k src tgt2 k2 src2 elt) := by
  refine Snd.ofE (fun {ns x} h => ?_) ?_ ?_ ?_ ?_ ?_
  · obtain ⟨elt', t, it, t2, it2, sc, pos, h1, h2, h3, h4, h5, h6, h7, h8, h9, h10, h11⟩ := chk_lcomp2 h
    intro fz ρ st z st' A E' s μ env own hev hA F I
    rw [eval_ListComp]
    exact lcomp2_run B.two h1 h2 h3 h5 h6 h7 h8 h10 (src_of B hs h4) (src_of B hs2 h9) (he.sE h11) hev hA F I (compQ_none I)
  all_goals (intros; first | rfl | (unfold chkT; rfl))
theorem snd_dcomp {imps : List (Option Nat)} {tgt : List Nat} {k : SK} {src cond key val : E} (B : HB base mg mb) (hs : Snd prog w base cf n src) (hc : Snd prog w base cf n cond) (hk : Snd prog w base cf n key) (hv : Snd prog w base cf n val) : Snd prog w base cf n (.dcomp imps tgt k src cond key val) := by
  refine Snd.ofE (fun {ns x} h => ?_) ?_ ?_ ?_ ?_ ?_
  · obtain ⟨kx, vx, t, it, ifs, sc, pos, h1, h2, h3, h4, h5, h6, h7, h8⟩ := chk_dcomp h
    intro fz ρ st z st' A E' s μ env own hev hA F I
    rw [arm_eval_DictComp]
    exact dcomp_run B.two h1 h2 h3 h5 (src_of B hs h4) (hc.sC h6) (hk.sE h7) (hv.sE h8) hev hA F I (compQ_none I)
  all_goals (intros; first | rfl | (unfold chkT; rfl))

noncomputable def SndC (prog : Program) (w : World) (base : Heap) (cf : List Nat → Nat → List D → St → Option (D × St)) (n : Nat) (e : E) : Prop := ∀ a b, e = .cons a b → Snd prog w base cf n a ∧ Snd prog w base cf n b
theorem noC {e : E} {k : Nat} (h : e.ctorIdx = k + 2) : SndC prog w base cf n e := fun _ _ q => Nat.noConfusion (Nat.succ.inj (h.symm.trans (congrArg E.ctorIdx q)))
theorem snd_all (B : HB base mg mb) (hcf : CallOk prog w base mg n cf) : ∀ e : E, Snd prog w base cf n e ∧ SndC prog w base cf n e := by
  intro e
  induction e with
  | nil => exact ⟨snd_nil, fun _ _ e => nomatch e⟩
  | cons e es h1 h2 => exact ⟨snd_cons h1.1 h2.1 h2.2, fun a b q => by cases q; exact ⟨h1.1, h2.1⟩⟩
  | bad => exact ⟨snd_bad, noC rfl⟩
  | var i => exact ⟨snd_var, noC rfl⟩
  | cst d => exact ⟨snd_cst, noC rfl⟩
  | glob g => exact ⟨snd_glob B, noC rfl⟩
  | bin op a b ha hb => exact ⟨snd_bin ha.1 hb.1, noC rfl⟩
  | neg a ha => exact ⟨snd_neg ha.1, noC rfl⟩
  | cmp op a b ha hb => exact ⟨snd_cmp ha.1 hb.1, noC rfl⟩
  | cmp2 o1 o2 a b c ha hb hc => exact ⟨snd_cmp2 ha.1 hb.1 hc.1, noC rfl⟩
  | bop isAnd es h => exact ⟨snd_bop h.1, noC rfl⟩
  | ite t a b ht ha hb => exact ⟨snd_ite ht.1 ha.1 hb.1, noC rfl⟩
  | call f args h => exact ⟨snd_call B hcf h.1, noC rfl⟩
  | blt b args h => exact ⟨snd_blt B h.1, noC rfl⟩
  | meth m o args ho h => exact ⟨snd_meth ho.1 h.1, noC rfl⟩
  | idx a b ha hb => exact ⟨snd_idx ha.1 hb.1, noC rfl⟩
  | rev a ha => exact ⟨snd_rev ha.1, noC rfl⟩
  | head a k ha => exact ⟨snd_head ha.1, noC rfl⟩
  | tup es h => exact ⟨snd_tup h.1, noC rfl⟩
  | listM es h => exact ⟨snd_listM B h.1, noC rfl⟩
  | listI es h => exact ⟨snd_listI h.1, noC rfl⟩
  | dict kvs h => exact ⟨snd_dict B h.1, noC rfl⟩
  | lcomp imps tgt k src cond elt hs hc he => exact ⟨snd_lcomp B hs.1 hc.1 he.1, noC rfl⟩
  | lcomp2 imps tgt k src tgt2 k2 src2 elt hs hs2 he => exact ⟨snd_lcomp2 B hs.1 hs2.1 he.1, noC rfl⟩
  | dcomp imps tgt k src cond key val hs hc hk hv => exact ⟨snd_dcomp B hs.1 hc.1 hk.1 hv.1, noC rfl⟩
end Mine
end
section
open PySem PySem.W PyProof.Rows
set_option linter.unusedVariables false
namespace Mine
variable {prog : Program} {w : World} {base : Heap} {mg mb : Str → Option Value} {cf : List Nat → Nat → List D → St → Option (D × St)} {n : Nat}
variable {A : Around} {E' : Value → Shared → Prop} {s : Shared} {μ : Mu} {st : St} {fz : List Nat} {env : Env} {ns : Nms} {own : List Addr} {ρ : Rho}

noncomputable def flR (μ : Mu) (h : Heap) : Fl → Flow → Prop
  | .next, .next => True
  | .cont, .cont => True
  | .ret d, .ret v => VR μ h d v
  | _, _ => False

theorem flR_next {h : Heap} {f : Flow} (R : flR μ h .next f) : f = .next := by cases f <;> first | rfl | exact R.elim
theorem flR_cont {h : Heap} {f : Flow} (R : flR μ h .cont f) : f = .cont := by cases f <;> first | rfl | exact R.elim
theorem flR_ret {h : Heap} {d : D} {f : Flow} (R : flR μ h (.ret d) f) : ∃ v, f = .ret v ∧ VR μ h d v := by cases f <;> first | exact ⟨_, rfl, R⟩ | exact R.elim
inductive PS (prog : Program) (w : World) (base : Heap) (env : Env) (ns : Nms) (own : List Addr) (μ : Mu) (fz : List Nat) (s : Shared) (fl : Fl) (ρ' : Rho) (st' : St) (f : Flow) (s' : Shared) : Prop
  | mk (μ' : Mu) (T : Stp (Own own) fz μ s μ' s') (I : SI prog w base μ' st' s'.heap) (F : FR base env ns own μ' ρ' s'.heap) (R : flR μ' s'.heap fl f) : PS prog w base env ns own μ fz s fl ρ' st' f s'

theorem PS.from {μ1 : Mu} {s1 s2 : Shared} {fl : Fl} {ρ' : Rho} {st' : St} {f : Flow} (T : Stp (Own own) fz μ s μ1 s1) (h : PS prog w base env ns own μ1 fz s1 fl ρ' st' f s2) : PS prog w base env ns own μ fz s fl ρ' st' f s2 := by
  obtain ⟨μ', T', r1, r2, r3⟩ := h
  exact ⟨μ', T.trans T', r1, r2, r3⟩
theorem PS.less {fz' : List Nat} {s2 : Shared} {fl : Fl} {ρ' : Rho} {st' : St} {f : Flow} (hf : ∀ r ∈ fz, r ∈ fz') (h : PS prog w base env ns own μ fz' s fl ρ' st' f s2) : PS prog w base env ns own μ fz s fl ρ' st' f s2 := by
  obtain ⟨μ', T', r1, r2, r3⟩ := h
  exact ⟨μ', T'.less hf, r1, r2, r3⟩

noncomputable def SemSt (prog : Program) (w : World) (base : Heap) (cf : List Nat → Nat → List D → St → Option (D × St)) (n : Nat) (names : Nms) (t : S) (x : Stmt) : Prop :=
  ∀ {fz : List Nat} {ρ : Rho} {st : St} {fl : Fl} {ρ' : Rho} {st' : St} {A : Around} {E' : Value → Shared → Prop} {s : Shared} {μ : Mu} {env : Env} {own : List Addr}, exS cf t fz ρ st = some (fl, ρ', st') → AOk n A → FR base env names own μ ρ s.heap →
    SI prog w base μ st s.heap → wpAny (model prog w) A (exec x env) (PS prog w base env names own μ fz s fl ρ' st') E' s
noncomputable def SemSs (prog : Program) (w : World) (base : Heap) (cf : List Nat → Nat → List D → St → Option (D × St)) (n : Nat) (names : Nms) (t : S) (xs : List Stmt) : Prop :=
  ∀ {fz : List Nat} {ρ : Rho} {st : St} {fl : Fl} {ρ' : Rho} {st' : St} {A : Around} {E' : Value → Shared → Prop} {s : Shared} {μ : Mu} {env : Env} {own : List Addr}, exS cf t fz ρ st = some (fl, ρ', st') → AOk n A → FR base env names own μ ρ s.heap →
    SI prog w base μ st s.heap → wpAny (model prog w) A (execs xs env) (PS prog w base env names own μ fz s fl ρ' st') E' s

structure SndS (prog : Program) (w : World) (base : Heap) (cf : List Nat → Nat → List D → St → Option (D × St)) (n : Nat) (t : S) : Prop where
  one : ∀ {ns x}, chkSt t ns x = true → SemSt prog w base cf n ns t x
  all : ∀ {ns xs}, chkSs t ns xs = true → SemSs prog w base cf n ns t xs

theorem SndS.ofOne {t : S} (h : ∀ {ns x}, chkSt t ns x = true → SemSt prog w base cf n ns t x) (h2 : ∀ {ns xs}, chkSs t ns xs = false) : SndS prog w base cf n t :=
  ⟨h, fun q => by rw [h2] at q; (cases q)⟩

theorem sndS_bad : SndS prog w base cf n .bad := by
  refine ⟨fun {ns x} _ => ?_, fun {ns xs} _ => ?_⟩
  · intro fz ρ st fl ρ' st' A E' s μ env own hev; exact none_ne hev
  · intro fz ρ st fl ρ' st' A E' s μ env own hev; exact none_ne hev
theorem sndS_raise : SndS prog w base cf n .raise := by
  refine SndS.ofOne (fun {ns x} _ => ?_) (by intros; rfl)
  intro fz ρ st fl ρ' st' A E' s μ env own hev; exact none_ne hev

theorem sndS_nil : SndS prog w base cf n .nil := by
  refine ⟨fun {ns x} h => ?_, fun {ns xs} h => ?_⟩
  · exact notFT h
  · have h := empty_spec h
    subst h
    intro fz ρ st fl ρ' st' A E' s μ env own hev hA F I
    obtain ⟨rfl, rfl, rfl⟩ := some3 hev
    exact wpAny_execs_nil ⟨μ, Stp.refl, I, F, trivial⟩

theorem sndS_cons {t ts : S} (h1 : SndS prog w base cf n t) (h2 : SndS prog w base cf n ts) : SndS prog w base cf n (.cons t ts) := by
  refine ⟨fun {ns x} h => ?_, fun {ns xs} h => ?_⟩
  · exact notFT h
  · have qq := okCons_spec h
    clear h
    obtain ⟨x, xs, rfl, h⟩ := qq
    intro fz ρ st fl ρ' st' A E' s μ env own hev hA F I
    obtain ⟨p, hp, hev⟩ := Option.bind_eq_some_iff.mp hev
    obtain ⟨f1, ρ1, st1⟩ := p
    refine wpAny_execs_cons (wpAny_mono (h1.one h.1 hp hA F I) (fun f s1 g => ?_) fun _ _ e => e)
    obtain ⟨μ1, T1, I1, F1, R1⟩ := g
    cases f1 with
    | next =>
      obtain rfl := flR_next R1
      exact wpAny_mono (h2.all h.2 hev hA F1 I1) (fun f s2 g => PS.from T1 g) fun _ _ e => e
    | cont =>
      obtain ⟨rfl, rfl, rfl⟩ := some3 hev
      obtain rfl := flR_cont R1
      exact ⟨μ1, T1, I1, F1, trivial⟩
    | ret d =>
      obtain ⟨rfl, rfl, rfl⟩ := some3 hev
      obtain ⟨v, rfl, R1⟩ := flR_ret R1
      exact ⟨μ1, T1, I1, F1, R1⟩

theorem sndS_cont : SndS prog w base cf n .cont := by
  refine SndS.ofOne (fun {ns x} h => ?_) (by intros; rfl)
  obtain ⟨pos, rfl⟩ := okCont_spec h
  intro fz ρ st fl ρ' st' A E' s μ env own hev hA F I
  obtain ⟨rfl, rfl, rfl⟩ := some3 hev
  exact wpAny_Continue ⟨μ, Stp.refl, I, F, trivial⟩

theorem sndS_ret {e : E} (he : Snd prog w base cf n e) : SndS prog w base cf n (.ret e) := by
  refine SndS.ofOne (fun {ns x} h => ?_) (by intros; rfl)
  have qq := okRet_spec h
  clear h
  obtain ⟨v, pos, rfl, h⟩ := qq
  intro fz ρ st fl ρ' st' A E' s μ env own hev hA F I
  obtain ⟨p, hp, e⟩ := Option.map_eq_some_iff.mp hev
  obtain ⟨rfl, rfl, rfl⟩ := Prod3 e
  refine wpAny_Return_some (wpAny_mono (he.sE h hp hA F I) (fun v s1 g => ?_) fun _ _ e => e)
  obtain ⟨μ1, T1, I1, V1⟩ := g
  exact ⟨μ1, T1.up, I1, F.stp0 T1, V1⟩

theorem wpAny_dropCall {f : Expr} {as : List Expr} {kw : List Keyword} {q pos : Pos} {v : Value} {Q : Flow → Shared → Prop} (h : Q .next s) : wpAny (model prog w) A (dropValue (.Call f as kw q) pos v) Q E' s := by
  cases v
  case ref => exact wpAny_bind (wpAny_standAt (wpAny_bind (wpAny_runValue (codeAny_builtin entry_let_go (show wpAny _ _ (ret .none) _ _ s from wpAny_pure (wpAny_pure h))))))
  all_goals exact wpAny_pure h

theorem swaps_no {e : Expr} {t : Option Expr} {l : Nat} (h : notComp e = true) : swapsWith e t l env = pure false := by
  cases e <;> first | rfl | (cases h; done)

theorem sndS_expr {e : E} (he : Snd prog w base cf n e) : SndS prog w base cf n (.expr e) := by
  refine SndS.ofOne (fun {ns x} h => ?_) (by intros; rfl)
  have qq := okExp_spec h
  clear h
  obtain ⟨ex, pos, rfl, h⟩ := qq
  have h := andT h
  obtain ⟨f, as, kw, q, rfl⟩ : ∃ a b c d, ex = .Call a b c d := Expr.Call.elim (motive_1 := fun t => ∃ a b c d, t = .Call a b c d) ex (decT h.2) fun a b c d => ⟨a, b, c, d, rfl⟩
  intro fz ρ st fl ρ' st' A E' s μ env own hev hA F I
  obtain ⟨p, hp, e⟩ := Option.map_eq_some_iff.mp hev
  obtain ⟨rfl, rfl, rfl⟩ := Prod3 e
  rw [exec_Expr env _ pos (by unfold interactive; rw [F.ok.kind]; rfl) rfl]
  refine wpAny_bind (wpAny_standAt (wpAny_bind (wpAny_mono (he.sE h.1 hp hA F I) (fun v s1 g => ?_) fun _ _ e => e)))
  obtain ⟨μ1, T1, I1, V1⟩ := g
  exact wpAny_dropCall ⟨μ1, T1.up, I1, F.stp0 T1, trivial⟩

theorem sndS_setItem {o k v : E} (ho : Snd prog w base cf n o) (hk : Snd prog w base cf n k) (hv : Snd prog w base cf n v) : SndS prog w base cf n (.setItem o k v) := by
  refine SndS.ofOne (fun {ns x} h => ?_) (by intros; rfl)
  have qq := okAsg_spec h
  clear h
  obtain ⟨t, v', pos, rfl, h⟩ := qq
  simp only [Bool.and_eq_true] at h
  obtain ⟨⟨h0, h3⟩, h5⟩ := h
  obtain ⟨o', i', p, rfl, h1, h2⟩ := okIdx_spec h0
  obtain ⟨h2, h4⟩ := Bool.and_eq_true_iff.mp h2
  intro fz ρ st fl ρ' st' A E' s μ env own hev hA F I
  obtain ⟨p, hp, hev⟩ := Option.bind_eq_some_iff.mp hev
  obtain ⟨q, hq, hev⟩ := Option.bind_eq_some_iff.mp hev
  obtain ⟨r, hr, hev⟩ := Option.bind_eq_some_iff.mp hev
  obtain ⟨st4, hs4, e⟩ := Option.map_eq_some_iff.mp hev
  obtain ⟨rfl, rfl, rfl⟩ := Prod3 e
  refine wpAny_Assign_Subscript (wpAny_mono (hv.sE h3 hp hA F I) (fun u s1 g1 => ?_) fun _ _ e => e) (swaps_no h5)
  obtain ⟨μ1, T1, I1, V1⟩ := g1
  refine wpAny_mono (ho.sE h1 hq hA (F.stp0 T1) I1) (fun ov s2 g2 => ?_) fun _ _ e => e
  obtain ⟨μ2, T2, I2, V2⟩ := g2
  refine wpAny_mono (hk.sE h2 hr hA ((F.stp0 T1).stp0 T2) I2) (fun iv s3 g3 => ?_) fun _ _ e => e
  obtain ⟨μ3, T3, I3, V3⟩ := g3
  refine wpAny_mono (op_setItem hA I3 (V2.stp0 T3) V3 ((V1.stp0 T2).stp0 T3) hs4) (fun _ s4 g4 => ?_) fun _ _ e => e
  obtain ⟨μ4, T4, I4, V4⟩ := g4
  have T := ((T1.trans T2).trans T3).trans T4
  exact ⟨μ4, T.up, I4, F.stp0 T, trivial⟩

theorem sndS_ife {t : E} {a b : S} (ht : Snd prog w base cf n t) (ha : SndS prog w base cf n a) (hb : SndS prog w base cf n b) : SndS prog w base cf n (.ife t a b) := by
  refine SndS.ofOne (fun {ns x} h => ?_) (by intros; rfl)
  obtain ⟨t', a', b', pos, rfl, g1, g2, g3⟩ := okIf_spec h
  intro fz ρ st fl ρ' st' A E' s μ env own hev hA F I
  obtain ⟨p, hp, hev⟩ := Option.bind_eq_some_iff.mp hev
  obtain ⟨p, st1⟩ := p
  obtain ⟨c, e, hev⟩ := dBool_s hev
  obtain rfl : p = .bool c := e
  refine wpAny_If (wpAny_mono (ht.sT g1 hp ⟨c, rfl⟩ hA F I) (fun c' s1 g => ?_) fun _ _ e => e)
  obtain ⟨e, μ1, T1, I1, V1⟩ := g
  obtain rfl := D.bool.inj e
  cases c with
  | true => exact wpAny_mono (ha.all g2 hev hA (F.stp0 T1) I1) (fun f s2 g => PS.from T1.up g) fun _ _ e => e
  | false => exact wpAny_mono (hb.all g3 hev hA (F.stp0 T1) I1) (fun f s2 g => PS.from T1.up g) fun _ _ e => e

theorem sndS_aug {i : Nat} {op : BOp} {e : E} (he : Snd prog w base cf n e) : SndS prog w base cf n (.aug i op e) := by
  refine SndS.ofOne (fun {ns x} h => ?_) (by intros; rfl)
  obtain ⟨h0, h⟩ := Bool.and_eq_true_iff.mp h
  have h0 := of_decide_eq_true h0
  subst h0
  obtain ⟨t, v, pos, rfl, h1, h2⟩ := okAug_spec h
  have qq := okNm_spec h1
  clear h1
  obtain ⟨y, p, rfl, h1⟩ := qq
  intro fz ρ st fl ρ' st' A E' s μ env own hev hA F I
  obtain ⟨old, hold, hev⟩ := Option.bind_eq_some_iff.mp hev
  obtain ⟨p, hp, hev⟩ := Option.bind_eq_some_iff.mp hev
  obtain ⟨p, st1⟩ := p
  obtain ⟨a, rfl, hev1⟩ := dInt_s hev
  obtain ⟨b, eb, hev2⟩ := dInt_s hev1
  obtain rfl : p = .int b := eb
  clear hev hev1
  · obtain ⟨rfl, rfl, rfl⟩ := some3 (show some (Fl.next, ρ.set i (some (.int (a + b))), st1) = _ from hev2)
    obtain ⟨k, hk, hkk⟩ := tgt1_spec h1
    refine wpAny_AugAssign_Name (F.load hk hold fun ov V0 => ?_)
    refine wpAny_mono (he.sE h2 hp hA F I) (fun v s1 g => ?_) fun _ _ e => e
    obtain ⟨μ1, T1, I1, V1⟩ := g
    obtain ⟨t0, rfl⟩ := V0; obtain ⟨t1, rfl⟩ := V1
    refine PySem.AutoIntOps.iadd_0 (show wpAny (model prog w) A (storeName env _ (.int (a + b) s1.toks)) (fun _ => PS prog w base env ns own μ fz s _ _ _ .next) E' { s1 with toks := s1.toks + 1 } from ?_)
    refine (F.stp0 T1).store (s := { s1 with toks := s1.toks + 1 }) (fz := fz) (d := .int (a + b)) I1 hk hkk (by unfold VR; exact ⟨_, rfl⟩) fun h' tk T2 I2 F2 => ?_
    have T12 : Stp (Own own) fz μ s μ1 { s1 with toks := s1.toks + 1 } := (T1.trans (Stp.ofKeep (s := s1) (s' := { s1 with toks := s1.toks + 1 }) (fun _ _ e => e) I1.alive)).up
    exact ⟨μ1, T12.trans T2, I2, F2, trivial⟩

inductive WLoop (prog : Program) (w : World) (base : Heap) (env : Env) (ns : Nms) (own : List Addr) (μ : Mu) (fz : List Nat) (s : Shared) (f : Nat → Rho → St → Option (Fl × Rho × St)) (fin : Fl × Rho × St) (k : Nat) (s1 : Shared) : Prop
  | mk (μ1 : Mu) (ρ1 : Rho) (st1 : St) (hw : f k ρ1 st1 = some fin) (T : Stp (Own own) fz μ s μ1 s1) (I : SI prog w base μ1 st1 s1.heap) (F : FR base env ns own μ1 ρ1 s1.heap)
theorem whileL_s {test : Rho → St → Option (D × St)} {body : Rho → St → Option (Fl × Rho × St)} {k : Nat} {ρ : Rho} {st : St} {r : Fl × Rho × St} (h : whileL test body (k + 1) ρ st = some r) : ∃ b st1, test ρ st = some (.bool b, st1) ∧
    (b = false → (Fl.next, ρ, st1) = r) ∧ (b = true → ∃ f ρ2 st2, body ρ st1 = some (f, ρ2, st2) ∧ (((f = .next ∨ f = .cont) ∧ whileL test body k ρ2 st2 = some r) ∨ ∃ d, f = .ret d ∧ (Fl.ret d, ρ2, st2) = r)) := by
  obtain ⟨⟨p, st1⟩, hp, h1⟩ := bindE h
  obtain ⟨b, e, h2⟩ := dBool_s h1
  obtain rfl : p = .bool b := e
  refine ⟨b, st1, hp, fun e => ?_, fun e => ?_⟩
  · subst e; exact Option.some.inj h2
  · subst e
    obtain ⟨⟨f, ρ2, st2⟩, hq, h3⟩ := bindE (show (body ρ st1).bind _ = some r from h2)
    refine ⟨f, ρ2, st2, hq, ?_⟩
    rcases f with _ | _ | d
    · exact .inl ⟨.inl rfl, h3⟩
    · exact .inl ⟨.inr rfl, h3⟩
    · exact .inr ⟨d, rfl, Option.some.inj h3⟩
theorem sndS_whl {t : E} {body : S} (ht : Snd prog w base cf n t) (hb : SndS prog w base cf n body) : SndS prog w base cf n (.whl t body) := by
  refine SndS.ofOne (fun {ns x} h => ?_) (by intros; rfl)
  obtain ⟨t', b', pos, rfl, g1, g2⟩ := okWhl_spec h
  clear h
  intro fz ρ st fl ρ' st' A E' s μ env own hev hA F I
  refine wpAny_While (codeAny_whileLoop (WLoop prog w base env ns own μ fz s (whileL (evE cf t fz) (exS cf body fz)) (fl, ρ', st')) (fun k s1 hx => ?_) WF ⟨μ, ρ, st, hev, Stp.refl, I, F⟩)
  clear hev F I
  obtain ⟨μ1, ρ1, st1, hw, T1, I1, F1⟩ := hx
  cases k with
  | zero => exact none_ne hw
  | succ k =>
    obtain ⟨b, st2, hp, h0, h1⟩ := whileL_s hw
    clear hw
    refine wpAny_mono (ht.sT g1 hp ⟨b, rfl⟩ hA F1 I1) (fun c s2 g => ?_) fun _ _ e => e
    obtain ⟨e, μ2, T2, I2, V2⟩ := g
    obtain rfl := D.bool.inj e
    cases b with
    | true =>
      obtain ⟨f1, ρ2, st3, hq, hw⟩ := h1 rfl
      refine wpAny_mono (hb.all g2 hq hA (F1.stp0 T2) I2) (fun f s3 g => ?_) fun _ _ e => e
      obtain ⟨μ3, T3, I3, F3, R3⟩ := g
      rcases hw with ⟨rfl | rfl, hw⟩ | ⟨d, rfl, hw⟩
      · obtain rfl := flR_next R3; exact ⟨k, Nat.lt_succ_self k, μ3, ρ2, st3, hw, (T1.trans T2.up).trans T3, I3, F3⟩
      · obtain rfl := flR_cont R3; exact ⟨k, Nat.lt_succ_self k, μ3, ρ2, st3, hw, (T1.trans T2.up).trans T3, I3, F3⟩
      · obtain ⟨rfl, rfl, rfl⟩ := Prod3 hw
        obtain ⟨v, rfl, R3⟩ := flR_ret R3
        exact ⟨μ3, (T1.trans T2.up).trans T3, I3, F3, R3⟩
    | false =>
      obtain ⟨rfl, rfl, rfl⟩ := Prod3 (h0 rfl)
      exact wpAny_execs_nil ⟨μ2, T1.trans T2.up, I2, F1.stp0 T2, trivial⟩
end Mine
end
section
open PySem PySem.W PyProof.Rows
set_option linter.unusedVariables false
namespace Mine
variable {prog : Program} {w : World} {base : Heap} {mg mb : Str → Option Value} {cf : List Nat → Nat → List D → St → Option (D × St)} {n : Nat}
variable {A : Around} {E' : Value → Shared → Prop} {s : Shared} {μ : Mu} {st : St} {fz : List Nat} {env : Env} {ns : Nms} {own : List Addr} {ρ : Rho}

theorem FR.butC {C : Addr} {m : Str → Option Value} {h' : Heap} (F : FR base env ns own μ ρ s.heap) (hC : C ∉ own) (hm : s.heap.Ns C m) (h : Heap.SameBut C s.heap h') : FR base env ns own μ ρ h' := by
  obtain ⟨oC, esC, epC, hoC, hdC, _⟩ := hm
  have sq : ∀ b o, s.heap.get? b = some o → isSeq o → ¬ μ.Has b → h'.get? b = some o := fun b o e hq _ => (h.2 b fun q => by
    subst q; rw [hoC] at e; obtain rfl := Option.some.inj e; exact isDC.notSeq (.inl ⟨_, _, hdC⟩) hq).trans e
  have vs : ∀ {d v}, VR μ s.heap d v → VR μ h' d v := fun x => x.mono (List.prefix_refl _) (fun _ h => .inl h) sq
  have ne : ∀ b ∈ own, b ≠ C := fun b hb e => hC (e ▸ hb)
  obtain ⟨m', hm', hs⟩ := F.ns
  refine ⟨F.ok, F.len, ⟨m', hm'.sameBut h (ne _ F.loc), fun i x k hi => ?_⟩, F.loc, F.ownμ, fun b hb => ?_, F.inj, F.ownB⟩
  · exact (hs i x k hi).map vs rfl (fun _ e => e) (fun c ov _ h2 q => h2.sameBut h (q.elim (fun q => ne _ q.1) fun _ e => by
      obtain ⟨o, ho, hd⟩ := h2
      rw [e, hoC] at ho; obtain rfl := Option.some.inj ho
      rw [hdC] at hd; exact Data.noConfusion hd)) fun _ _ _ q => q
  · obtain ⟨o, ho, hq⟩ := F.nseq b hb
    exact ⟨o, (h.2 b (ne b hb)).trans ho, hq⟩

theorem SI.butC {C : Addr} {m : Str → Option Value} {h' : Heap} (I : SI prog w base μ st s.heap) (hC : ¬ μ.Has C) (hB : base.get? C = none) (hm : s.heap.Ns C m) (h : Heap.SameBut C s.heap h') : SI prog w base μ st h' := by
  obtain ⟨oC, esC, epC, hoC, hdC, _⟩ := hm
  exact I.mono (fun b o e => (h.2 b fun q => by rw [q, hB] at e; cases e).trans (I.keep b o e)) (fun b o e hq _ => (h.2 b fun q => by
    subst q; rw [hoC] at e; obtain rfl := Option.some.inj e; exact isDC.notSeq (.inl ⟨_, _, hdC⟩) hq).trans e) fun b hb => h.2 b fun q => hC (q ▸ hb)

theorem lcomp_ix {e : E} (h : e.ctorIdx = 22) : ∃ a b c d f g, e = .lcomp a b c d f g := E.lcomp.elim (motive := fun e => ∃ a b c d f g, e = .lcomp a b c d f g) e h fun a b c d f g => ⟨a, b, c, d, f, g, rfl⟩
theorem lcomp2_ix {e : E} (h : e.ctorIdx = 23) : ∃ a b c d f g k l, e = .lcomp2 a b c d f g k l := E.lcomp2.elim (motive := fun e => ∃ a b c d f g k l, e = .lcomp2 a b c d f g k l) e h fun a b c d f g k l => ⟨a, b, c, d, f, g, k, l, rfl⟩
theorem dcomp_ix {e : E} (h : e.ctorIdx = 24) : ∃ a b c d f g k, e = .dcomp a b c d f g k := E.dcomp.elim (motive := fun e => ∃ a b c d f g k, e = .dcomp a b c d f g k) e h fun a b c d f g k => ⟨a, b, c, d, f, g, k, rfl⟩
theorem sem_used {e : E} {x : Expr} {u : Value → Sem Unit} {Q : Value → Shared → Prop} {z : D} {st' : St} (B : HB base mg mb) (hcf : CallOk prog w base mg n cf) (h : chkE e ns x = true) (hn : e.ctorIdx = 22 ∨ e.ctorIdx = 23 ∨ e.ctorIdx = 24) (hev : evE cf e fz ρ st = some (z, st')) (hA : AOk n A) (F : FR base env ns own μ ρ s.heap) (I : SI prog w base μ st s.heap)
    (hQ : CompQ prog w base A E' (some u) Q μ fz s st' z) : wpAny (model prog w) A (evalThenUse x env u) (fun _ s' => ∃ v, Q v s') E' s := by
  have sa := fun e => (snd_all B hcf e).1
  rcases hn with hn | hn | hn
  · obtain ⟨imps, tgt, k, src, cond, elt, rfl⟩ := lcomp_ix hn
    obtain ⟨elt', t, it, ifs, sc, pos, h1, h2, h3, h4, h5, h6, h7⟩ := chk_lcomp h
    exact wpAny_bind (wpAny_mono (lcomp_run B.two h1 h2 h3 h5 (src_of B (sa _) h4) ((sa _).sC h6) ((sa _).sE h7) hev hA F I hQ) (fun v s' q => wpAny_pure ⟨v, q⟩) fun _ _ e => e)
  · obtain ⟨imps, tgt, k, src, tgt2, k2, src2, elt, rfl⟩ := lcomp2_ix hn
    obtain ⟨elt', t, it, t2, it2, sc, pos, h1, h2, h3, h4, h5, h6, h7, h8, h9, h10, h11⟩ := chk_lcomp2 h
    exact wpAny_bind (wpAny_mono (lcomp2_run B.two h1 h2 h3 h5 h6 h7 h8 h10 (src_of B (sa _) h4) (src_of B (sa _) h9) ((sa _).sE h11) hev hA F I hQ) (fun v s' q => wpAny_pure ⟨v, q⟩) fun _ _ e => e)
  · obtain ⟨imps, tgt, k, src, cond, key, val, rfl⟩ := dcomp_ix hn
    obtain ⟨kx, vx, t, it, ifs, sc, pos, h1, h2, h3, h4, h5, h6, h7, h8⟩ := chk_dcomp h
    exact wpAny_bind (wpAny_mono (dcomp_run B.two h1 h2 h3 h5 (src_of B (sa _) h4) ((sa _).sC h6) ((sa _).sE h7) ((sa _).sE h8) hev hA F I hQ) (fun v s' q => wpAny_pure ⟨v, q⟩) fun _ _ e => e)
theorem sw_lc {a : Expr} {b : List Comprehension} {c : Scope} {d : Pos} {y : Str} {p : Pos} {l : Nat} : ∃ r, swapsWith (.ListComp a b c d) (some (.Name y p)) l env = pure r := ⟨_, rfl⟩
theorem comp_swaps {e : E} {x : Expr} {y : Str} {p : Pos} {l : Nat} (h : chkE e ns x = true) (hn : e.ctorIdx = 22 ∨ e.ctorIdx = 23 ∨ e.ctorIdx = 24) : ∃ b, swapsWith x (some (.Name y p)) l env = pure b := by
  rcases hn with hn | hn | hn
  · obtain ⟨_, _, _, _, _, _, rfl⟩ := lcomp_ix hn
    cases chk_lcomp h; exact sw_lc
  · obtain ⟨_, _, _, _, _, _, _, _, rfl⟩ := lcomp2_ix hn
    cases chk_lcomp2 h; exact sw_lc
  · obtain ⟨_, _, _, _, _, _, _, rfl⟩ := dcomp_ix hn
    cases chk_dcomp h; exact ⟨_, rfl⟩

theorem sndS_assign {i : Nat} {e : E} (B : HB base mg mb) (hcf : CallOk prog w base mg n cf) : SndS prog w base cf n (.assign i e) := by
  refine SndS.ofOne (fun {ns x} h => ?_) (by intros; rfl)
  have qq := okAsg_spec h
  clear h
  obtain ⟨t, v, pos, rfl, h⟩ := qq
  obtain ⟨h1, h2⟩ := andT h
  obtain ⟨h2, hn⟩ := andT h2
  have qq := okNm_spec h1
  clear h1
  obtain ⟨x, p, rfl, h1⟩ := qq
  intro fz ρ st fl ρ' st' A E' s μ env own hev hA F I
  obtain ⟨q, hq, e1⟩ := Option.map_eq_some_iff.mp hev
  obtain ⟨rfl, rfl, rfl⟩ := Prod3 e1
  obtain ⟨k, hk, hkk⟩ := tgt1_spec h1
  have plain : swapsWith v (some (.Name x p)) pos.line env = pure false → wpAny (model prog w) A (exec (.Assign [.Name x p] v pos) env) (PS prog w base env ns own μ fz s .next (ρ.set i (some q.1)) q.2) E' s := fun hs => by
    refine wpAny_Assign_Name (wpAny_mono ((snd_all B hcf e).1.sE h2 hq hA F I) (fun u s1 g => ?_) fun _ _ e => e) hs
    obtain ⟨μ1, T1, I1, V1⟩ := g
    exact (F.stp0 T1).store (fz := fz) I1 hk hkk V1 fun h' tk T2 I2 F2 => ⟨μ1, T1.up.trans T2, I2, F2, trivial⟩
  rcases Bool.or_eq_true_iff.mp hn with hn | hn
  · exact plain (swaps_no hn)
  · have hn : e.ctorIdx = 22 ∨ e.ctorIdx = 23 ∨ e.ctorIdx = 24 := (Bool.or_eq_true_iff.mp hn).imp decT fun q => (Bool.or_eq_true_iff.mp q).imp decT decT
    obtain ⟨b, hb⟩ := comp_swaps (y := x) (p := p) (l := pos.line) (env := env) h2 hn
    cases b with
    | false => exact plain hb
    | true =>
      rw [exec_Assign_Name_used _ _ _ _ hb]
      refine wpAny_bind (wpAny_standAt (wpAny_bind (wpAny_mono (sem_used (Q := fun _ s' => PS prog w base env ns own μ fz s .next (ρ.set i (some q.1)) q.2 .next s') B hcf h2 hn hq hA F I ?_) (fun _ s' g => ?_) fun _ _ e => e)))
      · intro C μ5 s5 m vv T5 I5 V5 hm hC hs hB
        have hCo : C ∉ own := fun z => by obtain ⟨o, ho, _⟩ := F.nseq C z; rw [hs] at ho; exact none_ne ho
        show wpAny (model prog w) A (assign (.Name x p) env vv) (fun _ s'' => ∃ m, s''.heap.Ns C m ∧ ∀ h', Heap.SameBut C s''.heap h' → PS prog w base env ns own μ fz s .next (ρ.set i (some q.1)) q.2 .next { s'' with heap := h' }) E' s5
        refine storer_name _ _ _ _ _ ((F.stp0 T5).store (fz := fz) I5 hk hkk V5 fun h6 tk6 T6 I6 F6 => ?_)
        have hm6 : h6.Ns C m := by
          obtain ⟨o, es, ep, ho, r⟩ := hm
          exact ⟨o, es, ep, T6.keep C o ho hC hCo, r⟩
        refine ⟨m, hm6, fun h7 hs7 => ⟨μ5, ?_, SI.butC (s := { s5 with heap := h6 }) I6 hC hB hm6 hs7, FR.butC (s := { s5 with heap := h6 }) F6 hCo hm6 hs7, trivial⟩⟩
        exact (T5.up.trans T6).tail (tk := tk6) (wr := [C]) (fun b o hb e => (hs7.2 b fun z => hb (by simp [z])).trans e) (fun b hb => by rw [List.mem_singleton] at hb; rw [hb]; exact hs) I.alive
      · obtain ⟨_, g⟩ := g
        exact wpAny_pure g

theorem fm_full {α β : Type} {f g : α → Option β} (hfg : ∀ x y, f x = some y → g x = some y) {l : List α} : (l.filterMap f).length = l.length → l.filterMap f = l.filterMap g := by
  induction l with
  | nil =>
    intro _
    exact rfl
  | cons x l ih =>
    intro h
    rw [List.filterMap_cons] at h
    cases e : f x with
    | none =>
      rw [e] at h
      have := List.length_filterMap_le f l
      simp only [List.length_cons] at h; lia
    | some y =>
      rw [e] at h
      rw [List.filterMap_cons, List.filterMap_cons, e, hfg x y e, ih (by simpa using h)]

inductive SwR (ts : List Expr) (m : Sem (Option (List Str))) : Prop
  | none (h : m = pure none)
  | some (h : m = pure (some (nmsOf ts)))
theorem SwR.ite {ts : List Expr} {c : Prop} [Decidable c] {m : Sem (Option (List Str))} (h : ¬ c → SwR ts m) : SwR ts (if c then pure Option.none else m) := by
  by_cases hc : c
  · exact .none (if_pos hc)
  · rw [if_neg hc]; exact h hc
theorem swapped_tup {ts vs : List Expr} {k kk : Nat} {p pp : Pos} (hsf : (vs.all (foldedForSure 8) || !(vs.all (constantsAlone 8))) = true) : SwR ts (swappedStores [.Tuple ts k p] (.Tuple vs kk pp) env) := by
  refine SwR.ite fun c1 => SwR.ite fun c2 => SwR.ite fun c3 => SwR.ite fun c4 => ?_
  have c5 : ¬ (vs.all (constantsAlone 8) = true) := fun q => by
    rcases Bool.or_eq_true_iff.mp hsf with z | z
    · exact c4 z
    · rw [q] at z; exact Bool.false_ne_true z
  refine .some ((if_neg c5).trans (congrArg (fun l => (pure (Option.some l) : Sem (Option (List Str)))) ?_))
  refine fm_full (fun x y h => ?_) ?_
  · cases x
    case Name => exact congrArg Option.some (iteS h).2
    all_goals exact none_ne h
  · exact Decidable.not_not.mp fun q => c3 (Bool.or_eq_true_iff.mpr (.inl (bne_iff_ne.mpr q)))
theorem swapped_pure {ts : List Expr} {k : Nat} {p : Pos} {v : Expr} (hsf : swapFree v = true) : SwR ts (swappedStores [.Tuple ts k p] v env) := by
  cases v
  case Tuple vs kk pp => exact swapped_tup hsf
  all_goals exact .none rfl

theorem sndS_assignT {is : List Nat} {e : E} (he : Snd prog w base cf n e) : SndS prog w base cf n (.assignT is e) := by
  refine SndS.ofOne (fun {ns x} h => ?_) (by intros; rfl)
  have qq := okAsg_spec h
  clear h
  obtain ⟨t, v, pos, rfl, h⟩ := qq
  simp only [Bool.and_eq_true] at h
  obtain ⟨⟨⟨⟨h0, h1⟩, h2⟩, h3⟩, h4⟩ := h
  obtain ⟨ts, k, p, rfl⟩ := isTupT_spec h0
  intro fz ρ st fl ρ' st' A E' s μ env own hev hA F I
  obtain ⟨q, hq, hev⟩ := Option.bind_eq_some_iff.mp hev
  obtain ⟨ρ1, hρ, e1⟩ := Option.map_eq_some_iff.mp hev
  cases e1
  have hsole : swapsWithSole [.Tuple ts k p] v pos.line env = pure false := (show swapsWith v (some (.Tuple ts k p)) pos.line env = pure false from swaps_no h4)
  rcases swapped_pure (env := env) (ts := ts) (k := k) (p := p) h3 with hr | hr
  · refine Assign_Tuple (wpAny_mono (he.sE h2 hq hA F I) (fun u s1 g => ?_) fun _ _ e => e) hsole hr
    obtain ⟨μ1, T1, I1, V1⟩ := g
    exact (F.stp0 T1).assign (fz := fz) hA.handled h1 I1 V1 hρ fun h' tk T2 I2 F2 => ⟨μ1, T1.up.trans T2, I2, F2, trivial⟩
  · refine Assign_Tuple_swapped (wpAny_mono (he.sE h2 hq hA F I) (fun u s1 g => ?_) fun _ _ e => e) hsole hr
    obtain ⟨μ1, T1, I1, V1⟩ := g
    obtain ⟨g1, g2, g3⟩ := tgtOk_tup h1
    obtain ⟨xs, e1, hl, rfl⟩ := bindT_tup g2 hρ
    rw [e1] at V1
    exact unpack_names (fz := fz) hA.handled g1 g3 hl rfl (F.stp0 T1) I1 V1 fun h' tk T2 I2 F2 => ⟨μ1, T1.up.trans T2, I2, F2, trivial⟩
end Mine
end
section
open PySem PySem.W PyProof.Rows
set_option linter.unusedVariables false
namespace Mine
variable {prog : Program} {w : World} {base : Heap} {mg mb : Str → Option Value} {cf : List Nat → Nat → List D → St → Option (D × St)} {n : Nat}
variable {A : Around} {E' : Value → Shared → Prop} {s : Shared} {μ : Mu} {st : St} {fz : List Nat} {env : Env} {ns : Nms} {own : List Addr} {ρ : Rho}

theorem forL_at {f : D → Rho → St → Option (Fl × Rho × St)} {its : List D} {i : Nat} {ρ : Rho} {st : St} {r : Fl × Rho × St} (hlt : i < its.length) (h : forL f (its.drop i) ρ st = some r) : ∃ f1 ρ2 st2, f its[i] ρ st = some (f1, ρ2, st2) ∧
    (((f1 = .next ∨ f1 = .cont) ∧ forL f (its.drop (i + 1)) ρ2 st2 = some r) ∨ ∃ d, f1 = .ret d ∧ (Fl.ret d, ρ2, st2) = r) := by
  rw [List.drop_eq_getElem_cons hlt] at h
  obtain ⟨⟨f1, ρ2, st2⟩, hp, h1⟩ := bindE h
  refine ⟨f1, ρ2, st2, hp, ?_⟩
  rcases f1 with _ | _ | d
  · exact .inl ⟨.inl rfl, h1⟩
  · exact .inl ⟨.inr rfl, h1⟩
  · exact .inr ⟨d, rfl, Option.some.inj h1⟩
inductive FLoop (prog : Program) (w : World) (base : Heap) (env : Env) (ns : Nms) (own : List Addr) (W : Addr → Prop) (wr : List Addr) (fz1 : List Nat) (μR : Mu) (sR : Shared) (St' : Nat → Heap → Prop) (f : D → Rho → St → Option (Fl × Rho × St)) (its : List D) (fin : Fl × Rho × St) (m : Nat) (s : Shared) : Prop
  | mk (i : Nat) (μ : Mu) (st : St) (ρi : Rho) (hi : i ≤ its.length) (hn : m = its.length - i) (T : Stp W fz1 μR sR μ s) (I : SI prog w base μ st s.heap) (F : FR base env ns own μ ρi s.heap) (hst : St' i s.heap) (hwμ : ∀ b ∈ wr, ¬ μ.Has b) (hl : forL f (its.drop i) ρi st = some fin)
/-- the end: back to what was before the iterator -/
theorem fore_end {d : D} {μ0 μ5 : Mu} {sR s5 : Shared} {h6 : Heap} {tk6 : Nat} {ρ5 : Rho} {st1 st5 : St} {fl : Fl} {f : Flow} {target : Expr} {Ia : Addr} {wr src : List Addr} {its : List D} {St' : Nat → Heap → Prop} (T0 : Stp NoW fz μ s μ0 sR) (I0 : SI prog w base μ0 st1 sR.heap) (It : Itr prog w A (fzOf d fz) μ0 sR target Ia wr src its St')
    (T5 : Stp (fun b => Own own b ∨ b ∈ wr) (fzOf d fz) μ0 sR μ5 s5) (I5 : SI prog w base μ5 st5 s5.heap) (F5 : FR base env ns own μ5 ρ5 s5.heap) (R5 : flR μ5 h6 fl f) (hk6 : ∀ b o, b ∉ wr → s5.heap.get? b = some o → h6.get? b = some o) (hwμ : ∀ b ∈ wr, ¬ μ5.Has b) (hwF : ∀ b ∈ wr, ∃ o, s5.heap.get? b = some o ∧ isF o) :
    PS prog w base env ns own μ fz s fl ρ5 st5 f { s5 with heap := h6, toks := tk6 } :=
  ⟨_, T0.up.trans (((T5.tail hk6 It.fresh I0.alive).drop (W' := Own own) (fun b q => q.elim .inl fun q => .inr (It.fresh b q)) I0.zlive).less fun r hr => fz_sub r hr), I5.butF hk6 hwF (It.wrBase I0) hwμ, F5.butF hk6 hwF, R5⟩
theorem fore_loop {tgt : List Nat} {body : S} {fz1 : List Nat} {μ0 : Mu} {sR : Shared} {t : Expr} {b' : List Stmt} {Ia : Addr} {wr src : List Addr} {its : List D} {St' : Nat → Heap → Prop} {h1 : Heap} {tk : Nat} {fl : Fl} {ρ' : Rho} {st1 st' : St} {R : Result → Shared → Prop} (hb : SndS prog w base cf n body) (h5 : chkSs body ns b' = true) (hA : AOk n A) (ht : tgtOk ns t tgt = true)
    (It : Itr prog w A fz1 μ0 sR t Ia wr src its St') (I0 : SI prog w base μ0 st1 sR.heap) (F0 : FR base env ns own μ0 ρ sR.heap) (st0 : St' 0 h1) (hk : ∀ b o, sR.heap.get? b = some o → h1.get? b = some o)
    (hev : forL (fun x ρ st => (bindT tgt x ρ).bind fun ρ' => exS cf body fz1 ρ' st) its ρ st1 = some (fl, ρ', st'))
    (hR : ∀ (μ5 : Mu) (s5 : Shared) (h6 : Heap) (tk6 : Nat) (f : Flow), Stp (fun b => Own own b ∨ b ∈ wr) fz1 μ0 sR μ5 s5 → SI prog w base μ5 st' s5.heap → FR base env ns own μ5 ρ' s5.heap → flR μ5 h6 fl f → (∀ b o, b ∉ wr → s5.heap.get? b = some o → h6.get? b = some o) → (∀ b ∈ wr, ¬ μ5.Has b) → (∀ b ∈ wr, ∃ o, s5.heap.get? b = some o ∧ isF o) → R (.ok f) { s5 with heap := h6, toks := tk6 }) :
    codeAny (model prog w) A (.forLoop t (.ref Ia) b' [] env) R { sR with heap := h1, toks := tk } := by
  have wrown : ∀ b ∈ wr, b ∉ own := fun b hb q => by obtain ⟨o, ho, _⟩ := F0.nseq b q; exact It.fresh_not ⟨o, ho⟩ hb
  have oseq := F0.own_seq
  have srcOwn : ∀ b ∈ src, b ∉ own := It.srcOwn (q := (· ∈ own)) (fun b o q e hs => absurd hs (oseq b o q e)) fun b q => fun z => F0.ownμ b q (Mu.memL z)
  refine codeAny_forLoop_any (FLoop prog w base env ns own (fun b => Own own b ∨ b ∈ wr) wr fz1 μ0 sR St' (fun x ρ st => (bindT tgt x ρ).bind fun ρ' => exS cf body fz1 ρ' st) its (fl, ρ', st')) (fun m s' hx => ?_) its.length
    ⟨0, μ0, st1, ρ, Nat.zero_le _, rfl, Stp.start I0 hk, I0.keeps hk, F0.mono (List.prefix_refl _) (fun _ h => .inl h) fun b o e _ _ => hk b o e, st0, fun b hb q => It.fresh_not (I0.alive b q) hb, hev⟩
  clear hev st0 hk F0
  obtain ⟨i, μ1, st2, ρ1, hi1, rfl, T', I', F', hst', hwμ', hl'⟩ := hx
  by_cases hlt : i < its.length
  · obtain ⟨f1, ρ3, st3, hp, hl2⟩ := forL_at hlt hl'
    obtain ⟨ρ2, hρ2, hin⟩ := bindE hp
    clear hl' hp
    refine wpAny_mono (itr_step (Q := fun _ s₂ => wpAny (model prog w) A (execs b' env) (fun f s₃ => match f with
            | .next | .cont => ∃ m, m < its.length - i ∧ FLoop prog w base env ns own (fun b => Own own b ∨ b ∈ wr) wr fz1 μ0 sR St' (fun x ρ st => (bindT tgt x ρ).bind fun ρ' => exS cf body fz1 ρ' st) its (fl, ρ', st') m s₃
            | .brk => R (.ok .next) s₃
            | .ret v => R (.ok (.ret v)) s₃) (notedBy (model prog w) A env fun e s' => R (.error e) s') s₂) hA.handled ht It (fun d v q => q) It.src1 (fun b hb => ⟨srcOwn b hb, It.fresh_not (It.srcOk b hb).1⟩) (It.wrBase I0) (fun b q => q)
            (fun b o q e => q.elim (fun q => .inl fun hs => oseq b o q e hs) fun q => absurd q (It.fresh_not ⟨o, e⟩)) wrown T' I' F' hst' hwμ' (List.getElem?_eq_getElem hlt) hρ2 fun h3 tk3 T3 I3 F3 st3' => ?_) (fun r s₁ hq => ?_) fun _ _ e => e
    · refine wpAny_mono (hb.all h5 hin hA F3 I3) (fun f s5 g => ?_) fun _ _ e => e
      obtain ⟨μ5, T5, I5, F5, R5⟩ := g
      have T35 : Stp (fun b => Own own b ∨ b ∈ wr) fz1 μ0 sR μ5 s5 := (T'.trans T3).trans (T5.weaken (fun b q => .inl q) fun r hr => hr)
      have hw5 := It.apart5 T5 st3' hwμ'
      have st5 := It.frame5 T' T5 st3' hwμ' wrown It.src1 srcOwn
      rcases hl2 with ⟨rfl | rfl, hl2⟩ | ⟨dd, rfl, hl2⟩
      · obtain rfl := flR_next R5; exact ⟨its.length - (i + 1), Nat.sub_lt_sub_left hlt (Nat.lt_succ_self i), i + 1, μ5, st3, ρ3, hlt, rfl, T35, I5, F5, st5, hw5, hl2⟩
      · obtain rfl := flR_cont R5; exact ⟨its.length - (i + 1), Nat.sub_lt_sub_left hlt (Nat.lt_succ_self i), i + 1, μ5, st3, ρ3, hlt, rfl, T35, I5, F5, st5, hw5, hl2⟩
      · obtain ⟨rfl, rfl, rfl⟩ := Prod3 hl2
        obtain ⟨v, rfl, R6⟩ := flR_ret R5
        exact hR μ5 s5 s5.heap s5.toks _ T35 I5 F5 R5 (fun _ _ _ e => e) hw5 (It.wrF _ _ st5)
    · obtain ⟨v, rfl, hq⟩ := hq
      exact hq
  · obtain rfl : i = its.length := Nat.le_antisymm hi1 (Nat.le_of_not_lt hlt)
    rw [List.drop_length] at hl'
    obtain ⟨rfl, rfl, rfl⟩ := some3 hl'
    exact It.done s' _ _ hst' fun h' tk' hk' => wpAny_execs_nil (hR μ1 s' h' tk' _ T' I' F' trivial hk' hwμ' (It.wrF _ _ hst'))
theorem sndS_fore {tgt : List Nat} {k : SK} {src : E} {body : S} (B : HB base mg mb) (hsrc : Snd prog w base cf n src) (hb : SndS prog w base cf n body) : SndS prog w base cf n (.fore tgt k src body) := by
  refine SndS.ofOne (fun {ns x} h => ?_) (by intros; rfl)
  obtain ⟨t, it, b', pos, rfl, h, h5⟩ := okFor_spec h
  obtain ⟨h, h4⟩ := andT h
  obtain ⟨h, h3⟩ := andT h
  obtain ⟨h1, h2⟩ := andT h
  intro fz ρ st fl ρ' st' A E' s μ env own hev hA F I
  obtain ⟨⟨d, st1⟩, hd, hev⟩ := bindE hev
  obtain ⟨its, hi, hev⟩ := bindE hev
  exact wpAny_For (src_of B hsrc h3 hd hi hA F I h2 fun μ0 sR Ia wr src' St' hh1 tk T0 I0 It st0 hk => fore_loop hb h5 hA h1 It I0 (F.stp0 T0) st0 hk hev fun μ5 s5 h6 tk6 f T5 I5 F5 R5 hk6 hwμ hwF => fore_end T0 I0 It T5 I5 F5 R5 hk6 hwμ hwF) (folded_notSet h4)

theorem sndS_all (B : HB base mg mb) (hcf : CallOk prog w base mg n cf) : ∀ t : S, SndS prog w base cf n t := by
  have sa := fun e => (snd_all (prog := prog) (w := w) B hcf e).1
  intro t
  induction t with
  | nil => exact sndS_nil
  | cons t ts h1 h2 => exact sndS_cons h1 h2
  | bad => exact sndS_bad
  | assign i e => exact sndS_assign B hcf
  | assignT is e => exact sndS_assignT (sa _)
  | setItem o k v => exact sndS_setItem (sa _) (sa _) (sa _)
  | aug i op e => exact sndS_aug (sa _)
  | ife t a b h1 h2 => exact sndS_ife (sa _) h1 h2
  | whl t body h => exact sndS_whl (sa _) h
  | fore tgt k src body h => exact sndS_fore B (sa _) h
  | ret e => exact sndS_ret (sa _)
  | cont => exact sndS_cont
  | expr e => exact sndS_expr (sa _)
  | raise => exact sndS_raise
end Mine
end
section
open PySem PySem.W PyProof.Rows
set_option linter.unusedVariables false
namespace Mine
variable {prog : Program} {w : World} {base : Heap} {mg mb : Str → Option Value} {cf : List Nat → Nat → List D → St → Option (D × St)} {n : Nat}
variable {A : Around} {E' : Value → Shared → Prop} {s : Shared} {μ : Mu} {st : St} {fz : List Nat} {env : Env} {ns : Nms} {own : List Addr} {ρ : Rho}

noncomputable def fnStat (fn : Fn) : Bool := nodupNm fn.names && (fn.names.all fun p => plainNm p.1 && decide (p.2 ≠ .free) && decide (p.2 ≠ .globalExplicit)) && decide (fn.npar ≤ fn.names.length) && (fn.names.take fn.npar).all fun p => decide (p.2 = .local) || decide (p.2 = .cell)

structure FnIs (base : Heap) (a : Addr) (fn : Fn) (o : Obj) (fd : FuncData) (body : List Stmt) : Prop where
  get : base.get? a = some o
  data : o.data = .func fd
  hbody : fd.body = .stmts body
  names : fd.scope.names = fn.names
  kind : fd.scope.kind = .function
  co : fd.scope.isCoroutine = false
  gen : fd.scope.isGenerator = false
  glob : fd.globals = mainGlobals
  blt : fd.builtins = builtinsNs
  clos : fd.closure = []
  code : base.CodeRec fd.code fd.qualname
  bind : ∀ vals : List Value, vals.length = fn.npar → bindArgs fd ⟨vals, []⟩ = pure ((fn.names.map (·.1)).zip vals)
  chk : chkSs fn.body fn.names body = true
  stat : fnStat fn = true

noncomputable def FnOk (base : Heap) (mg : Str → Option Value) (f : Nat) (fn : Fn) : Prop := ∀ x, fnNames[f]? = some x → ∃ a o fd body, mg x = some (.ref a) ∧ FnIs base a fn o fd body

theorem bindL_other {kindOf : Str → Option NameKind} {x : Str} : ∀ {l : List (Str × Value)} {m : Str → Option Value}, x ∉ l.map (·.1) → bindL kindOf l m x = m x
  | [], _, _ => rfl
  | (y, v) :: r, m, h => by
    rw [List.map_cons, List.mem_cons, not_or] at h
    unfold bindL
    rw [bindL_other h.2]
    split
    · show (if x = y then some v else m x) = m x; rw [if_neg h.1]
    · rfl
theorem bindL_get {kindOf : Str → Option NameKind} {x : Str} {v : Value} (hk : kindOf x = some .local) : ∀ {l : List (Str × Value)} {m : Str → Option Value}, (l.map (·.1)).Nodup → (x, v) ∈ l → bindL kindOf l m x = some v
  | (y, u) :: r, m, hn, h => by
    rw [List.map_cons, List.nodup_cons] at hn
    unfold bindL
    rcases List.mem_cons.mp h with e | h'
    · obtain ⟨rfl, rfl⟩ := Prod.mk.inj e
      rw [bindL_other hn.1, if_pos hk]
      show (if x = x then some v else m x) = some v; rw [if_pos rfl]
    · exact bindL_get hk hn.2 h'
theorem bindC_other {kindOf : Str → Option NameKind} {x : Str} : ∀ {l : List (Str × Value)} {m : Str → Option Value}, x ∉ l.map (·.1) → bindC kindOf l m x = m x
  | [], _, _ => rfl
  | (y, v) :: r, m, h => by
    rw [List.map_cons, List.mem_cons, not_or] at h
    unfold bindC
    rw [bindC_other h.2]
    split
    · rfl
    · show (if x = y then some v else m x) = m x; rw [if_neg h.1]
theorem bindC_get {kindOf : Str → Option NameKind} {x : Str} {v : Value} (hk : kindOf x ≠ some .local) : ∀ {l : List (Str × Value)} {m : Str → Option Value}, (l.map (·.1)).Nodup → (x, v) ∈ l → bindC kindOf l m x = some v
  | (y, u) :: r, m, hn, h => by
    rw [List.map_cons, List.nodup_cons] at hn
    unfold bindC
    rcases List.mem_cons.mp h with e | h'
    · obtain ⟨rfl, rfl⟩ := Prod.mk.inj e
      rw [bindC_other hn.1, if_neg hk]
      show (if x = x then some v else m x) = some v; rw [if_pos rfl]
    · exact bindC_get hk hn.2 h'

theorem zip_keys {xs : List Str} {vs : List Value} (h : xs.Nodup) : ((xs.zip vs).map (·.1)).Nodup := by
  have : ∀ (xs : List Str) (vs : List Value), List.Sublist ((xs.zip vs).map (·.1)) xs := by
    intro xs
    induction xs with
    | nil => intro vs; exact List.Sublist.slnil
    | cons x xs ih =>
      intro vs
      cases vs with
      | nil => exact List.nil_sublist _
      | cons v vs => exact (ih vs).cons₂ x
  exact (this xs vs).nodup h

structure FS (fn : Fn) : Prop where
  hnd : (fn.names.map (·.1)).Nodup
  hall : ∀ x k, (x, k) ∈ fn.names → plainNm x = true ∧ k ≠ .free ∧ k ≠ .globalExplicit
  hnp : fn.npar ≤ fn.names.length
  hpar : ∀ i x k, i < fn.npar → fn.names[i]? = some (x, k) → k = .local ∨ k = .cell
theorem fs_of {fn : Fn} (h : fnStat fn = true) : FS fn := by
  obtain ⟨h, h4⟩ := andT h
  obtain ⟨h, h3⟩ := andT h
  obtain ⟨h1, h2⟩ := andT h
  refine ⟨nodupNm_spec h1, fun x k hx => ?_, decT h3, fun i x k hi hx => ?_⟩
  · obtain ⟨q, q3⟩ := andT (List.all_eq_true.mp h2 (x, k) hx)
    exact ⟨(andT q).1, decT (andT q).2, decT q3⟩
  · have := List.all_eq_true.mp h4 (x, k) (List.mem_of_getElem? (i := i) (by rw [List.getElem?_take_of_lt hi]; exact hx))
    exact (Bool.or_eq_true_iff.mp this).imp decT decT
theorem zip_at {fn : Fn} {vs : List Value} (S : FS fn) (hvl : vs.length = fn.npar) {x : Str × Value} (hx : x ∈ (fn.names.map (·.1)).zip vs) : ∃ k, (x.1, k) ∈ fn.names ∧ (k = .local ∨ k = .cell) := by
  obtain ⟨_, _, _, S_hpar⟩ := S
  obtain ⟨i, hi⟩ := List.mem_iff_getElem?.mp hx
  rw [List.getElem?_zip_eq_some] at hi
  obtain ⟨h1, h2⟩ := hi
  rw [List.getElem?_map] at h1
  obtain ⟨⟨y, k⟩, e1, e2⟩ := mapE h1
  obtain rfl : y = x.1 := e2
  exact ⟨k, List.mem_of_getElem? e1, S_hpar i x.1 k (by rw [← hvl]; exact (List.getElem?_eq_some_iff.mp h2).1) e1⟩
theorem rho_at {args : List D} {n m i : Nat} {d : D} (hal : args.length = n) (h : ((args.map some ++ List.replicate m none)[i]?).join = some d) : i < n ∧ args[i]? = some d := by
  by_cases hi : i < args.length
  · rw [List.getElem?_append_left (by simpa using hi), List.getElem?_map] at h
    refine ⟨by rw [← hal]; exact hi, ?_⟩
    rw [List.getElem?_eq_getElem hi] at h ⊢
    simpa using h
  · rw [List.getElem?_append_right (by simpa using hi), List.getElem?_replicate] at h
    split at h <;> exact none_ne h
noncomputable def ownOf (env : Env) : List Addr := env.locals :: env.cells.filterMap fun q => env.cells.lookup q.1
theorem fn_frame {fn : Fn} {fa : Addr} {o : Obj} {fd : FuncData} {body : List Stmt} {args : List D} {vs : List Value} {env : Env} {s₁ : Shared} (he : env = callEnvC fd s.heap.objs.size fa) (hf : FnIs base fa fn o fd body) (S : FS fn) (I : SI prog w base μ st s.heap) (hV : VRs μ s.heap args vs) (hal : args.length = fn.npar)
    (X : InCallC s env.locals (bindL env.kindOf ((fn.names.map (·.1)).zip vs) fun _ => none) env.cells (bindC env.kindOf ((fn.names.map (·.1)).zip vs) fun _ => none) s₁) :
    FR base env fn.names (ownOf env) μ (args.map some ++ List.replicate (fn.names.length - fn.npar) none) s₁.heap ∧ ∀ b ∈ ownOf env, s.heap.get? b = none := by
  obtain ⟨hnd, hall, hnp, hpar⟩ := S
  have hkind : env.scope.kind = .function := by rw [he]; exact hf.kind
  have hglob : env.globals = mainGlobals := by rw [he]; exact hf.glob
  have hblt : env.builtins = builtinsNs := by rw [he]; exact hf.blt
  have hcells : env.cells = cellsFrom (s.heap.objs.size + 1) fn.names [] := by rw [he, ← hf.names]; rfl
  have hle : env.locals = s.heap.objs.size := by rw [he]; rfl
  have hkindOf : ∀ x k, (x, k) ∈ fn.names → env.kindOf x = some k := fun x k h => by
    rw [he]; show fd.scope.names.lookup x = some k; rw [hf.names]; exact lookup_of_mem hnd h
  clear he hf
  have hnone : ∀ b ∈ ownOf env, s.heap.get? b = none := fun b hb => by
    refine fresh_none ?_
    rcases List.mem_cons.mp hb with rfl | hb
    · exact Nat.le_of_eq hle.symm
    · obtain ⟨q, hq, hl⟩ := List.mem_filterMap.mp hb
      exact Nat.le_of_lt (hle ▸ X.above q.1 b (mem_of_lookup hl))
  refine ⟨⟨⟨hkind, hglob, hblt, fun x k h => .inr ⟨(hall x k h).2.1, hkindOf x k h⟩, hnd, fun x k h => ?_⟩, ?_, ⟨_, X.toInCall.ns, fun i x k hi => ?_⟩, List.mem_cons_self, fun b hb q => ?_, fun b hb => ?_, fun x y c hx hy => ?_, fun b hb => ?_⟩, hnone⟩
  · simpa [plainNm] using (hall x k h).1
  · rw [List.length_append, List.length_map, List.length_replicate, hal, Nat.add_sub_cancel' hnp]
  · have hmem := List.mem_of_getElem? hi
    have hko := hkindOf x k hmem
    have hzm : ∀ d, ((args.map some ++ List.replicate (fn.names.length - fn.npar) none)[i]?).join = some d → ∃ v, (x, v) ∈ (fn.names.map (·.1)).zip vs ∧ VR μ s₁.heap d v := fun d hd => by
      obtain ⟨v, h3, h4⟩ := (hV.keeps X.toInCall.keep).get (rho_at hal hd).2
      refine ⟨v, List.mem_of_getElem? (i := i) ?_, h4⟩
      rw [List.getElem?_zip_eq_some]
      exact ⟨by rw [List.getElem?_map, hi]; rfl, h3⟩
    cases k with
    | «local» =>
      intro d hd
      obtain ⟨v, h1, h2⟩ := hzm d hd
      exact ⟨v, bindL_get hko (zip_keys hnd) h1, h2⟩
    | cell =>
      obtain ⟨c, hc⟩ := cellsFrom_has (n := s.heap.objs.size + 1) hmem
      rw [← hcells] at hc
      refine ⟨c, _, hc, X.cell x c hc, List.mem_cons_of_mem _ (List.mem_filterMap.mpr ⟨(x, c), mem_of_lookup hc, hc⟩), Nat.ne_of_gt (X.above x c (mem_of_lookup hc)), fun d hd => ?_⟩
      · obtain ⟨v, h1, h2⟩ := hzm d hd
        exact ⟨v, bindC_get (by rw [hko]; decide) (zip_keys hnd) h1, h2⟩
    | free => exact absurd rfl (hall x .free hmem).2.1
    | globalExplicit => exact absurd rfl (hall x .globalExplicit hmem).2.2
    | globalImplicit =>
      cases e : ((args.map some ++ List.replicate (fn.names.length - fn.npar) none)[i]?).join with
      | none => rfl
      | some d => rcases hpar i x _ (rho_at hal e).1 hi with q | q <;> cases q
  · obtain ⟨oo, ho⟩ := I.alive b q; rw [hnone b hb] at ho; exact none_ne ho
  · rcases List.mem_cons.mp hb with rfl | hb
    · obtain ⟨oo, es, ep, ho, hd, _⟩ := X.toInCall.ns
      exact ⟨oo, ho, .inl ⟨es, ep, hd⟩⟩
    · obtain ⟨q, hq, hl⟩ := List.mem_filterMap.mp hb
      obtain ⟨oo, ho, hd⟩ := X.cell q.1 b hl
      exact ⟨oo, ho, .inr ⟨_, hd⟩⟩
  · exact name_of_addr X.apart (mem_of_lookup hx) (mem_of_lookup hy)
  · cases e : base.get? b with
    | none => rfl
    | some oo => have := hnone b hb; rw [I.keep b oo e] at this; exact none_ne this.symm
theorem callFnC {fn : Fn} {fa : Addr} {o : Obj} {fd : FuncData} {body : List Stmt} {args : List D} {vs : List Value} {z : D} {st' : St} (B : HB base mg mb) (hlim : base.NoLimit) (hcf : CallOk prog w base mg n cf) (hf : FnIs base fa fn o fd body)
    (hev : runFn cf fn fz args st = some (z, st')) (hA : AOk (n + 1) A) (I : SI prog w base μ st s.heap) (hV : VRs μ s.heap args vs) : codeAny (model prog w) A (.call (.ref fa) ⟨vs, []⟩) (fun r s' => match r with | .ok (.ret v) => PE prog w base μ fz s st' z v s' | .ok _ => False | .error e => E' e s') s := by
  have S := fs_of hf.stat
  obtain ⟨hal, hev⟩ := iteO hev
  obtain ⟨⟨fl, ρ', st1⟩, hp, hev⟩ := bindE hev
  have hvl : vs.length = fn.npar := by rw [hV.length]; exact hal
  refine codeAny_call_cells (binds := (fn.names.map (·.1)).zip vs) (Nat.lt_of_le_of_lt (Nat.le_add_right _ _) hA.depth) (I.keep _ _ hf.get) hf.data ?_ (hf.code.keeps I.keep) hf.hbody (hf.bind vs hvl) hf.clos (fun x hx => ?_) (fun s₁ X => ?_) hf.co hf.gen hf.kind
  · obtain ⟨mc, h1, h2⟩ := hlim
    exact ⟨mc, ns_keep I h1, h2⟩
  · obtain ⟨k, hmem, hk⟩ := zip_at S hvl hx
    rw [hf.names]
    rcases hk with rfl | rfl
    · exact .inl (lookup_of_mem S.hnd hmem)
    · obtain ⟨c, hc⟩ := cellsFrom_has (n := s.heap.objs.size + 1) hmem
      exact .inr ⟨lookup_of_mem S.hnd hmem, by rw [hc]; rfl⟩
  · obtain ⟨F1, hnone⟩ := fn_frame rfl hf S I hV hal X
    have hA' : AOk n (A.deeper (callEnvC fd s.heap.objs.size fa)) := ⟨hA.handled, by have := hA.depth; show A.depth + 1 + n < _; lia, by have := hA.units; show A.units + 3 + 4 * n + 20 < _; lia⟩
    have T0 : Stp NoW fz μ s μ s₁ := by
      obtain ⟨h', tk, rfl⟩ := X.toInCall.same
      exact Stp.ofKeep X.toInCall.keep I.alive
    refine wpAny_mono ((sndS_all B hcf fn.body).all hf.chk hp hA' F1 (I.keeps X.toInCall.keep)) (fun f s2 g => ?_) fun _ _ e => e
    obtain ⟨μ2, T2, I2, F2, R2⟩ := g
    have T : Stp NoW fz μ s μ2 s2 := (T0.up.trans T2).drop (fun b q => .inr (hnone b q)) I.zlive
    rcases fl with _ | _ | d
    · obtain ⟨rfl, rfl⟩ := someP hev
      obtain rfl := flR_next R2
      exact ⟨μ2, T, I2, by exact rfl⟩
    · exact none_ne hev
    · obtain ⟨rfl, rfl⟩ := someP hev
      obtain ⟨v, rfl, R2⟩ := flR_ret R2
      exact ⟨μ2, T, I2, R2⟩

theorem callFn {fn : Fn} {fa : Addr} {o : Obj} {fd : FuncData} {body : List Stmt} {args : List D} {vs : List Value} {z : D} {st' : St} (B : HB base mg mb) (hlim : base.NoLimit) (hcf : CallOk prog w base mg n cf) (hf : FnIs base fa fn o fd body)
    (hev : runFn cf fn fz args st = some (z, st')) (hA : AOk (n + 1) A) (I : SI prog w base μ st s.heap) (hV : VRs μ s.heap args vs) : wpAny (model prog w) A (call (.ref fa) vs) (PE prog w base μ fz s st' z) E' s :=
  wpAny_call (callFnC B hlim hcf hf hev hA I hV)

theorem callAll_ok {tb : List Fn} (B : HB base mg mb) (hlim : base.NoLimit) (hall : ∀ f fn, tb[f]? = some fn → FnOk base mg f fn) (N : Nat) : CallOk prog w base mg N (callAll tb N) := by
  induction N with
  | zero => intro fz f args st z st' x a hev; exact none_ne hev
  | succ N ih =>
    intro fz f args st z st' x a hev hx hma A E' s μ vs hA I hV
    by_cases hfn : f = N
    · obtain ⟨fn, hfn, hev2⟩ := bindE ((if_pos hfn).symm.trans hev)
      subst f
      obtain ⟨a', o, fd, body, e1, e2⟩ := hall _ fn hfn x hx
      obtain rfl := Value.ref.inj (Option.some.inj (hma.symm.trans e1))
      exact callFn B hlim ih e2 hev2 hA I hV
    · exact ih ((if_neg hfn).symm.trans hev) hx hma ⟨hA.handled, by have := hA.depth; lia, by have := hA.units; lia⟩ I hV
end Mine
end
section
open PySem PySem.W PyProof.Rows
set_option linter.unusedVariables false
namespace Mine

theorem lookup_zip : ∀ {xs : List Str} {vs : List Value}, xs.Nodup → vs.length = xs.length → xs.filterMap (fun n => ((xs.zip vs).lookup n).map fun v => (n, v)) = xs.zip vs := by
  have key : ∀ (xs : List Str) (vs : List Value) (pre : List (Str × Value)), xs.Nodup → vs.length = xs.length → (∀ x ∈ xs, pre.lookup x = none) → xs.filterMap (fun n => ((pre ++ xs.zip vs).lookup n).map fun v => (n, v)) = xs.zip vs := by
    intro xs
    induction xs with
    | nil => intro vs pre _ _ _; rfl
    | cons x xs ih =>
      intro vs pre hn hl hp
      cases vs with
      | nil => simp at hl
      | cons v vs =>
        rw [List.nodup_cons] at hn
        have e1 : (pre ++ (x :: xs).zip (v :: vs)).lookup x = some v := by
          rw [lookup_append, hp x List.mem_cons_self]
          simp
        rw [List.filterMap_cons, e1]
        show (x, v) :: _ = (x, v) :: xs.zip vs
        congr 1
        have := ih vs (pre ++ [(x, v)]) hn.2 (by simpa using hl) fun y hy => by
          rw [lookup_append, hp y (List.mem_cons_of_mem _ hy)]
          have : (y == x) = false := by rw [beq_eq_false_iff_ne]; rintro rfl; exact hn.1 hy
          simp [List.lookup_cons, this]
        rw [← this]
        simp [List.append_assoc]
  intro xs vs hn hl
  exact key xs vs [] hn hl fun _ _ => rfl

theorem zip_has {xs : List Str} {vs : List Value} (hl : vs.length = xs.length) {x : Str} (h : x ∈ xs) : ((xs.zip vs).lookup x).isSome = true := by
  induction xs generalizing vs with
  | nil => cases h
  | cons y xs ih =>
    cases vs with
    | nil => simp at hl
    | cons v vs =>
      rw [List.zip_cons_cons, List.lookup_cons]
      split
      · rfl
      · rename_i hb
        rcases List.mem_cons.mp h with e | h
        · subst e; simp at hb
        · exact ih (by simpa using hl) h

theorem bind_core {name qn : Str} {args : List Arg} {body : FuncBody} {sc : Scope} {gl bu : Addr} {cl : List (Str × Addr)} {kwd doc pm code ct : Value} {an : Option Addr} {kd : List (Option Expr)} {df : List Expr} {vals : List Value} (ns : List Str) (hns : args.map (fun a : Arg => a.arg) = ns) (hgt : ¬ ((decide (vals.length > ns.length) && true) = true))
    (hmiss : ¬ ((!((ns.take (ns.length - (List.drop (([] : List Value).length - ns.length) ([] : List Value)).length)).filter (fun n => ((ns.zip vals).lookup n).isNone)).isEmpty) = true))
    (hz : (ns.drop (ns.length - (List.drop (([] : List Value).length - ns.length) ([] : List Value)).length)).zip (List.drop (([] : List Value).length - ns.length) ([] : List Value)) = [])
    (e : (ns ++ []).filterMap (fun n => ((ns.zip vals).lookup n).map fun v => (n, v)) = ns.zip vals) :
    bindArgs ⟨name, qn, ⟨[], args, none, [], kd, none, df⟩, body, sc, gl, cl, .none, kwd, doc, pm, an, code, ct, bu⟩ ⟨vals, []⟩ = pure (ns.zip vals) := by
  subst hns
  refine (if_neg hgt).trans ?_
  refine (if_neg hmiss).trans ?_
  show (forIn ((List.drop _ _).zip (List.drop _ _)) _ _ >>= _) = _
  refine (congrArg (fun l => (forIn l _ _ >>= _)) hz).trans ?_
  exact congrArg (pure : List (Str × Value) → Sem (List (Str × Value))) e
theorem bind_plain {fd : FuncData} {vals : List Value} (hp : fd.params.posonlyargs = []) (hk : fd.params.kwonlyargs = []) (hva : fd.params.vararg = none) (hkw : fd.params.kwarg = none) (hdef : fd.defaults = .none)
    (hn : (fd.params.args.map (·.arg)).Nodup) (hl : vals.length = fd.params.args.length) : bindArgs fd ⟨vals, []⟩ = pure ((fd.params.args.map (·.arg)).zip vals) := by
  obtain ⟨name, qn, ⟨pp, args, va, kk, kd, kw, df⟩, body, sc, gl, cl, defs, kwd, doc, pm, an, code, ct, bu⟩ := fd
  obtain rfl : pp = [] := hp
  obtain rfl : kk = [] := hk
  obtain rfl : va = none := hva
  obtain rfl : kw = none := hkw
  obtain rfl : defs = .none := hdef
  have hl' : vals.length = (args.map (·.arg)).length := (List.length_map _).symm ▸ hl
  refine bind_core _ rfl ?_ (fun q => ?_) (by rw [List.drop_nil, List.zip_nil_right]) (by rw [List.append_nil]; exact lookup_zip hn hl')
  · rw [hl', Bool.and_true, decide_eq_true_iff]; exact Nat.lt_irrefl _
  · rw [Bool.not_eq_true'] at q
    refine Bool.false_ne_true (q.symm.trans (List.isEmpty_iff.mpr (List.filter_eq_nil_iff.mpr fun x hx q => ?_)))
    have := zip_has hl' (List.mem_of_mem_take hx)
    rw [Option.isNone_iff_eq_none.mp q] at this
    exact Bool.false_ne_true this

noncomputable def okFn (p : Program) (f : Nat) (fn : Fn) : Bool := match (recsOf p).find? (fun d => decide (fnNames[f]? = some d.name)) with
  | some d => decide (d.scope.names = fn.names) && decide (d.scope.kind = .function) && !d.scope.isCoroutine && !d.scope.isGenerator && d.params.posonlyargs.isEmpty && d.params.kwonlyargs.isEmpty && d.params.vararg.isNone && d.params.kwarg.isNone &&
      decide (d.params.args.map (·.arg) = (fn.names.take fn.npar).map (·.1)) && decide (d.params.args.length = fn.npar) && chkSs fn.body fn.names d.body && fnStat fn
  | none => false
noncomputable def okAll (p : Program) : List Fn → Nat → Bool
  | [], _ => true
  | fn :: r, f => okFn p f fn && okAll p r (f + 1)
end Mine
end
section
open PySem PySem.W PyProof.Rows
set_option linter.unusedVariables false
set_option maxRecDepth 100000
namespace Mine
noncomputable def nmBlts : List Str := ["len", "abs", "sum", "max", "any", "tuple", "dict", "int", "range", "enumerate"]
/-- no name of the builtins that the law reads is bound at the top of the view -/
noncomputable def freeAll (q : Program) : Bool := nmBlts.all (fun x => !(startupNames.contains x) && !((looseW q []).contains x) && !(((recsOf q).map (·.name)).contains x) && !(((litsOf q).map (·.1)).contains x) && !(((clssOf q (looseW q [])).map (·.name)).contains x))
end Mine
end
section
open PySem PySem.W PyProof.Rows
set_option linter.unusedVariables false
set_option maxRecDepth 100000
namespace Mine

theorem okAll_spec {p : Program} : ∀ {l : List Fn} {k i : Nat} {fn : Fn}, okAll p l k = true → l[i]? = some fn → okFn p (k + i) fn = true
  | [], _, _, _, _, h => by simp at h
  | x :: r, k, 0, fn, h, hi => by
    simp only [okAll, Bool.and_eq_true] at h
    simp at hi; subst hi; exact h.1
  | x :: r, k, i + 1, fn, h, hi => by
    simp only [okAll, Bool.and_eq_true] at h
    simp only [List.getElem?_cons_succ] at hi
    have := okAll_spec h.2 hi
    rwa [show k + 1 + i = k + (i + 1) by lia] at this

theorem zip_take {α β : Type} : ∀ {l : List α} {v : List β} {n : Nat}, v.length = n → (l.take n).zip v = l.zip v
  | [], _, _, _ => by simp
  | x :: l, [], _, h => by simp
  | x :: l, y :: v, n, h => by
    subst h
    rw [List.length_cons, List.take_succ_cons, List.zip_cons_cons, List.zip_cons_cons, zip_take rfl]

variable {loose : List Str} {mean : ExcName → Option Value} {mg mb : Str → Option Value} {h : Heap}

theorem fnOk_of {q : Program} (hq : okAll q tab 0 = true) (T : Top q loose mean mg mb h) (f : Nat) (fn : Fn) (hf : tab[f]? = some fn) : FnOk h mg f fn := by
  have ok := okAll_spec hq hf
  rw [Nat.zero_add] at ok
  intro x hx
  unfold okFn at ok
  split at ok
  · rename_i d hd'
    simp only [Bool.and_eq_true, decide_eq_true_eq, Bool.not_eq_true', List.isEmpty_iff, Option.isNone_iff_eq_none] at ok
    obtain ⟨⟨⟨⟨⟨⟨⟨⟨⟨⟨⟨h1, h2⟩, h3⟩, h4⟩, h5⟩, h6⟩, h7⟩, h8⟩, h9⟩, h10⟩, h11⟩, h12⟩ := ok
    have hm := List.mem_of_find?_eq_some hd'
    have hn := List.find?_some hd'
    simp only [decide_eq_true_eq] at hn
    rw [hx] at hn
    obtain rfl := Option.some.inj hn
    obtain ⟨a, o, pm, code, doc, e1, e2, e3, e4⟩ := T.fn d hm
    refine ⟨a, o, _, d.body, e1, ⟨e2, e3, rfl, h1, h2, h3, h4, rfl, rfl, rfl, e4, fun vals hv => ?_, h11, h12⟩⟩
    have hst := h12
    simp only [fnStat, Bool.and_eq_true] at hst
    have hnd := nodupNm_spec hst.1.1.1
    have hnn : (d.params.args.map (·.arg)).Nodup := by
      rw [h9, List.map_take]
      exact (List.take_sublist _ _).nodup hnd
    have := bind_plain (fd := PySem.Calls.docDef d.name d.params d.body d.scope pm code doc) (vals := vals) h5 h6 h7 h8 rfl hnn (by rw [hv]; exact h10.symm)
    rw [this]
    congr 1
    show (d.params.args.map (·.arg)).zip vals = _
    rw [h9, List.map_take, zip_take hv]
  · cases ok
end Mine
open PySem PySem.W PyProof.Rows
namespace Mine
variable {loose : List Str} {mean : ExcName → Option Value} {mg mb : Str → Option Value} {h : Heap}
theorem boots : nmBlts.map bootBuiltins = [some (.builtin "len"), some (.builtin "abs"), some (.builtin "sum"), some (.builtin "max"), some (.builtin "any"), some (.type "tuple"), some (.type "dict"), some (.type "int"), some (.type "range"), some (.type "enumerate")] := by decide +kernel
theorem glob_at {q : Program} (T : Top q loose mean mg mb h) (X0 : obsH h = true) : ∃ es, (∀ x, nsFind es x = mg x) ∧ tupAt h es "R0" 0 1 = true ∧ tupAt h es "R1" 1 1 = true ∧ intAt es "MOST_FAR" 20000 = true ∧ intAt es "MOST_WORK" 3000000 = true := by
  obtain ⟨o, es, ep, ho, hd', _, hm⟩ := T.g
  obtain ⟨o2, es2, ep2, h1, h2, h3⟩ := obsH_get X0
  rw [ho] at h1; obtain rfl := Option.some.inj h1
  rw [hd'] at h2; cases h2
  obtain ⟨h2, h5⟩ := andT h3
  obtain ⟨h3, h4⟩ := andT h2
  exact ⟨es, hm, (andT h3).1, (andT h3).2, h4, h5⟩
theorem tup_vr {es : Array DictEntry} {x : Str} {i j : Int} (hm : ∀ x, nsFind es x = mg x) (e : tupAt h es x i j = true) : ∃ v, mg x = some v ∧ VR ⟨[], []⟩ h (.tup [.int i, .int j]) v := by
  obtain ⟨a, o, n, u, v, h1, h2, h3, h4⟩ := tupAt_get e
  refine ⟨.ref a, by rw [← hm]; exact h1, ?_⟩
  unfold VR
  exact ⟨a, [.int i u, .int j v], rfl, fun q => q.elim (fun q => by cases q) fun q => (by cases q), ⟨o, h2, h3, n, h4⟩, VRs.cons (by unfold VR; exact ⟨u, rfl⟩) (VRs.cons (by unfold VR; exact ⟨v, rfl⟩) VRs.nil)⟩
theorem int_vr {es : Array DictEntry} {x : Str} {i : Int} (hm : ∀ x, nsFind es x = mg x) (e : intAt es x i = true) : ∃ v, mg x = some v ∧ VR ⟨[], []⟩ h (.int i) v := by
  obtain ⟨v, e1, h1⟩ := onO_s e
  obtain ⟨u, t, rfl, h2⟩ := onIntV_s h1
  obtain rfl := decT h2
  exact ⟨_, (hm x).symm.trans e1, t, rfl⟩

theorem blt_none {q : Program} (hfr : freeAll q = true) (T : Top q (looseW q []) mean mg mb h) {x : Str} (hx : x ∈ nmBlts) : mg x = none := by
  have := List.all_eq_true.mp hfr x hx
  simp only [Bool.and_eq_true, Bool.not_eq_true', List.contains_eq_mem, decide_eq_false_iff_not] at this
  obtain ⟨⟨⟨⟨h1, h2⟩, h3⟩, h4⟩, h5⟩ := this
  exact T.free x h1 h2 h3 h4 h5
theorem blt_some {q : Program} (T : Top q (looseW q []) mean mg mb h) {i : Nat} {x : Str} {v : Value} (hx : nmBlts[i]? = some x) (hv : (nmBlts.map bootBuiltins)[i]? = some (some v)) : mb x = some v := by
  rw [List.getElem?_map, hx] at hv
  have hne : x ≠ "__name__" := fun e => by
    subst e
    have : ("__name__" : Str) ∉ nmBlts := by decide +kernel
    exact this (List.mem_of_getElem? hx)
  rw [T.builtins x hne]
  simpa using hv

theorem hb_of {q : Program} (hq : okAll q tab 0 = true) (hfr : freeAll q = true) (T : Top q (looseW q []) mean mg mb h) (X0 : obsH h = true) : HB h mg mb := by
  obtain ⟨es, hm, g0, g1, g2, g3⟩ := glob_at T X0
  refine ⟨T.g, T.b, fun g x d hx hd' => ?_, fun b => ?_, ?_, ?_, ?_, fun f x hx => ?_⟩
  · rcases g with _ | _ | _ | _ | g
    · obtain rfl := Option.some.inj hx; cases hd'; exact tup_vr hm g0
    · obtain rfl := Option.some.inj hx; cases hd'; exact tup_vr hm g1
    · obtain rfl := Option.some.inj hx; cases hd'; exact int_vr hm g2
    · obtain rfl := Option.some.inj hx; cases hd'; exact int_vr hm g3
    · simp [globNames] at hx
  · cases b
    · exact ⟨blt_none hfr T (by simp [nmBlts, bltNm]), blt_some (i := 0) T rfl (by rw [boots]; rfl)⟩
    · exact ⟨blt_none hfr T (by simp [nmBlts, bltNm]), blt_some (i := 1) T rfl (by rw [boots]; rfl)⟩
    · exact ⟨blt_none hfr T (by simp [nmBlts, bltNm]), blt_some (i := 2) T rfl (by rw [boots]; rfl)⟩
    · exact ⟨blt_none hfr T (by simp [nmBlts, bltNm]), blt_some (i := 3) T rfl (by rw [boots]; rfl)⟩
    · exact ⟨blt_none hfr T (by simp [nmBlts, bltNm]), blt_some (i := 4) T rfl (by rw [boots]; rfl)⟩
    · exact ⟨blt_none hfr T (by simp [nmBlts, bltNm]), blt_some (i := 5) T rfl (by rw [boots]; rfl)⟩
    · exact ⟨blt_none hfr T (by simp [nmBlts, bltNm]), blt_some (i := 6) T rfl (by rw [boots]; rfl)⟩
    · exact ⟨blt_none hfr T (by simp [nmBlts, bltNm]), blt_some (i := 7) T rfl (by rw [boots]; rfl)⟩
  · exact ⟨blt_none hfr T (by simp [nmBlts]), blt_some (i := 8) T rfl (by rw [boots]; rfl)⟩
  · exact ⟨blt_none hfr T (by simp [nmBlts]), blt_some (i := 9) T rfl (by rw [boots]; rfl)⟩
  · obtain ⟨mc, ⟨o, _, _, ho, _⟩, _⟩ := T.nolimit
    exact ⟨o, ho⟩
  · have hlt : f < tab.length := by
      have := (List.getElem?_eq_some_iff.mp hx).1
      exact this
    obtain ⟨a, o, fd, body, e1, e2⟩ := fnOk_of hq T f _ (List.getElem?_eq_getElem hlt) x hx
    exact ⟨a, o, fd, e1, e2.get, e2.data⟩
end Mine
end
section
open PySem PySem.W PyProof.Rows
set_option linter.unusedVariables false
set_option maxRecDepth 100000
namespace Mine
variable {mean : ExcName → Option Value} {mg mb : Str → Option Value}

/-- the law through the evaluator -/
noncomputable def lawTrue (script : List Int) : Prop := ∃ st', callAll tab 32 [] 31 [.ilst (script.map .int)] [] = some (.bool true, st')

theorem ints_vrs {h : Heap} {μ : Mu} : ∀ {vs : List Value} {xs : List Int}, IntsAre vs xs → VRs μ h (xs.map .int) vs
  | _, _, .nil => VRs.nil
  | _, _, .cons n t r => VRs.cons (by unfold VR; exact ⟨t, rfl⟩) (ints_vrs r)

theorem law_enter {prog : Program} {w : World} {s : Shared} {fa l : Addr} {vs : List Value} {script : List Int} {q : Program} (hq : okAll q tab 0 = true) (hfr : freeAll q = true) (T : Top q (looseW q []) mean mg mb s.heap) (X0 : obsH s.heap = true)
    (hmg : mg "law" = some (.ref fa)) (hl : s.heap.IsList l vs.toArray) (hI : IntsAre vs script) (H : lawTrue script) {R : Result → Shared → Prop}
    (hR : ∀ s', (∀ b o, s.heap.get? b = some o → s'.heap.get? b = some o) → s'.os = s.os → s'.gens = s.gens → R (.ok (.ret (.bool true))) s') : codeAny (model prog w) callerA (.call (.ref fa) ⟨[.ref l], []⟩) R s := by
  obtain ⟨st', hev⟩ := H
  have B := hb_of hq hfr T X0
  have hall := fnOk_of hq T
  have hrun : runFn (callAll tab 31) f_law [] [.ilst (script.map .int)] [] = some (.bool true, st') := by
    have : callAll tab 32 [] 31 [.ilst (script.map .int)] [] = runFn (callAll tab 31) f_law [] [.ilst (script.map .int)] [] := rfl
    rw [← this]; exact hev
  obtain ⟨a, o, fd, body, e1, e2⟩ := hall 31 f_law rfl "law" rfl
  rw [hmg] at e1; cases e1
  have I : SI prog w s.heap ⟨[], []⟩ [] s.heap := ⟨fun _ _ e => e, rfl, List.nodup_nil, fun a h => h.elim (fun q => (by cases q)) fun q => (by cases q), fun a h => h.elim (fun q => (by cases q)) fun q => (by cases q), fun a h => (by cases h), fun a h => (by cases h), fun r a c e => (by simp at e)⟩
  refine codeAny_mono (callFnC (A := callerA) (E' := fun _ _ => False) B T.nolimit (callAll_ok B T.nolimit hall 31) e2 hrun ⟨rfl, by decide +kernel, by decide +kernel⟩ I (VRs.cons ?_ VRs.nil)) fun r s' h => ?_
  · unfold VR
    exact ⟨l, vs, rfl, fun q => q.elim (fun q => by cases q) fun q => (by cases q), hl, ints_vrs hI⟩
  · rcases r with e | f
    · exact h.elim
    · cases f with
      | ret v =>
        obtain ⟨μ', T', I', V'⟩ := h
        unfold VR at V'
        subst V'
        exact hR s' I'.keep T'.os T'.gens
      | _ => exact h.elim
end Mine
end
section
open PySem
set_option linter.unusedVariables false
namespace Mine
/-- polynomials of the plain law: keys (powers) with their number -/
noncomputable abbrev Po := List (List Int × Int)
noncomputable abbrev rt (c : Int) : D := .tup [.int c, .int 1]
noncomputable def toD (P : Po) : List (List Int × D) := P.map fun e => (e.1, rt e.2)
noncomputable def keys (P : Po) : List (List Int) := P.map Prod.fst

noncomputable def padd : Po → List Int → Int → Po
  | [], k, c => if c = 0 then [] else [(k, c)]
  | e :: r, k, c => if e.1 = k then (if e.2 + c = 0 then r else (k, e.2 + c) :: r) else e :: padd r k c
noncomputable def pget (P : Po) (k : List Int) : Option Int := (P.find? fun x => decide (x.1 = k)).map (·.2)

theorem toD_length (P : Po) : (toD P).length = P.length := by simp [toD]
theorem keys_toD (P : Po) : (toD P).map (fun e => e.1) = keys P := by simp [toD, keys]
theorem dget_toD (P : Po) (k : List Int) : dget (toD P) k = (pget P k).map rt := by
  induction P with
  | nil => rfl
  | cons e r ih =>
    simp only [dget, pget, toD, List.map_cons, List.find?_cons] at ih ⊢
    by_cases h : e.1 = k <;> simp [h]
    simpa using ih
theorem pget_none {P : Po} {k : List Int} : pget P k = none ↔ k ∉ keys P := by
  induction P with
  | nil => simp [pget, keys]
  | cons e r ih =>
    simp only [pget, keys, List.find?_cons, List.map_cons, List.mem_cons, not_or] at ih ⊢
    by_cases h : e.1 = k
    · simp [h]
    · have : ¬ k = e.1 := fun q => h q.symm
      simp [h, this]
      simpa using ih
theorem pget_mem {P : Po} {k : List Int} {c : Int} (h : pget P k = some c) : (k, c) ∈ P := by
  simp only [pget, Option.map_eq_some_iff] at h
  obtain ⟨e, h1, h2⟩ := h
  have := List.mem_of_find?_eq_some h1
  have h3 := List.find?_some h1
  simp only [decide_eq_true_eq] at h3
  subst h3; subst h2; exact this
theorem pget_of_mem {P : Po} (hn : (keys P).Nodup) {k : List Int} {c : Int} (h : (k, c) ∈ P) : pget P k = some c := by
  induction P with
  | nil => cases h
  | cons e r ih =>
    simp only [keys, List.map_cons, List.nodup_cons] at hn
    rcases List.mem_cons.mp h with h | h
    · subst h; simp [pget]
    · have : e.1 ≠ k := by rintro rfl; exact hn.1 (List.mem_map.mpr ⟨_, h, rfl⟩)
      have := ih hn.2 h
      simp only [pget, List.find?_cons] at this ⊢
      simp [*]

theorem padd_none {P : Po} {k : List Int} (h : k ∉ keys P) (c : Int) : padd P k c = if c = 0 then P else P ++ [(k, c)] := by
  induction P with
  | nil => rfl
  | cons e r ih =>
    simp only [keys, List.map_cons, List.mem_cons, not_or] at h
    rw [padd, if_neg fun q => h.1 q.symm, ih h.2]
    split <;> rfl
theorem ddel_none {P : Po} {k : List Int} (h : k ∉ keys P) : ddel (toD P) k = toD P := by
  rw [ddel, List.filter_eq_self]
  intro e he
  simp only [toD, List.mem_map] at he
  obtain ⟨x, hx, rfl⟩ := he
  simp only [Bool.not_eq_true', decide_eq_false_iff_not]
  rintro rfl
  exact h (List.mem_map.mpr ⟨x, hx, rfl⟩)
theorem dput_none {P : Po} {k : List Int} (h : k ∉ keys P) (c : Int) : dput (toD P) k (rt c) = toD (P ++ [(k, c)]) := by
  rw [dput, dget_toD, pget_none.mpr h]
  simp [toD]
theorem map_none {P : Po} {k : List Int} (h : k ∉ keys P) (v : D) : (toD P).map (fun e => if e.1 = k then (e.1, v) else e) = toD P := by
  rw [← List.map_id (toD P), List.map_map]
  apply List.map_congr_left
  intro e he
  simp only [toD, List.mem_map] at he
  obtain ⟨x, hx, rfl⟩ := he
  have : x.1 ≠ k := by rintro rfl; exact h (List.mem_map.mpr ⟨x, hx, rfl⟩)
  simp [this]
theorem padd_some {P : Po} (hn : (keys P).Nodup) {k : List Int} {o : Int} (h : pget P k = some o) (c : Int) :
    (if o + c = 0 then ddel (toD P) k else dput (toD P) k (rt (o + c))) = toD (padd P k c) := by
  have hs : (dget (toD P) k).isSome = true := by rw [dget_toD, h]; rfl
  rw [dput, if_pos hs]
  clear hs
  induction P with
  | nil => simp [pget] at h
  | cons e r ih =>
    simp only [keys, List.map_cons, List.nodup_cons] at hn
    rw [padd]
    by_cases hk : e.1 = k
    · subst hk
      have ho : e.2 = o := by simpa [pget] using h
      subst ho
      rw [if_pos rfl]
      have h1 := ddel_none hn.1
      have h2 := map_none hn.1 (rt (e.2 + c))
      split
      · simp only [ddel, toD, List.map_cons, List.filter_cons, decide_true, Bool.not_true, Bool.false_eq_true, if_false] at h1 ⊢
        exact h1
      · simp only [toD, List.map_cons, if_true] at h2 ⊢
        rw [h2]
    · have := ih hn.2 (by simpa [pget, hk] using h)
      rw [if_neg hk]
      split <;> rename_i hz
      · rw [if_pos hz] at this
        simp only [ddel, toD, List.map_cons, List.filter_cons, hk, decide_false, Bool.not_false, if_true] at this ⊢
        rw [this]
      · rw [if_neg hz] at this
        simp only [toD, List.map_cons, hk, if_false] at this ⊢
        rw [this]

theorem keys_padd {P : Po} {k : List Int} {c : Int} {j : List Int} (h : j ∈ keys (padd P k c)) : j = k ∨ j ∈ keys P := by
  induction P with
  | nil =>
    rw [padd] at h
    split at h
    · cases h
    · simp [keys] at h; exact .inl h
  | cons e r ih =>
    rw [padd] at h
    by_cases hk : e.1 = k
    · rw [if_pos hk] at h
      split at h
      · right; simp only [keys, List.map_cons, List.mem_cons]; right; exact h
      · simp only [keys, List.map_cons, List.mem_cons] at h ⊢
        rcases h with h | h
        · exact .inl h
        · exact .inr (.inr h)
    · rw [if_neg hk] at h
      simp only [keys, List.map_cons, List.mem_cons] at h ⊢ ih
      rcases h with h | h
      · exact .inr (.inl h)
      · rcases ih h with h | h
        · exact .inl h
        · exact .inr (.inr h)
theorem nodup_padd {P : Po} (hn : (keys P).Nodup) (k : List Int) (c : Int) : (keys (padd P k c)).Nodup := by
  induction P with
  | nil =>
    rw [padd]; split
    · exact List.nodup_nil
    · simp [keys]
  | cons e r ih =>
    have hn' := hn
    simp only [keys, List.map_cons, List.nodup_cons] at hn
    rw [padd]
    by_cases hk : e.1 = k
    · rw [if_pos hk]
      split
      · exact hn.2
      · subst hk; exact hn'
    · rw [if_neg hk]
      simp only [keys, List.map_cons, List.nodup_cons]
      refine ⟨fun q => ?_, ih hn.2⟩
      rcases keys_padd q with q | q
      · exact hk q
      · exact hn.1 q
noncomputable def Nz (P : Po) : Prop := ∀ e ∈ P, e.2 ≠ 0
theorem nz_padd {P : Po} (hz : Nz P) (k : List Int) (c : Int) : Nz (padd P k c) := by
  induction P with
  | nil =>
    rw [padd]; split
    · intro e he; cases he
    · intro e he; simp at he; subst he; assumption
  | cons e r ih =>
    have hr : Nz r := fun x hx => hz x (List.mem_cons_of_mem _ hx)
    rw [padd]
    split
    · split
      · exact hr
      · intro x hx
        rcases List.mem_cons.mp hx with h | h
        · subst h; assumption
        · exact hr x h
    · intro x hx
      rcases List.mem_cons.mp hx with h | h
      · subst h; exact hz _ List.mem_cons_self
      · exact ih hr x h
/-- weighted sums -/
noncomputable def L1 (P : Po) : Nat := (P.map fun e => e.2.natAbs).sum
noncomputable def meas (w : List Int → Nat) (P : Po) : Nat := (P.map fun e => w e.1).sum
theorem L1_padd (P : Po) (k : List Int) (c : Int) : L1 (padd P k c) ≤ L1 P + c.natAbs := by
  induction P with
  | nil => rw [padd]; split <;> simp [L1]
  | cons e r ih =>
    rw [padd]
    simp only [L1, List.map_cons, List.sum_cons] at ih ⊢
    split
    · split
      · lia
      · simp only [List.map_cons, List.sum_cons]; omega
    · simp only [List.map_cons, List.sum_cons]; lia
theorem meas_padd (w : List Int → Nat) (P : Po) (k : List Int) (c : Int) : meas w (padd P k c) ≤ meas w P + w k := by
  induction P with
  | nil => rw [padd]; split <;> simp [meas]
  | cons e r ih =>
    rw [padd]
    simp only [meas, List.map_cons, List.sum_cons] at ih ⊢
    split
    · rename_i h; subst h
      split
      · lia
      · simp only [List.map_cons, List.sum_cons]; lia
    · simp only [List.map_cons, List.sum_cons]; lia
theorem padd_kill {P : Po} {k : List Int} {c : Int} (hn : (keys P).Nodup) (h : (k, c) ∈ P) (w : List Int → Nat) :
    L1 (padd P k (-c)) + c.natAbs = L1 P ∧ meas w (padd P k (-c)) + w k = meas w P ∧ (padd P k (-c)).length + 1 = P.length := by
  induction P with
  | nil => cases h
  | cons e r ih =>
    simp only [keys, List.map_cons, List.nodup_cons] at hn
    rw [padd]
    rcases List.mem_cons.mp h with h | h
    · subst h
      simp [L1, meas, Int.add_right_neg]
      lia
    · have : e.1 ≠ k := by rintro rfl; exact hn.1 (List.mem_map.mpr ⟨_, h, rfl⟩)
      rw [if_neg this]
      have := ih hn.2 h
      simp only [L1, meas, List.map_cons, List.sum_cons, List.length_cons] at this ⊢
      lia
theorem len_le_L1 {P : Po} (hz : Nz P) : P.length ≤ L1 P := by
  induction P with
  | nil => simp
  | cons e r ih =>
    have := ih fun x hx => hz x (List.mem_cons_of_mem _ hx)
    have h2 := hz e List.mem_cons_self
    simp only [L1, List.map_cons, List.sum_cons, List.length_cons] at this ⊢
    lia
theorem mem_le_L1 {P : Po} {e : List Int × Int} (h : e ∈ P) : e.2.natAbs ≤ L1 P := by
  induction P with
  | nil => cases h
  | cons x r ih =>
    simp only [L1, List.map_cons, List.sum_cons]
    rcases List.mem_cons.mp h with h | h
    · subst h; lia
    · have := ih h
      simp only [L1] at this
      lia
theorem mem_meas {P : Po} {w : List Int → Nat} {e : List Int × Int} (h : e ∈ P) : w e.1 ≤ meas w P := by
  induction P with
  | nil => cases h
  | cons x r ih =>
    simp only [meas, List.map_cons, List.sum_cons]
    rcases List.mem_cons.mp h with h | h
    · subst h; lia
    · have := ih h
      simp only [meas] at this
      lia
end Mine
end
section
open PySem
set_option linter.unusedVariables false
namespace Mine
/-- worth of a monomial, of a polynomial, at a point -/
noncomputable def mono : List Int → List Int → Int
  | x :: xs, k :: ks => x ^ k.toNat * mono xs ks
  | _, _ => 1
noncomputable def ev (x : List Int) (P : Po) : Int := (P.map fun e => e.2 * mono x e.1).sum
noncomputable def ksum (a b : List Int) : List Int := List.zipWith (fun i j => i + j) a b
structure KK (n : Nat) (d : Int) (k : List Int) : Prop where
  len : k.length = n
  pos : ∀ i ∈ k, 0 ≤ i
  deg : k.sum ≤ d
theorem ev_nil (x : List Int) : ev x [] = 0 := rfl
theorem ev_cons (x : List Int) (e : List Int × Int) (r : Po) : ev x (e :: r) = e.2 * mono x e.1 + ev x r := by simp [ev]
theorem ev_padd (x : List Int) (P : Po) (k : List Int) (c : Int) : ev x (padd P k c) = ev x P + c * mono x k := by
  induction P with
  | nil => rw [padd]; split <;> simp [ev, *]
  | cons e r ih =>
    rw [padd]
    split
    · rename_i h; subst h
      split <;> rename_i h0
      · rw [ev_cons]
        have : c = - e.2 := by lia
        subst this
        rw [Int.neg_mul]; lia
      · rw [ev_cons, ev_cons]; show (e.2 + c) * mono x e.1 + _ = _
        rw [Int.add_mul]; lia
    · rw [ev_cons, ih, ev_cons]; lia
theorem mono_ksum (x : List Int) : ∀ {a b : List Int}, a.length = b.length → (∀ i ∈ a, 0 ≤ i) → (∀ i ∈ b, 0 ≤ i) → mono x (ksum a b) = mono x a * mono x b := by
  induction x with
  | nil => intro a b _ _ _; simp [mono]
  | cons x xs ih =>
    intro a b hl ha hb
    cases a with
    | nil => cases b with
      | nil => simp [ksum, mono]
      | cons => simp at hl
    | cons i a => cases b with
      | nil => simp at hl
      | cons j b =>
        have hi := ha i List.mem_cons_self
        have hj := hb j List.mem_cons_self
        have := ih (a := a) (b := b) (by simpa using hl) (fun y h => ha y (List.mem_cons_of_mem _ h)) (fun y h => hb y (List.mem_cons_of_mem _ h))
        simp only [ksum, List.zipWith_cons_cons, mono] at this ⊢
        rw [this, Int.toNat_add hi hj, Int.pow_add]
        simp only [Int.mul_assoc, Int.mul_left_comm]
theorem KK_ksum {n : Nat} {d e : Int} : ∀ {a b : List Int}, KK n d a → KK n e b → KK n (d + e) (ksum a b) := by
  intro a b ha hb
  refine ⟨by simp [ksum, ha.len, hb.len], ?_, ?_⟩
  · intro i hi
    simp only [ksum, List.mem_iff_getElem, List.getElem_zipWith, List.length_zipWith] at hi
    obtain ⟨j, hj, rfl⟩ := hi
    have h1 := ha.pos _ (List.getElem_mem (l := a) (n := j) (by lia))
    have h2 := hb.pos _ (List.getElem_mem (l := b) (n := j) (by lia))
    lia
  · have : ∀ {a b : List Int}, a.length = b.length → (ksum a b).sum = a.sum + b.sum := by
      intro a
      induction a with
      | nil => intro b h; cases b with
        | nil => rfl
        | cons => simp at h
      | cons i a ih => intro b h; cases b with
        | nil => simp at h
        | cons j b =>
          have := ih (b := b) (by simpa using h)
          simp only [ksum, List.zipWith_cons_cons, List.sum_cons] at this ⊢
          lia
    rw [this (by rw [ha.len, hb.len])]
    have := ha.deg
    have := hb.deg
    lia
/-- many terms added -/
noncomputable def paddall (P : Po) (L : Po) : Po := L.foldl (fun acc e => padd acc e.1 e.2) P
theorem paddall_snoc (P L : Po) (e : List Int × Int) : paddall P (L ++ [e]) = padd (paddall P L) e.1 e.2 := by simp [paddall]
theorem paddall_cons (P L : Po) (e : List Int × Int) : paddall P (e :: L) = paddall (padd P e.1 e.2) L := rfl
theorem paddall_append (P L M : Po) : paddall P (L ++ M) = paddall (paddall P L) M := by simp [paddall]
theorem ev_paddall (x : List Int) (P L : Po) : ev x (paddall P L) = ev x P + ev x L := by
  induction L generalizing P with
  | nil => simp [paddall, ev]
  | cons e r ih => rw [paddall_cons, ih, ev_padd, ev_cons]; lia
theorem nodup_paddall {P : Po} (hn : (keys P).Nodup) (L : Po) : (keys (paddall P L)).Nodup := by
  induction L generalizing P with
  | nil => exact hn
  | cons e r ih => exact ih (nodup_padd hn _ _)
theorem nz_paddall {P : Po} (hn : Nz P) (L : Po) : Nz (paddall P L) := by
  induction L generalizing P with
  | nil => exact hn
  | cons e r ih => exact ih (nz_padd hn _ _)
theorem L1_paddall (P L : Po) : L1 (paddall P L) ≤ L1 P + L1 L := by
  induction L generalizing P with
  | nil => simp [paddall, L1]
  | cons e r ih =>
    have h1 := ih (P := padd P e.1 e.2)
    have h2 := L1_padd P e.1 e.2
    have : L1 (e :: r) = e.2.natAbs + L1 r := by simp [L1]
    rw [paddall_cons, this]; lia
theorem keys_paddall {P L : Po} {j : List Int} (h : j ∈ keys (paddall P L)) : j ∈ keys P ∨ j ∈ keys L := by
  induction L generalizing P with
  | nil => exact .inl h
  | cons e r ih =>
    rcases ih (P := padd P e.1 e.2) h with h | h
    · rcases keys_padd h with h | h
      · subst h; right; simp [keys]
      · exact .inl h
    · right; simp only [keys, List.map_cons, List.mem_cons] at h ⊢; exact .inr h
theorem L1_append (L M : Po) : L1 (L ++ M) = L1 L + L1 M := by simp [L1]
structure Ok (n : Nat) (d : Int) (B : Nat) (P : Po) : Prop where
  nodup : (keys P).Nodup
  nz : Nz P
  kk : ∀ k ∈ keys P, KK n d k
  l1 : L1 P ≤ B
theorem KK.mono' {n : Nat} {d e : Int} {k : List Int} (h : KK n d k) (l : d ≤ e) : KK n e k := ⟨h.len, h.pos, Int.le_trans h.deg l⟩
theorem Ok.mono' {n : Nat} {d e : Int} {B C : Nat} {P : Po} (h : Ok n d B P) (l : d ≤ e) (l2 : B ≤ C) : Ok n e C P := ⟨h.nodup, h.nz, fun k hk => (h.kk k hk).mono' l, Nat.le_trans h.l1 l2⟩
theorem Ok.nil (n : Nat) (d : Int) : Ok n d 0 [] := ⟨List.nodup_nil, fun _ h => (by cases h), fun _ h => (by cases h), Nat.le_refl _⟩
theorem Ok.padd {n : Nat} {d : Int} {B : Nat} {P : Po} (h : Ok n d B P) {k : List Int} (hk : KK n d k) (c : Int) : Ok n d (B + c.natAbs) (padd P k c) :=
  ⟨nodup_padd h.nodup _ _, nz_padd h.nz _ _, fun j hj => (keys_padd hj).elim (fun e => e ▸ hk) (h.kk j), by have := L1_padd P k c; have := h.l1; lia⟩
theorem Ok.paddall {n : Nat} {d : Int} {B : Nat} {P : Po} (h : Ok n d B P) {L : Po} (hk : ∀ k ∈ keys L, KK n d k) : Ok n d (B + L1 L) (paddall P L) :=
  ⟨nodup_paddall h.nodup _, nz_paddall h.nz _, fun j hj => (keys_paddall hj).elim (h.kk j) (hk j), by have := L1_paddall P L; have := h.l1; lia⟩
theorem Ok.len {n : Nat} {d : Int} {B : Nat} {P : Po} (h : Ok n d B P) : P.length ≤ B := Nat.le_trans (len_le_L1 h.nz) h.l1
theorem Ok.abs {n : Nat} {d : Int} {B : Nat} {P : Po} (h : Ok n d B P) {e : List Int × Int} (he : e ∈ P) : e.2.natAbs ≤ B := Nat.le_trans (mem_le_L1 he) h.l1
/-- neg, sub, mul -/
noncomputable def pneg (P : Po) : Po := P.map fun e => (e.1, -e.2)
noncomputable def psub (P Q : Po) : Po := paddall P (pneg Q)
noncomputable def prow (P : Po) (e : List Int × Int) : Po := P.map fun d => (ksum d.1 e.1, d.2 * e.2)
noncomputable def pmul (P Q : Po) : Po := paddall [] (Q.flatMap (prow P))
theorem keys_pneg (P : Po) : keys (pneg P) = keys P := by simp [keys, pneg]
theorem L1_pneg (P : Po) : L1 (pneg P) = L1 P := by simp [L1, pneg, Function.comp_def]
theorem ev_pneg (x : List Int) (P : Po) : ev x (pneg P) = - ev x P := by
  induction P with
  | nil => rfl
  | cons e r ih => 
    have : pneg (e :: r) = (e.1, -e.2) :: pneg r := rfl
    rw [this, ev_cons, ev_cons, ih]; show -e.2 * mono x e.1 + _ = _; rw [Int.neg_mul]; lia
theorem Ok.pneg {n : Nat} {d : Int} {B : Nat} {P : Po} (h : Ok n d B P) : Ok n d B (pneg P) :=
  ⟨by rw [keys_pneg]; exact h.nodup, by
    intro e he
    simp only [Mine.pneg, List.mem_map] at he
    obtain ⟨x, hx, rfl⟩ := he
    have := h.nz x hx
    show - x.2 ≠ 0
    lia, by rw [keys_pneg]; exact h.kk, by rw [L1_pneg]; exact h.l1⟩
theorem Ok.psub {n : Nat} {d : Int} {B C : Nat} {P Q : Po} (h : Ok n d B P) (h2 : Ok n d C Q) : Ok n d (B + C) (psub P Q) :=
  (h.paddall (L := Mine.pneg Q) h2.pneg.kk).mono' (Int.le_refl _) (by rw [L1_pneg]; have := h2.l1; lia)
theorem ev_psub (x : List Int) (P Q : Po) : ev x (psub P Q) = ev x P - ev x Q := by rw [psub, ev_paddall, ev_pneg]; lia
theorem ev_append (x : List Int) (L M : Po) : ev x (L ++ M) = ev x L + ev x M := by simp [ev]
theorem ev_prow (x : List Int) {n : Nat} {d d' : Int} {P : Po} {e : List Int × Int} (h : ∀ k ∈ keys P, KK n d k) (he : KK n d' e.1) : ev x (prow P e) = ev x P * (e.2 * mono x e.1) := by
  induction P with
  | nil => simp [prow, ev]
  | cons a r ih =>
    have : prow (a :: r) e = (ksum a.1 e.1, a.2 * e.2) :: prow r e := rfl
    have ha := h a.1 (by simp [keys])
    rw [this, ev_cons, ih (fun k hk => h k (by simp only [keys, List.map_cons, List.mem_cons] at hk ⊢; exact .inr hk)), ev_cons]
    show a.2 * e.2 * mono x (ksum a.1 e.1) + _ = _
    rw [mono_ksum x (by rw [ha.len, he.len]) ha.pos he.pos, Int.add_mul]
    congr 1
    simp only [Int.mul_assoc, Int.mul_left_comm]
theorem ev_pmul (x : List Int) {n : Nat} {d d' : Int} {P Q : Po} (h : ∀ k ∈ keys P, KK n d k) (h' : ∀ k ∈ keys Q, KK n d' k) : ev x (pmul P Q) = ev x P * ev x Q := by
  rw [pmul, ev_paddall, ev_nil, Int.zero_add]
  induction Q with
  | nil => simp [ev]
  | cons e r ih =>
    rw [List.flatMap_cons, ev_append, ih (fun k hk => h' k (by simp only [keys, List.map_cons, List.mem_cons] at hk ⊢; exact .inr hk)), ev_prow x h (h' e.1 (by simp [keys])), ev_cons, Int.mul_add]
theorem L1_prow (P : Po) (e : List Int × Int) : L1 (prow P e) = L1 P * e.2.natAbs := by
  induction P with
  | nil => simp [prow, L1]
  | cons a r ih =>
    have : prow (a :: r) e = (ksum a.1 e.1, a.2 * e.2) :: prow r e := rfl
    simp only [L1] at ih
    simp only [this, L1, List.map_cons, List.sum_cons, ih, Nat.add_mul, Int.natAbs_mul]
theorem L1_flat (P Q : Po) : L1 (Q.flatMap (prow P)) = L1 P * L1 Q := by
  induction Q with
  | nil => simp [L1]
  | cons e r ih => rw [List.flatMap_cons, L1_append, ih, L1_prow, show L1 (e :: r) = e.2.natAbs + L1 r by simp [L1], Nat.mul_add]
theorem Ok.pmul {n : Nat} {d d' : Int} {B C : Nat} {P Q : Po} (h : Ok n d B P) (h' : Ok n d' C Q) : Ok n (d + d') (B * C) (pmul P Q) := by
  refine ((Ok.nil n (d + d')).paddall (L := Q.flatMap (prow P)) ?_).mono' (Int.le_refl _) ?_
  · intro k hk
    simp only [keys, List.mem_map, List.mem_flatMap, prow] at hk
    obtain ⟨a, ⟨e, he, c, hc, rfl⟩, rfl⟩ := hk
    exact KK_ksum (h.kk _ (List.mem_map.mpr ⟨_, hc, rfl⟩)) (h'.kk _ (List.mem_map.mpr ⟨_, he, rfl⟩))
  · rw [L1_flat, Nat.zero_add]; exact Nat.mul_le_mul h.l1 h'.l1
end Mine
end
section
open PySem
set_option linter.unusedVariables false
namespace Mine
-- the evaluator by rules: a derivation is a small term
section
variable {cf : List Nat → Nat → List D → St → Option (D × St)} {fz : List Nat} {ρ ρ' : Rho} {st s1 s2 s3 : St} {x y z d : D} {a b c e : E}
theorem eVar {i : Nat} (h : (ρ[i]?).join = some d) : evE cf (.var i) fz ρ st = some (d, st) := by
  show ((ρ[i]?).join.map fun d => (d, st)) = _
  rw [h]; rfl
theorem eCst : evE cf (.cst d) fz ρ st = some (d, st) := rfl
theorem eGlob {g : Nat} (h : globD g = some d) : evE cf (.glob g) fz ρ st = some (d, st) := by
  show ((globD g).map fun d => (d, st)) = _
  rw [h]; rfl
theorem eBin {op : BOp} (ha : evE cf a fz ρ st = some (x, s1)) (hb : evE cf b fz ρ s1 = some (y, s2)) (h : binD op x y = some z) : evE cf (.bin op a b) fz ρ st = some (z, s2) :=
  (bS ha).trans ((bS hb).trans (mS h))
theorem eNeg {i : Int} (ha : evE cf a fz ρ st = some (.int i, s1)) : evE cf (.neg a) fz ρ st = some (.int (-i), s1) :=
  bS ha
theorem eCmp {op : COp} {t : Bool} (ha : evE cf a fz ρ st = some (x, s1)) (hb : evE cf b fz ρ s1 = some (y, s2)) (h : cmpD s2 op x y = some t) : evE cf (.cmp op a b) fz ρ st = some (.bool t, s2) :=
  (bS ha).trans ((bS hb).trans (mS h))
theorem eCmp2F {o1 o2 : COp} (ha : evE cf a fz ρ st = some (x, s1)) (hb : evE cf b fz ρ s1 = some (y, s2)) (h : cmpD s2 o1 x y = some false) : evE cf (.cmp2 o1 o2 a b c) fz ρ st = some (.bool false, s2) :=
  (bS ha).trans ((bS hb).trans (bS h))
theorem eCmp2T {o1 o2 : COp} {u : Bool} (ha : evE cf a fz ρ st = some (x, s1)) (hb : evE cf b fz ρ s1 = some (y, s2)) (h : cmpD s2 o1 x y = some true) (hc : evE cf c fz ρ s2 = some (z, s3)) (h2 : cmpD s3 o2 y z = some u) : evE cf (.cmp2 o1 o2 a b c) fz ρ st = some (.bool u, s3) :=
  (bS ha).trans ((bS hb).trans ((bS h).trans ((bS hc).trans (mS h2))))
theorem eHead {m : Nat} {xs : List D} (ha : evE cf a fz ρ st = some (.ilst xs, s1)) (h : xs.length < lim) : evE cf (.head a m) fz ρ st = some (.ilst (xs.take m), s1) :=
  (bS ha).trans (if_pos h)
theorem eIdx (ha : evE cf a fz ρ st = some (x, s1)) (hb : evE cf b fz ρ s1 = some (y, s2)) (h : subD s2 x y = some z) : evE cf (.idx a b) fz ρ st = some (z, s2) :=
  (bS ha).trans ((bS hb).trans (mS h))
theorem eIteT {r : Option (D × St)} (ht : evE cf a fz ρ st = some (.bool true, s1)) (h : evE cf b fz ρ s1 = r) : evE cf (.ite a b c) fz ρ st = r :=
  (bS ht).trans h
theorem eIteF {r : Option (D × St)} (ht : evE cf a fz ρ st = some (.bool false, s1)) (h : evE cf c fz ρ s1 = r) : evE cf (.ite a b c) fz ρ st = r :=
  (bS ht).trans h
variable {es : E} {xs : List D}
theorem lNil : evL cf .nil fz ρ st = some ([], st) := rfl
theorem lCons (ha : evE cf a fz ρ st = some (x, s1)) (hs : evL cf es fz ρ s1 = some (xs, s2)) : evL cf (.cons a es) fz ρ st = some (x :: xs, s2) :=
  (bS ha).trans (mS hs)
theorem l1 (ha : evE cf a fz ρ st = some (x, s1)) : evL cf (.cons a .nil) fz ρ st = some ([x], s1) := lCons ha lNil
theorem l2 (ha : evE cf a fz ρ st = some (x, s1)) (hb : evE cf b fz ρ s1 = some (y, s2)) : evL cf (.cons a (.cons b .nil)) fz ρ st = some ([x, y], s2) := lCons ha (l1 hb)
theorem l3 (ha : evE cf a fz ρ st = some (x, s1)) (hb : evE cf b fz ρ s1 = some (y, s2)) (hc : evE cf c fz ρ s2 = some (z, s3)) : evL cf (.cons a (.cons b (.cons c .nil))) fz ρ st = some ([x, y, z], s3) := lCons ha (l2 hb hc)
theorem eCall {f : Nat} {args : E} (ha : evL cf args fz ρ st = some (xs, s1)) (h : cf fz f xs s1 = some (z, s2)) : evE cf (.call f args) fz ρ st = some (z, s2) :=
  (bS ha).trans h
theorem eBlt {f : Blt} {args : E} (ha : evL cf args fz ρ st = some (xs, s1)) (h : bltD f xs s1 = some (z, s2)) : evE cf (.blt f args) fz ρ st = some (z, s2) :=
  (bS ha).trans h
theorem eMeth {m : Meth} {args : E} (ho : evE cf a fz ρ st = some (x, s1)) (hf : fitsM m x s1 = true) (ha : evL cf args fz ρ s1 = some (xs, s2)) (h : methD fz m x xs s2 = some (z, s3)) : evE cf (.meth m a args) fz ρ st = some (z, s3) :=
  (bS ho).trans ((if_pos hf).trans ((bS ha).trans h))
theorem eTup {args : E} (ha : evL cf args fz ρ st = some (xs, s1)) (h : xs.length < lim) : evE cf (.tup args) fz ρ st = some (.tup xs, s1) :=
  (bS ha).trans (if_pos h)
theorem eTup1 (ha : evE cf a fz ρ st = some (x, s1)) : evE cf (.tup (.cons a .nil)) fz ρ st = some (.tup [x], s1) := eTup (l1 ha) (by show 1 < lim; decide)
theorem eTup2 (ha : evE cf a fz ρ st = some (x, s1)) (hb : evE cf b fz ρ s1 = some (y, s2)) : evE cf (.tup (.cons a (.cons b .nil))) fz ρ st = some (.tup [x, y], s2) := eTup (l2 ha hb) (by show 2 < lim; decide)
theorem eTup3 (ha : evE cf a fz ρ st = some (x, s1)) (hb : evE cf b fz ρ s1 = some (y, s2)) (hc : evE cf c fz ρ s2 = some (z, s3)) : evE cf (.tup (.cons a (.cons b (.cons c .nil)))) fz ρ st = some (.tup [x, y, z], s3) := eTup (l3 ha hb hc) (by show 3 < lim; decide)
theorem eListI {args : E} (ha : evL cf args fz ρ st = some (xs, s1)) (h : xs.length < lim) : evE cf (.listI args) fz ρ st = some (.ilst xs, s1) :=
  (bS ha).trans (if_pos h)
theorem eListM {args : E} (ha : evL cf args fz ρ st = some (xs, s1)) (h : xs.length < lim) : evE cf (.listM args) fz ρ st = some (.obj s1.length, s1 ++ [.lst xs]) :=
  (bS ha).trans (if_pos h)
theorem eDict {args : E} {ps : List (List Int × D)} (ha : evL cf args fz ρ st = some (xs, s1)) (h : xs.length < 30) (hp : pairsD xs [] = some ps) : evE cf (.dict args) fz ρ st = some (.obj s1.length, s1 ++ [.dic ps]) :=
  (bS ha).trans ((if_pos h).trans (mS hp))
theorem eDict0 : evE cf (.dict .nil) fz ρ st = some (.obj st.length, st ++ [.dic []]) := eDict lNil (by show 0 < 30; decide) rfl
theorem bLast {isAnd t : Bool} (h : evE cf a fz ρ st = some (.bool t, s1)) : evB cf isAnd (.cons a .nil) fz ρ st = some (.bool t, s1) :=
  (bS h).trans (show (if E.nil.ctorIdx = 0 ∨ t ≠ isAnd then some (D.bool t, s1) else evB cf isAnd .nil fz ρ s1) = _ from if_pos (.inl rfl))
theorem bGo {isAnd : Bool} {e1 e2 : E} {r : Option (D × St)} (h : evE cf a fz ρ st = some (.bool isAnd, s1)) (hs : evB cf isAnd (.cons e1 e2) fz ρ s1 = r) : evB cf isAnd (.cons a (.cons e1 e2)) fz ρ st = r :=
  (bS h).trans (Eq.trans (show (if (E.cons e1 e2).ctorIdx = 0 ∨ isAnd ≠ isAnd then some (D.bool isAnd, s1) else evB cf isAnd (.cons e1 e2) fz ρ s1) = _ from if_neg fun q => q.elim Nat.one_ne_zero fun q => q rfl) hs)
theorem bStop {isAnd t : Bool} {e1 e2 : E} (h : evE cf a fz ρ st = some (.bool t, s1)) (ht : t ≠ isAnd) : evB cf isAnd (.cons a (.cons e1 e2)) fz ρ st = some (.bool t, s1) :=
  (bS h).trans (show (if (E.cons e1 e2).ctorIdx = 0 ∨ t ≠ isAnd then some (D.bool t, s1) else evB cf isAnd (.cons e1 e2) fz ρ s1) = _ from if_pos (.inr ht))
theorem eBop {isAnd : Bool} {r : Option (D × St)} (h : evB cf isAnd es fz ρ st = r) : evE cf (.bop isAnd es) fz ρ st = r := h
variable {s t : S} {is : List Nat}
theorem xAssign {i : Nat} (h : evE cf e fz ρ st = some (x, s1)) : exS cf (.assign i e) fz ρ st = some (.next, ρ.set i (some x), s1) :=
  mS h
theorem xAssignT (h : evE cf e fz ρ st = some (x, s1)) (hb : bindT is x ρ = some ρ') : exS cf (.assignT is e) fz ρ st = some (.next, ρ', s1) :=
  (bS h).trans (mS hb)
theorem xExpr (h : evE cf e fz ρ st = some (x, s1)) : exS cf (.expr e) fz ρ st = some (.next, ρ, s1) :=
  mS h
theorem xRet (h : evE cf e fz ρ st = some (x, s1)) : exS cf (.ret e) fz ρ st = some (.ret x, ρ, s1) :=
  mS h
theorem xIfT {r : Option (Fl × Rho × St)} (h : evE cf e fz ρ st = some (.bool true, s1)) (hs : exS cf s fz ρ s1 = r) : exS cf (.ife e s t) fz ρ st = r :=
  (bS h).trans hs
theorem xIfF {r : Option (Fl × Rho × St)} (h : evE cf e fz ρ st = some (.bool false, s1)) (hs : exS cf t fz ρ s1 = r) : exS cf (.ife e s t) fz ρ st = r :=
  (bS h).trans hs
theorem xNil : exS cf .nil fz ρ st = some (.next, ρ, st) := rfl
theorem xCont : exS cf .cont fz ρ st = some (.cont, ρ, st) := rfl
theorem xSet {s4 : St} (hv : evE cf e fz ρ st = some (z, s1)) (ho : evE cf a fz ρ s1 = some (x, s2)) (hk : evE cf b fz ρ s2 = some (y, s3)) (h : setItemD fz s3 x y z = some s4) : exS cf (.setItem a b e) fz ρ st = some (.next, ρ, s4) :=
  (bS hv).trans ((bS ho).trans ((bS hk).trans (mS h)))
theorem xAug {i : Nat} {op : BOp} {u v w : Int} (h0 : (ρ[i]?).join = some (.int u)) (h : evE cf e fz ρ st = some (.int v, s1)) (hw : intBin op u v = some w) : exS cf (.aug i op e) fz ρ st = some (.next, ρ.set i (some (.int w)), s1) :=
  (bS h0).trans ((bS h).trans (mS hw))
end
theorem callAll_at {tb : List Fn} {f : Nat} {fn : Fn} (hf : tb[f]? = some fn) (N : Nat) : f < N → ∀ fz args st, callAll tb N fz f args st = runFn (callAll tb f) fn fz args st := by
  induction N with
  | zero =>
    intro h _ _ _
    exact absurd h (Nat.not_lt_zero _)
  | succ N ih =>
    intro h fz args st
    by_cases e : f = N
    · subst e
      show (if f = f then _ else _) = _
      rw [if_pos rfl, hf]; rfl
    · show (if f = N then _ else _) = _
      rw [if_neg e]
      exact ih (by lia) fz args st


theorem exS_next {cf : List Nat → Nat → List D → St → Option (D × St)} {s ss : S} {fz : List Nat} {ρ ρ' : Rho} {st st' : St} (h : exS cf s fz ρ st = some (.next, ρ', st')) : exS cf (.cons s ss) fz ρ st = exS cf ss fz ρ' st' :=
  bS h
theorem exS_ret {cf : List Nat → Nat → List D → St → Option (D × St)} {s ss : S} {fz : List Nat} {ρ ρ' : Rho} {st st' : St} {d : D} (h : exS cf s fz ρ st = some (.ret d, ρ', st')) : exS cf (.cons s ss) fz ρ st = some (.ret d, ρ', st') :=
  bS h
theorem exS_cont {cf : List Nat → Nat → List D → St → Option (D × St)} {s ss : S} {fz : List Nat} {ρ ρ' : Rho} {st st' : St} (h : exS cf s fz ρ st = some (.cont, ρ', st')) : exS cf (.cons s ss) fz ρ st = some (.cont, ρ', st') :=
  bS h
theorem runFn_ret {cf : List Nat → Nat → List D → St → Option (D × St)} {fn : Fn} {fz : List Nat} {args : List D} {ρ' : Rho} {st st' : St} {d : D} (hl : args.length = fn.npar)
    (h : exS cf fn.body fz (args.map some ++ List.replicate (fn.names.length - fn.npar) .none) st = some (.ret d, ρ', st')) : runFn cf fn fz args st = some (d, st') :=
  (if_pos hl).trans (bS h)
theorem runFn_next {cf : List Nat → Nat → List D → St → Option (D × St)} {fn : Fn} {fz : List Nat} {args : List D} {ρ' : Rho} {st st' : St} (hl : args.length = fn.npar)
    (h : exS cf fn.body fz (args.map some ++ List.replicate (fn.names.length - fn.npar) .none) st = some (.next, ρ', st')) : runFn cf fn fz args st = some (.none, st') :=
  (if_pos hl).trans (bS h)
section
variable {cf : List Nat → Nat → List D → St → Option (D × St)}
theorem whileL_next {t : Rho → St → Option (D × St)} {b : Rho → St → Option (Fl × Rho × St)} {n : Nat} {ρ ρ' : Rho} {st st1 st' : St} (h1 : t ρ st = some (.bool true, st1)) (h2 : b ρ st1 = some (.next, ρ', st')) : whileL t b (n + 1) ρ st = whileL t b n ρ' st' :=
  (bS h1).trans (bS h2)
theorem whileL_cont {t : Rho → St → Option (D × St)} {b : Rho → St → Option (Fl × Rho × St)} {n : Nat} {ρ ρ' : Rho} {st st1 st' : St} (h1 : t ρ st = some (.bool true, st1)) (h2 : b ρ st1 = some (.cont, ρ', st')) : whileL t b (n + 1) ρ st = whileL t b n ρ' st' :=
  (bS h1).trans (bS h2)
theorem whileL_stop {t : Rho → St → Option (D × St)} {b : Rho → St → Option (Fl × Rho × St)} {n : Nat} {ρ : Rho} {st st1 : St} (h1 : t ρ st = some (.bool false, st1)) : whileL t b (n + 1) ρ st = some (.next, ρ, st1) :=
  bS h1
theorem exS_whl {t : E} {body : S} {fz : List Nat} {ρ : Rho} {st : St} : exS cf (.whl t body) fz ρ st = whileL (fun ρ st => evE cf t fz ρ st) (fun ρ st => exS cf body fz ρ st) WF ρ st := rfl
end
end Mine
end
section
open PySem
set_option linter.unusedVariables false
set_option linter.unusedSimpArgs false
namespace Mine

@[simp] theorem binD_int (op : BOp) (a b : Int) : binD op (.int a) (.int b) = (intBin op a b).map .int := by cases op <;> rfl
@[simp] theorem intBin_add (a b : Int) : intBin .add a b = some (a + b) := rfl
@[simp] theorem intBin_sub (a b : Int) : intBin .sub a b = some (a - b) := rfl
@[simp] theorem intBin_mod (a b : Int) : intBin .mod a b = if b = 0 then none else some (Int.fmod a b) := rfl
@[simp] theorem cmpD_ne (st : St) (a b : Int) : cmpD st .ne (.int a) (.int b) = some (!decide (a = b)) := rfl
@[simp] theorem bltD_abs (a : Int) (st : St) : bltD .abs [.int a] st = some (.int (if a < 0 then -a else a), st) := rfl
@[simp] theorem bindT_2 (i j : Nat) (x y : D) (ρ : Rho) : bindT [i, j] (.tup [x, y]) ρ = some ((ρ.set i (some x)).set j (some y)) := rfl
theorem lim_eq : lim = 100000 := rfl

theorem gcd_one {N : Nat} (hN : 4 < N) (fz : List Nat) (a : Int) (st : St) : callAll tab N fz 4 [.int a, .int 1] st = some (.int 1, st) := by
  rw [callAll_at (fn := f_gcd) rfl N hN]
  obtain ⟨k, hk⟩ : ∃ k, WF = k + 1 + 1 := ⟨9998, rfl⟩
  have h1 : ∀ v : Int, binD .mod (.int v) (.int 1) = some (.int 0) := fun v => by rw [binD_int, intBin_mod, if_neg (by decide), Int.fmod_one]; rfl
  refine runFn_ret (ρ' := [some (.int 1), some (.int 0), none]) rfl ?_
  refine Eq.trans (exS_next (xAssignT (eTup2 (eBlt (l1 (eVar rfl)) (bltD_abs _ _)) (eBlt (l1 (eVar rfl)) (bltD_abs _ _))) rfl)) ?_
  refine Eq.trans (exS_next (ρ' := [some (.int 1), some (.int 0), none]) (st' := st) ?_) (exS_ret (xRet (eVar rfl)))
  refine exS_whl.trans ?_
  rw [hk]
  refine Eq.trans (whileL_next (ρ' := [some (.int 1), some (.int 0), none]) (eCmp (eVar rfl) eCst rfl) ?_) (whileL_stop (eCmp (eVar rfl) eCst rfl))
  exact Eq.trans (exS_next (xAssignT (eTup2 (eVar rfl) (eBin (eVar rfl) (eVar rfl) (h1 _))) rfl)) xNil

@[simp] theorem intBin_div1 (a : Int) : intBin .div a 1 = some a := by
  show (if (1 : Int) ≠ 0 ∧ (1 : Int).natAbs < 2 ^ 64 then some (Int.fdiv a 1) else none) = _
  rw [if_pos (by decide), Int.fdiv_one]
@[simp] theorem cmpD_eq_int (st : St) (a b : Int) : cmpD st .eq (.int a) (.int b) = some (decide (a = b)) := rfl
@[simp] theorem cmpD_gt_int (st : St) (a b : Int) : cmpD st .gt (.int a) (.int b) = some (decide (a > b)) := rfl

theorem rat_one {N : Nat} (hN : 6 < N) (fz : List Nat) (a : Int) (st : St) : callAll tab N fz 6 [.int a, .int 1] st = some (rt a, st) := by
  rw [callAll_at (fn := f_rat) rfl N hN]
  have h1 : binD .div (.int a) (.int 1) = some (.int a) := by rw [binD_int, intBin_div1]; rfl
  refine runFn_ret (ρ' := [some (.int a), some (.int 1), some (.int 1), none, none]) rfl ?_
  refine Eq.trans (exS_next (xIfF (eCmp (eVar rfl) eCst rfl) xNil)) ?_
  refine Eq.trans (exS_next (xAssign (eIteT (eCmp (eVar rfl) eCst rfl) (eCall (l2 (eVar rfl) (eVar rfl)) (gcd_one (by decide) fz a st))))) ?_
  exact exS_ret (xRet (eTup2 (eBin (eVar rfl) (eVar rfl) h1) (eBin (eVar rfl) (eVar rfl) rfl)))

@[simp] theorem subD_tup0 (st : St) (x : D) (r : List D) : subD st (.tup (x :: r)) (.int 0) = some x := rfl
@[simp] theorem subD_tup1 (st : St) (x y : D) (r : List D) : subD st (.tup (x :: y :: r)) (.int 1) = some y := rfl
theorem intBin_mul {a b : Int} (ha : a.natAbs < 2 ^ 64) (hb : b.natAbs < 2 ^ 64) : intBin .mul a b = some (a * b) := if_pos ⟨ha, hb⟩
theorem intBin_mul1 {a : Int} (ha : a.natAbs < 2 ^ 64) : intBin .mul a 1 = some a := by rw [intBin_mul ha (by decide), Int.mul_one]

theorem radd_rt {N : Nat} (hN : 7 < N) (fz : List Nat) {a b : Int} (ha : a.natAbs < 2 ^ 64) (hb : b.natAbs < 2 ^ 64) (st : St) : callAll tab N fz 7 [rt a, rt b] st = some (rt (a + b), st) := by
  rw [callAll_at (fn := f_radd) rfl N hN]
  have h1 := intBin_mul1 ha
  have h2 := intBin_mul1 hb
  have h3 : ∀ c : Int, intBin .mul c 1 = some c → binD .mul (.int c) (.int 1) = some (.int c) := fun c h => by rw [binD_int, h]; rfl
  refine runFn_ret (ρ' := [some (rt a), some (rt b), none]) rfl (exS_ret (xRet (eCall (l2 (eBin (eBin (eIdx (eVar rfl) eCst rfl) (eIdx (eVar rfl) eCst rfl) (h3 a h1)) (eBin (eIdx (eVar rfl) eCst rfl) (eIdx (eVar rfl) eCst rfl) (h3 b h2)) rfl) (eBin (eIdx (eVar rfl) eCst rfl) (eIdx (eVar rfl) eCst rfl) rfl)) (rat_one (by decide) fz (a + b) st))))

theorem rmul_rt {N : Nat} (hN : 8 < N) (fz : List Nat) {a b : Int} (ha : a.natAbs < 2 ^ 64) (hb : b.natAbs < 2 ^ 64) (st : St) : callAll tab N fz 8 [rt a, rt b] st = some (rt (a * b), st) := by
  rw [callAll_at (fn := f_rmul) rfl N hN]
  have h3 : binD .mul (.int a) (.int b) = some (.int (a * b)) := by rw [binD_int, intBin_mul ha hb]; rfl
  refine runFn_ret (ρ' := [some (rt a), some (rt b), none]) rfl (exS_ret (xRet (eCall (l2 (eBin (eIdx (eVar rfl) eCst rfl) (eIdx (eVar rfl) eCst rfl) h3) (eBin (eIdx (eVar rfl) eCst rfl) (eIdx (eVar rfl) eCst rfl) rfl)) (rat_one (by decide) fz (a * b) st))))

theorem rdiv_one {N : Nat} (hN : 9 < N) (fz : List Nat) {a : Int} (ha : a.natAbs < 2 ^ 64) (st : St) : callAll tab N fz 9 [rt a, rt 1] st = some (rt a, st) := by
  rw [callAll_at (fn := f_rdiv) rfl N hN]
  have h3 : binD .mul (.int a) (.int 1) = some (.int a) := by rw [binD_int, intBin_mul1 ha]; rfl
  refine runFn_ret (ρ' := [some (rt a), some (rt 1), none]) rfl (exS_ret (xRet (eCall (l2 (eBin (eIdx (eVar rfl) eCst rfl) (eIdx (eVar rfl) eCst rfl) h3) (eBin (eIdx (eVar rfl) eCst rfl) (eIdx (eVar rfl) eCst rfl) rfl)) (rat_one (by decide) fz a st))))

theorem rneg_rt {N : Nat} (hN : 10 < N) (fz : List Nat) (a : Int) (st : St) : callAll tab N fz 10 [rt a] st = some (rt (-a), st) := by
  rw [callAll_at (fn := f_rneg) rfl N hN]
  have h3 : binD .sub (.int 0) (.int a) = some (.int (-a)) := by rw [binD_int, intBin_sub, Int.zero_sub]; rfl
  exact runFn_ret (ρ' := [some (rt a)]) rfl (exS_ret (xRet (eTup2 (eBin eCst (eIdx (eVar rfl) eCst rfl) h3) (eIdx (eVar rfl) eCst rfl))))

@[simp] theorem intBin_pow264 : intBin .pow 2 64 = some (2 ^ 64) := by
  show (if (0 : Int) ≤ 64 ∧ (64 : Int) ≤ 64 ∧ (2 : Int).natAbs ≤ 4 then some ((2 : Int) ^ (64 : Int).toNat) else none) = _
  rw [if_pos (by decide)]; rfl
@[simp] theorem bltD_max2 (a b : Int) (st : St) : bltD .max [.int a, .int b] st = some (.int (if b > a then b else a), st) := rfl
@[simp] theorem cmpD_ge_int (st : St) (a b : Int) : cmpD st .ge (.int a) (.int b) = some (decide (a ≥ b)) := rfl
theorem is_vast_no {N : Nat} (hN : 11 < N) (fz : List Nat) {a : Int} (ha : a.natAbs < 2 ^ 64) (st : St) : callAll tab N fz 11 [rt a] st = some (.bool false, st) := by
  rw [callAll_at (fn := f_is_vast) rfl N hN]
  generalize hg : (if (1 : Int) > (if a < 0 then -a else a) then 1 else if a < 0 then -a else a) = g
  have h1 : cmpD st .ge (.int g) (.int (2 ^ 64)) = some false := by
    rw [cmpD_ge_int]
    congr 1
    refine decide_eq_false ?_
    rw [← hg]
    split <;> (try split) <;> lia
  have h2 : bltD .max [.int (if a < 0 then -a else a), .int 1] st = some (.int g, st) := by rw [bltD_max2, hg]
  have h3 : binD .pow (.int 2) (.int 64) = some (.int (2 ^ 64)) := by rw [binD_int, intBin_pow264]; rfl
  refine runFn_ret (ρ' := [some (rt a), some (.int g), none, none, none, none]) rfl ?_
  refine Eq.trans (exS_next (xAssign (eBlt (l2 (eBlt (l1 (eIdx (eVar rfl) eCst rfl)) (bltD_abs _ _)) (eIdx (eVar rfl) eCst rfl)) h2))) ?_
  exact exS_ret (xRet (eBop (bStop (eCmp (eVar rfl) (eBin eCst eCst h3) h1) (by decide))))

end Mine
end
section
open PySem
set_option maxRecDepth 100000
set_option linter.unusedVariables false
set_option linter.unusedSimpArgs false
namespace Mine

/-- a comprehension whose elements are told one by one, the store unchanged -/
theorem loopF_ix (body : D → List D → St → Option (List D × St)) (st : St) : ∀ (its ys acc : List D), its.length = ys.length → acc.length + its.length < lim →
    (∀ (i : Nat) (x y : D), its[i]? = some x → ys[i]? = some y → ∀ acc, acc.length < lim → body x acc st = some (acc ++ [y], st)) → loopF body its acc st = some (acc ++ ys, st)
  | [], [], acc, _, _, _ => by simp [loopF]
  | [], _ :: _, _, h, _, _ => by simp at h
  | _ :: _, [], _, h, _, _ => by simp at h
  | x :: r, y :: s, acc, hl, hb, h => by
    simp only [List.length_cons] at hl hb
    rw [loopF, h 0 x y rfl rfl acc (by lia)]
    show loopF body r (acc ++ [y]) st = _
    rw [loopF_ix body st r s (acc ++ [y]) (by lia) (by simp only [List.length_append, List.length_singleton]; lia) fun i a b ha hb => h (i + 1) a b (by simpa using ha) (by simpa using hb)]
    simp
/-- a comprehension that filters -/
theorem loopF_filter {α : Type} (body : D → List D → St → Option (List D × St)) (st : St) (enc g : α → D) (q : α → Bool) (L : List α) : ∀ (acc : List D), acc.length + L.length < lim →
    (∀ x ∈ L, ∀ acc, acc.length < lim → body (enc x) acc st = some (if q x then acc ++ [g x] else acc, st)) → loopF body (L.map enc) acc st = some (acc ++ (L.filter q).map g, st) := by
  induction L with
  | nil =>
    intro acc _ _
    simp [loopF]
  | cons x r ih =>
    intro acc hb h
    simp only [List.length_cons] at hb
    rw [List.map_cons, loopF, h x List.mem_cons_self acc (by lia)]
    show loopF body (r.map enc) (if q x then acc ++ [g x] else acc) st = _
    cases e : q x
    · rw [if_neg (by simp), ih acc (by lia) fun y hy => h y (List.mem_cons_of_mem _ hy)]
      simp [e]
    · rw [if_pos rfl, ih (acc ++ [g x]) (by simp only [List.length_append, List.length_singleton]; lia) fun y hy => h y (List.mem_cons_of_mem _ hy)]
      simp [e]
/-- a loop, by an invariant over what is done -/
theorem forL_list {α : Type} (body : D → Rho → St → Option (Fl × Rho × St)) (enc : α → D) (I : List α → Rho → St → Prop) (whole : List α)
    (hs : ∀ pre e post ρ st, whole = pre ++ e :: post → I pre ρ st → ∃ ρ' st', body (enc e) ρ st = some (.next, ρ', st') ∧ I (pre ++ [e]) ρ' st') (L : List α) : ∀ (pre : List α) ρ st, whole = pre ++ L → I pre ρ st → ∃ ρ' st', forL body (L.map enc) ρ st = some (.next, ρ', st') ∧ I whole ρ' st' := by
  induction L with
  | nil =>
    intro pre ρ st hw hi
    rw [List.append_nil] at hw; subst hw
    exact ⟨ρ, st, rfl, hi⟩
  | cons e L ih =>
    intro pre ρ st hw hi
    obtain ⟨ρ1, st1, h1, h2⟩ := hs pre e L ρ st hw hi
    obtain ⟨ρ2, st2, h3, h4⟩ := ih (pre ++ [e]) ρ1 st1 (by rw [hw]; simp) h2
    refine ⟨ρ2, st2, ?_, h4⟩
    rw [List.map_cons, forL, h1]
    exact h3
theorem loopF_list {α σ : Type} (body : D → σ → St → Option (σ × St)) (enc : α → D) (I : List α → σ → St → Prop) (whole : List α)
    (hs : ∀ pre e post a st, whole = pre ++ e :: post → I pre a st → ∃ a' st', body (enc e) a st = some (a', st') ∧ I (pre ++ [e]) a' st') (L : List α) : ∀ (pre : List α) a st, whole = pre ++ L → I pre a st → ∃ a' st', loopF body (L.map enc) a st = some (a', st') ∧ I whole a' st' := by
  induction L with
  | nil =>
    intro pre a st hw hi
    rw [List.append_nil] at hw; subst hw
    exact ⟨a, st, rfl, hi⟩
  | cons e L ih =>
    intro pre a st hw hi
    obtain ⟨a1, st1, h1, h2⟩ := hs pre e L a st hw hi
    obtain ⟨a2, st2, h3, h4⟩ := ih (pre ++ [e]) a1 st1 (by rw [hw]; simp) h2
    refine ⟨a2, st2, ?_, h4⟩
    rw [List.map_cons, loopF, h1]
    exact h3

@[simp] theorem ints_map : ∀ k : List Int, D.ints (k.map .int) = some k
  | [] => rfl
  | i :: r => by rw [List.map_cons, D.ints, ints_map r]; rfl
@[simp] theorem keyOf_pw (k : List Int) : keyOf (pw k) = some k := ints_map k
@[simp] theorem enumFrom_at : ∀ (xs : List D) (j i : Nat), (enumFrom j xs)[i]? = (xs[i]?).map fun x => .tup [.int ((j + i : Nat) : Int), x]
  | [], j, i => by simp [enumFrom]
  | x :: r, j, 0 => by simp [enumFrom]
  | x :: r, j, i + 1 => by simp only [enumFrom, List.getElem?_cons_succ, enumFrom_at r (j + 1) i]; congr 3; funext y; congr 4; lia
@[simp] theorem enumFrom_length : ∀ (xs : List D) (j : Nat), (enumFrom j xs).length = xs.length
  | [], j => rfl
  | x :: r, j => by simp only [enumFrom, List.length_cons, enumFrom_length r]
@[simp] theorem items_enum_tup (xs : List D) (st : St) : items .enum (.tup xs) st = some (enumFrom 0 xs) := rfl
@[simp] theorem items_enum_ilst (xs : List D) (st : St) : items .enum (.ilst xs) st = some (enumFrom 0 xs) := rfl
@[simp] theorem items_plain_tup (xs : List D) (st : St) : items .plain (.tup xs) st = some xs := rfl
@[simp] theorem items_plain_ilst (xs : List D) (st : St) : items .plain (.ilst xs) st = some xs := rfl
theorem items_dic {st : St} {r : Nat} {es : List (List Int × D)} (h : st[r]? = some (.dic es)) : items .plain (.obj r) st = some (es.map fun e => pw e.1) := by
  exact bS h
theorem items_po {st : St} {r : Nat} {P : Po} (h : st[r]? = some (.dic (toD P))) : items .plain (.obj r) st = some (P.map fun e => pw e.1) := by
  rw [items_dic h]; simp [toD]
theorem subD_tup {st : St} {xs : List D} {i : Nat} (h : i < 1024) : subD st (.tup xs) (.int i) = xs[i]? := by
  show (if (0 : Int) ≤ (i : Int) ∧ (i : Int) < 1024 then xs[((i : Int)).toNat]? else none) = _
  rw [if_pos ⟨by lia, by lia⟩]; rfl
theorem subD_ilst {st : St} {xs : List D} {i : Nat} (h : i < 1024) : subD st (.ilst xs) (.int i) = xs[i]? := by
  show (if (0 : Int) ≤ (i : Int) ∧ (i : Int) < 1024 then xs[((i : Int)).toNat]? else none) = _
  rw [if_pos ⟨by lia, by lia⟩]; rfl
@[simp] theorem bindT_1 (i : Nat) (x : D) (ρ : Rho) : bindT [i] x ρ = some (ρ.set i (some x)) := rfl
@[simp] theorem bltD_tuple (xs : List D) (st : St) : bltD .tuple [.ilst xs] st = if xs.length < lim then some (.tup xs, st) else none := rfl

theorem lenN {α β : Type} {L : List α} {n : Nat} (h : L.length < n) : ([] : List β).length + L.length < n := (Nat.zero_add _).symm ▸ h
theorem evE_lcomp {α : Type} {cf : List Nat → Nat → List D → St → Option (D × St)} {imps : List (Option Nat)} {tgt : List Nat} {k : SK} {src cond elt : E} {fz : List Nat} {ρ : Rho} {st st1 : St} {d : D} {L : List α} {enc g : α → D} {q : α → Bool}
    (h1 : evE cf src fz ρ st = some (d, st1)) (h2 : items k d st1 = some (L.map enc)) (hl : L.length < lim)
    (hs : ∀ e ∈ L, ∃ ρ', bindT tgt (enc e) (impRho imps ρ) = some ρ' ∧ evE cf cond (fzOf d fz) ρ' st1 = some (.bool (q e), st1) ∧ (q e = true → evE cf elt (fzOf d fz) ρ' st1 = some (g e, st1))) :
    evE cf (.lcomp imps tgt k src cond elt) fz ρ st = some (.ilst ((L.filter q).map g), st1) := by
  refine (bS h1).trans ((bS h2).trans (mS (loopF_filter _ st1 enc g q L [] (lenN hl) fun e he acc hacc => ?_)))
  obtain ⟨ρ', e1, e2, e3⟩ := hs e he
  refine (bS e1).trans ((bS e2).trans ?_)
  rcases hq : q e with _ | _
  · rfl
  · exact (bS (e3 hq)).trans (if_pos hacc)
theorem evE_lcomp_ix {cf : List Nat → Nat → List D → St → Option (D × St)} {imps : List (Option Nat)} {tgt : List Nat} {k : SK} {src cond elt : E} {fz : List Nat} {ρ : Rho} {st st1 : St} {d : D} {its ys : List D}
    (h1 : evE cf src fz ρ st = some (d, st1)) (h2 : items k d st1 = some its) (hl : its.length = ys.length) (hb : its.length < lim)
    (hs : ∀ (i : Nat) (x y : D), its[i]? = some x → ys[i]? = some y → ∃ ρ', bindT tgt x (impRho imps ρ) = some ρ' ∧ evE cf cond (fzOf d fz) ρ' st1 = some (.bool true, st1) ∧ evE cf elt (fzOf d fz) ρ' st1 = some (y, st1)) :
    evE cf (.lcomp imps tgt k src cond elt) fz ρ st = some (.ilst ys, st1) := by
  refine (bS h1).trans ((bS h2).trans (mS (loopF_ix _ st1 its ys [] hl (lenN hb) fun i x y hx hy acc hacc => ?_)))
  obtain ⟨ρ', e1, e2, e3⟩ := hs i x y hx hy
  exact (bS e1).trans ((bS e2).trans ((bS e3).trans (if_pos hacc)))
theorem eTrue {cf : List Nat → Nat → List D → St → Option (D × St)} {fz : List Nat} {ρ : Rho} {st : St} : evE cf .nil fz ρ st = some (.bool true, st) := rfl
theorem zip_step {f : Int → Int → Int} {a b : List Int} (hl : a.length = b.length) {i : Nat} {x y : D} (hx : (enumFrom 0 (a.map .int))[i]? = some x) (hy : ((List.zipWith f a b).map D.int)[i]? = some y) :
    ∃ u v, x = .tup [.int (i : Nat), .int u] ∧ b[i]? = some v ∧ y = .int (f u v) := by
  rw [enumFrom_at, List.getElem?_map, Option.map_map, Option.map_eq_some_iff] at hx
  rw [List.getElem?_map, List.getElem?_zipWith, Option.map_eq_some_iff] at hy
  obtain ⟨u, hu, rfl⟩ := hx
  obtain ⟨w, hw, rfl⟩ := hy
  have hi : i < b.length := by rw [← hl]; exact (List.getElem?_eq_some_iff.mp hu).1
  rw [hu, List.getElem?_eq_getElem hi] at hw
  refine ⟨u, b[i], ?_, List.getElem?_eq_getElem hi, ?_⟩
  · rw [Nat.zero_add]; rfl
  · rw [← Option.some.inj hw]
theorem sub_pw {b : List Int} {i : Nat} {v : Int} (hb : b.length < 1000) (h : b[i]? = some v) (st : St) : subD st (pw b) (.int (i : Nat)) = some (.int v) := by
  rw [pw, subD_tup (Nat.lt_trans (Nat.lt_trans (List.getElem?_eq_some_iff.mp h).1 hb) (by decide)), List.getElem?_map, h]; rfl
theorem lt_lim {n : Nat} (h : n < 1000) : n < lim := Nat.lt_trans h (by decide)
theorem bltD_tuple' {xs : List D} (st : St) (h : xs.length < 1000) : bltD .tuple [.ilst xs] st = some (.tup xs, st) := by
  rw [bltD_tuple, if_pos (lt_lim h)]
theorem zip_comp {N : Nat} {op : BOp} {f : Int → Int → Int} (hop : ∀ u v, binD op (.int u) (.int v) = some (.int (f u v))) {fz : List Nat} {a b : List Int} (hl : a.length = b.length) (hs : a.length < 1000) {st : St} {g : D} :
    evE (callAll tab N) (.blt .tuple (.cons (.lcomp [none, none, none, some 1] [1, 2] .enum (.var 0) .nil (.bin op (.var 2) (.idx (.var 3) (.var 1)))) .nil)) fz [some (pw a), some (pw b), none, none] st = some (pw (List.zipWith f a b), st) := by
  have hk : (List.zipWith f a b).length = a.length := by rw [List.length_zipWith, ← hl, Nat.min_self]
  refine eBlt (l1 (evE_lcomp_ix (ys := (List.zipWith f a b).map .int) (eVar rfl) (items_enum_tup _ _) (by rw [enumFrom_length, List.length_map, List.length_map, hk]) (by rw [enumFrom_length, List.length_map]; exact lt_lim hs) fun i x y hx hy => ?_)) (bltD_tuple' st (by rw [List.length_map, hk]; exact hs))
  obtain ⟨u, v, rfl, hv, rfl⟩ := zip_step hl hx hy
  exact ⟨_, bindT_2 .., eTrue, eBin (eVar rfl) (eIdx (eVar rfl) (eVar rfl) (sub_pw (hl ▸ hs) hv st)) (hop u v)⟩
theorem product_spec {N : Nat} (hN : 1 < N) (fz : List Nat) {a b : List Int} (hl : a.length = b.length) (hs : a.length < 1000) (st : St) :
    callAll tab N fz 1 [pw a, pw b] st = some (pw (ksum a b), st) := by
  rw [callAll_at (fn := f_powers_product) rfl N hN]
  exact runFn_ret (ρ' := [some (pw a), some (pw b), none, none]) rfl (exS_ret (xRet (zip_comp (g := .none) (fun _ _ => rfl) hl hs)))
end Mine
end
section
open PySem
set_option maxRecDepth 100000
set_option linter.unusedVariables false
set_option linter.unusedSimpArgs false
namespace Mine
noncomputable def kdiff (a b : List Int) : List Int := List.zipWith (fun i j => i - j) a b
theorem quotient_spec {N : Nat} (hN : 3 < N) (fz : List Nat) {a b : List Int} (hl : a.length = b.length) (hs : a.length < 1000) (st : St) :
    callAll tab N fz 3 [pw a, pw b] st = some (pw (kdiff a b), st) := by
  rw [callAll_at (fn := f_powers_quotient) rfl N hN]
  exact runFn_ret (ρ' := [some (pw a), some (pw b), none, none]) rfl (exS_ret (xRet (zip_comp (g := .none) (fun _ _ => rfl) hl hs)))

noncomputable def kdvd : List Int → List Int → Bool
  | i :: a, j :: b => if i > j then false else kdvd a b
  | _, _ => true
theorem cmpD_gt_no {st : St} {i j : Int} (h : ¬ i > j) : cmpD st .gt (.int i) (.int j) = some false := by rw [cmpD_gt_int, decide_eq_false h]
theorem cmpD_gt_yes {st : St} {i j : Int} (h : i > j) : cmpD st .gt (.int i) (.int j) = some true := by rw [cmpD_gt_int, decide_eq_true h]
noncomputable def dvBody : S := .cons (.ife (.cmp .gt (.var 3) (.idx (.var 1) (.var 2))) (.cons (.ret (.cst (.bool false))) .nil) .nil) .nil
section
variable {body : D → Rho → St → Option (Fl × Rho × St)} {x : D} {r : List D} {ρ ρ' : Rho} {st st' : St}
theorem forL_next {R : Option (Fl × Rho × St)} (h : body x ρ st = some (.next, ρ', st')) (hr : forL body r ρ' st' = R) : forL body (x :: r) ρ st = R := by
  rw [forL, h]; exact hr
theorem forL_ret {d : D} (h : body x ρ st = some (.ret d, ρ', st')) : forL body (x :: r) ρ st = some (.ret d, ρ', st') := by
  rw [forL, h]; rfl
theorem bindX {tgt : List Nat} {ρ0 : Rho} {f : Rho → Option (Fl × Rho × St)} {R : Option (Fl × Rho × St)} (h : bindT tgt x ρ0 = some ρ) (hr : f ρ = R) : (bindT tgt x ρ0).bind f = R := by
  rw [h]; exact hr
end
theorem divide_loop {N : Nat} (fz : List Nat) (A B : List Int) (st : St) (a : List Int) : ∀ (b pre : List Int) (p q : Option D), B = pre ++ b → a.length = b.length → B.length < 1000 →
    ∃ ρ', forL (fun x ρ st => (bindT [2, 3] x ρ).bind fun ρ' => exS (callAll tab N) dvBody fz ρ' st)
      (enumFrom pre.length (a.map .int)) [some (pw A), some (pw B), p, q, none] st = some (if kdvd a b then .next else .ret (.bool false), ρ', st) := by
  induction a with
  | nil =>
    intro b pre p q h hl _
    obtain rfl := List.eq_nil_of_length_eq_zero hl.symm
    exact ⟨_, rfl⟩
  | cons i a ih =>
    intro b pre p q h hl hb
    rcases b with _ | ⟨j, b⟩
    · exact absurd hl (Nat.succ_ne_zero _)
    have hj : subD st (pw B) (.int (pre.length : Nat)) = some (.int j) := sub_pw hb (by rw [h, List.getElem?_append_right (Nat.le_refl _), Nat.sub_self]; rfl) st
    rw [kdvd]
    by_cases hij : i > j
    · rw [if_pos hij]
      exact ⟨_, forL_ret (bindX (bindT_2 ..) (exS_ret (xIfT (eCmp (eVar rfl) (eIdx (eVar rfl) (eVar rfl) hj) (cmpD_gt_yes hij)) (exS_ret (xRet eCst)))))⟩
    · rw [if_neg hij]
      obtain ⟨ρ', e⟩ := ih b (pre ++ [j]) (some (.int (pre.length : Nat))) (some (.int i)) (by rw [h, List.append_assoc]; rfl) (Nat.succ.inj hl) hb
      rw [List.length_append, List.length_singleton] at e
      exact ⟨ρ', forL_next (bindX (bindT_2 ..) (exS_next (ss := .nil) (xIfF (eCmp (eVar rfl) (eIdx (eVar rfl) (eVar rfl) hj) (cmpD_gt_no hij)) xNil))) e⟩
theorem exS_for {cf : List Nat → Nat → List D → St → Option (D × St)} {tgt : List Nat} {k : SK} {src : E} {body : S} {fz : List Nat} {ρ ρ' : Rho} {st st1 st' : St} {d : D} {its : List D} {fl : Fl} (h1 : evE cf src fz ρ st = some (d, st1)) (h2 : items k d st1 = some its)
    (h3 : forL (fun x ρ st => (bindT tgt x ρ).bind fun ρ' => exS cf body (fzOf d fz) ρ' st) its ρ st1 = some (fl, ρ', st')) : exS cf (.fore tgt k src body) fz ρ st = some (fl, ρ', st') := by
  exact (bS h1).trans ((bS h2).trans h3)
theorem divide_spec {N : Nat} (hN : 2 < N) (fz : List Nat) {a b : List Int} (hl : a.length = b.length) (hs : a.length < 1000) (st : St) :
    callAll tab N fz 2 [pw a, pw b] st = some (.bool (kdvd a b), st) := by
  rw [callAll_at (fn := f_powers_divide) rfl N hN]
  obtain ⟨ρ', e⟩ := divide_loop (N := 2) fz a b st a b [] none none rfl hl (hl ▸ hs)
  cases hk : kdvd a b <;> rw [hk] at e
  · exact runFn_ret (ρ' := ρ') rfl (exS_ret (exS_for (d := pw a) (eVar rfl) (items_enum_tup _ _) e))
  · exact runFn_ret (ρ' := ρ') rfl (Eq.trans (exS_next (exS_for (d := pw a) (eVar rfl) (items_enum_tup _ _) e)) (exS_ret (xRet eCst)))
/-- order of powers -/
noncomputable def okey (ord : Str) (k : List Int) : List Int :=
  if ord = "lex" then k else if ord = "grlex" then k.sum :: k else k.sum :: k.reverse.map (fun i => -i)
noncomputable def isOrd (ord : Str) : Prop := ord = "grevlex" ∨ ord = "lex" ∨ ord = "grlex"
@[simp] theorem cmpD_eq_str (st : St) (a b : Str) : cmpD st .eq (.str a) (.str b) = some (decide (a = b)) := rfl
@[simp] theorem str_gv_lex : (Str.ofString "grevlex" = Str.ofString "lex") = False := eq_false (by decide)
@[simp] theorem str_gv_gl : (Str.ofString "grevlex" = Str.ofString "grlex") = False := eq_false (by decide)
@[simp] theorem str_gl_lex : (Str.ofString "grlex" = Str.ofString "lex") = False := eq_false (by decide)
theorem bltD_sum (k : List Int) (st : St) (h : k.length < 1000) : bltD .sum [pw k] st = some (.int k.sum, st) := by
  rw [pw, bSum, ints_map, Option.bind_some, if_pos (lt_lim h)]
theorem binD_tup {a b : List D} (h : a.length + b.length < lim) : binD .add (.tup a) (.tup b) = some (.tup (a ++ b)) := by
  show (if a.length + b.length < lim then _ else _) = _
  rw [if_pos h]
theorem cmpD_str_no {st : St} {a b : Str} (h : ¬ a = b) : cmpD st .eq (.str a) (.str b) = some false := by rw [cmpD_eq_str, decide_eq_false h]
theorem cmpD_str_yes {st : St} {a : Str} : cmpD st .eq (.str a) (.str a) = some true := by rw [cmpD_eq_str, decide_eq_true rfl]
theorem eRev {cf : List Nat → Nat → List D → St → Option (D × St)} {fz : List Nat} {ρ : Rho} {st s1 : St} {e : E} {xs : List D} (h : evE cf e fz ρ st = some (.tup xs, s1)) (hl : xs.length < lim) : evE cf (.rev e) fz ρ st = some (.tup xs.reverse, s1) := by
  exact (bS h).trans (if_pos hl)
theorem order_key_spec {N : Nat} (hN : 0 < N) (fz : List Nat) {ord : Str} {k : List Int} (ho : isOrd ord) (hs : k.length < 1000) (st : St) :
    callAll tab N fz 0 [.str ord, pw k] st = some (pw (okey ord k), st) := by
  rw [callAll_at (fn := f_order_key) rfl N hN]
  refine runFn_ret (ρ' := [some (.str ord), some (pw k), none, none, none]) rfl ?_
  have hsum := bltD_sum k st hs
  have hcat : ∀ l : List Int, l.length < 1000 → binD .add (.tup [.int k.sum]) (pw l) = some (pw (k.sum :: l)) := fun l h => binD_tup (by rw [List.length_map, lim_eq]; show 1 + l.length < 100000; lia)
  rcases ho with h | h | h <;> subst h
  · refine Eq.trans (exS_next (xIfF (eCmp (eVar rfl) eCst (cmpD_str_no (by decide))) xNil)) ?_
    refine Eq.trans (exS_next (xIfF (eCmp (eVar rfl) eCst (cmpD_str_no (by decide))) xNil)) ?_
    refine exS_ret (xIfT (eCmp (eVar rfl) eCst cmpD_str_yes) (exS_ret (xRet (eBin (eTup1 (eBlt (l1 (eVar rfl)) hsum)) (eBlt (l1 (evE_lcomp_ix (ys := (k.reverse.map fun i => -i).map .int) (eRev (xs := k.map .int) (eVar rfl) (by rw [List.length_map]; exact lt_lim hs)) (items_plain_tup _ _) ?_ ?_ ?_)) (bltD_tuple' st ?_)) ?_))))
    · rw [List.length_reverse, List.length_map, List.length_map, List.length_map, List.length_reverse]
    · rw [List.length_reverse, List.length_map]; exact lt_lim hs
    · intro i x y hx hy
      rw [← List.map_reverse, List.getElem?_map, Option.map_eq_some_iff] at hx
      rw [List.getElem?_map, List.getElem?_map, Option.map_map, Option.map_eq_some_iff] at hy
      obtain ⟨u, hu, rfl⟩ := hx
      obtain ⟨w, hw, rfl⟩ := hy
      rw [hu] at hw; obtain rfl := Option.some.inj hw
      exact ⟨_, bindT_1 .., eTrue, eNeg (eVar rfl)⟩
    · rw [List.length_map, List.length_map, List.length_reverse]; exact hs
    · exact hcat _ (by rw [List.length_map, List.length_reverse]; exact hs)
  · exact exS_ret (xIfT (eCmp (eVar rfl) eCst cmpD_str_yes) (exS_ret (xRet (eVar rfl))))
  · refine Eq.trans (exS_next (xIfF (eCmp (eVar rfl) eCst (cmpD_str_no (by decide))) xNil)) ?_
    exact exS_ret (xIfT (eCmp (eVar rfl) eCst cmpD_str_yes) (exS_ret (xRet (eBin (eTup1 (eBlt (l1 (eVar rfl)) hsum)) (eVar rfl) (hcat k hs)))))
/-- mvterm, mvnumber -/
@[simp] theorem eqD_rt0 (st : St) (c : Int) : cmpD st .eq (rt c) (.tup [.int 0, .int 1]) = some (decide (c = 0)) := by
  rw [cEqT]
  show some (decide ([c, 1] = [0, 1])) = _
  congr 1
  exact decide_eq_decide.mpr ⟨fun h => (List.cons.inj h).1, fun h => by rw [h]⟩
theorem eqD_rt_no {st : St} {c : Int} (h : c ≠ 0) : cmpD st .eq (rt c) (.tup [.int 0, .int 1]) = some false := by rw [eqD_rt0, decide_eq_false h]
theorem eqD_rt_yes {st : St} : cmpD st .eq (rt 0) (.tup [.int 0, .int 1]) = some true := by rw [eqD_rt0, decide_eq_true rfl]
theorem mvterm_spec {N : Nat} (hN : 12 < N) (fz : List Nat) (k : List Int) {c : Int} (hc : c ≠ 0) (st : St) :
    callAll tab N fz 12 [pw k, rt c] st = some (.obj st.length, st ++ [.dic (toD [(k, c)])]) := by
  rw [callAll_at (fn := f_mvterm) rfl N hN]
  have hp : pairsD [pw k, rt c] [] = some (toD [(k, c)]) := by
    show (keyOf (pw k)).bind _ = _
    rw [keyOf_pw]; rfl
  exact runFn_ret (ρ' := [some (pw k), some (rt c), none]) rfl (exS_ret (xRet (eIteF (eCmp (eVar rfl) (eGlob rfl) (eqD_rt_no hc)) (eDict (l2 (eVar rfl) (eVar rfl)) (by show 2 < 30; decide) hp))))
end Mine
end
section
open PySem
set_option maxRecDepth 100000
set_option linter.unusedVariables false
set_option linter.unusedSimpArgs false
namespace Mine
theorem set_same {st : St} {r : Nat} {c : Cont} (h : st[r]? = some c) : st.set r c = st := by
  apply List.ext_getElem?
  intro i
  rw [List.getElem?_set]
  split
  · rename_i e; subst e
    split
    · rw [h]
    · rename_i q; exact absurd (by obtain ⟨hl, _⟩ := List.getElem?_eq_some_iff.mp h; exact hl) q
  · rfl
theorem set_last (st : St) (x y : Cont) : (st ++ [x]).set st.length y = st ++ [y] := by simp
theorem get_last (st : St) (x : Cont) : (st ++ [x])[st.length]? = some x := by simp
theorem get_old {st : St} {i : Nat} {c : Cont} (t : List Cont) (h : st[i]? = some c) : (st ++ t)[i]? = some c := by
  obtain ⟨hl, _⟩ := List.getElem?_eq_some_iff.mp h
  rw [List.getElem?_append_left hl]; exact h
theorem lt_of_get {st : St} {i : Nat} {c : Cont} (h : st[i]? = some c) : i < st.length := by
  obtain ⟨hl, _⟩ := List.getElem?_eq_some_iff.mp h; exact hl
theorem reps_pw (c : Int) (n : Nat) : reps [D.int c] n = (List.replicate n c).map .int := by
  induction n with
  | zero =>
    exact rfl
  | succ n ih =>
    rw [reps, ih, List.replicate_succ]; rfl
theorem binD_rep {n : Nat} (h : n < 1000) (c : Int) : binD .mul (.tup [.int c]) (.int n) = some (pw (List.replicate n c)) := by
  show (if 0 ≤ (n : Int) ∧ (n : Int) < 1000 ∧ [D.int c].length = 1 then some (D.tup (reps [D.int c] (n : Int).toNat)) else none) = _
  rw [if_pos ⟨by lia, by lia, rfl⟩, Int.toNat_natCast, reps_pw]; rfl
theorem mvnumber_spec {N : Nat} (hN : 13 < N) (fz : List Nat) {n : Nat} (hn : n < 1000) {c : Int} (hc : c ≠ 0) (st : St) :
    callAll tab N fz 13 [rt c, .int n] st = some (.obj st.length, st ++ [.dic (toD [(List.replicate n 0, c)])]) := by
  rw [callAll_at (fn := f_mvnumber) rfl N hN]
  exact runFn_ret (ρ' := [some (rt c), some (.int n), none]) rfl (exS_ret (xRet (eCall (l2 (eBin (eTup1 eCst) (eVar rfl) (binD_rep hn 0)) (eVar rfl)) (mvterm_spec (by decide) fz (List.replicate n 0) hc st))))
theorem inD_po {st : St} {r : Nat} {P : Po} (h : st[r]? = some (.dic (toD P))) (k : List Int) : cmpD st .inn (pw k) (.obj r) = some (pget P k).isSome := by
  refine (bS h).trans ?_
  show (keyOf (pw k)).map _ = _
  rw [keyOf_pw, Option.map_some, dget_toD, Option.isSome_map]
theorem subD_po {st : St} {r : Nat} {P : Po} (h : st[r]? = some (.dic (toD P))) {k : List Int} {c : Int} (hk : pget P k = some c) : subD st (.obj r) (pw k) = some (rt c) := by
  refine (bS h).trans ?_
  show (keyOf (pw k)).bind (dget (toD P)) = _
  rw [keyOf_pw, Option.bind_some, dget_toD, hk]; rfl
theorem setItemD_dic {st : St} {fz : List Nat} {r : Nat} {es : List (List Int × D)} (h : st[r]? = some (.dic es)) (hf : r ∉ fz) (hl : es.length < lim) (k : List Int) (v : D) :
    setItemD fz st (.obj r) (pw k) v = some (st.set r (.dic (dput es k v))) := by
  refine (if_neg hf).trans ((bS h).trans ?_)
  show (keyOf (pw k)).bind _ = _
  rw [keyOf_pw, Option.bind_some, if_pos hl]
theorem pop_dic {st : St} {fz : List Nat} {r : Nat} {es : List (List Int × D)} (h : st[r]? = some (.dic es)) (hf : r ∉ fz) (hl : es.length < lim) (k : List Int) (x : D) :
    ∃ v, methD fz .pop (.obj r) [pw k, x] st = some (v, st.set r (.dic (if (dget es k).isSome then ddel es k else es))) := by
  rw [mPop, if_neg hf, h]
  show ∃ v, (if lim ≤ es.length then none else (keyOf (pw k)).bind _) = _
  rw [if_neg (Nat.not_le.mpr hl), keyOf_pw, Option.bind_some]
  show ∃ v, popO r st es k [x] (dget es k) = some (v, st.set r (.dic (if (dget es k).isSome then ddel es k else es)))
  cases e : dget es k with
  | none => exact ⟨x, congrArg (fun q => some (x, q)) (set_same h).symm⟩
  | some v => exact ⟨v, rfl⟩
theorem fitsM_dic {st : St} {r : Nat} {es : List (List Int × D)} (h : st[r]? = some (.dic es)) : fitsM .pop (.obj r) st = true := by
  show ((st[r]?).bind (cDic fun _ => some ())).isSome = true
  rw [h]; rfl
theorem atTail {fz : List Nat} {st : St} {r : Nat} {P X : Po} (hr : st[r]? = some (.dic (toD P))) (hf : r ∉ fz) (hlen : (toD P).length < lim) (k : List Int) {c t : Int} (h0 : t = 0 → (if (dget (toD P) k).isSome then ddel (toD P) k else toD P) = toD X) (h1 : t ≠ 0 → dput (toD P) k (rt t) = toD X) :
    exS (callAll tab 14) (.cons (.ife (.cmp .eq (.var 3) (.glob 0)) (.cons (.expr (.meth .pop (.var 0) (.cons (.var 1) (.cons (.cst .none) .nil)))) .nil) (.cons (.setItem (.var 0) (.var 1) (.var 3)) .nil)) .nil) fz
        [some (.obj r), some (pw k), some (rt c), some (rt t), none, none] st = some (.next, [some (.obj r), some (pw k), some (rt c), some (rt t), none, none], st.set r (.dic (toD X))) := by
  by_cases ht : t = 0
  · obtain ⟨v, hv⟩ := pop_dic hr hf hlen k .none
    rw [h0 ht] at hv
    subst ht
    exact exS_next (ss := .nil) (xIfT (eCmp (eVar rfl) (eGlob rfl) eqD_rt_yes) (exS_next (ss := .nil) (xExpr (eMeth (eVar rfl) (fitsM_dic hr) (l2 (eVar rfl) eCst) hv))))
  · have hs := setItemD_dic hr hf hlen k (rt t)
    rw [h1 ht] at hs
    exact exS_next (ss := .nil) (xIfF (eCmp (eVar rfl) (eGlob rfl) (eqD_rt_no ht)) (exS_next (ss := .nil) (xSet (eVar rfl) (eVar rfl) (eVar rfl) hs)))
theorem add_term_spec {N : Nat} (hN : 14 < N) {fz : List Nat} {st : St} {r : Nat} {P : Po} (hr : st[r]? = some (.dic (toD P))) (hf : r ∉ fz) (hn : (keys P).Nodup) (hz : Nz P) (hb : L1 P ≤ 50000)
    (k : List Int) {c : Int} (hc : c.natAbs ≤ 50000) : callAll tab N fz 14 [.obj r, pw k, rt c] st = some (.none, st.set r (.dic (toD (padd P k c)))) := by
  rw [callAll_at (fn := f_add_term) rfl N hN]
  have hlen : (toD P).length < lim := by rw [toD_length]; exact Nat.lt_of_le_of_lt (Nat.le_trans (len_le_L1 hz) hb) (by decide)
  have hin := inD_po hr k
  refine runFn_next rfl (ρ' := [some (.obj r), some (pw k), some (rt c), some (rt (match pget P k with | some o => o + c | none => c)), none, none]) ?_
  cases hg : pget P k with
  | none =>
    rw [hg] at hin
    have hk := pget_none.mp hg
    have hd : dget (toD P) k = none := by rw [dget_toD, hg]; rfl
    exact Eq.trans (exS_next (xAssign (eIteF (eCmp (eVar rfl) (eVar rfl) hin) (eVar rfl)))) (atTail hr hf hlen k (fun h => by rw [hd, padd_none hk, if_pos h]; rfl) (fun h => by rw [dput_none hk, padd_none hk, if_neg h]))
  | some o =>
    rw [hg] at hin
    have h64 : ∀ m : Nat, m ≤ 50000 → m < 2 ^ 64 := fun m h => Nat.lt_of_le_of_lt h (by decide)
    have ha := radd_rt (N := 14) (by decide) fz (a := o) (b := c) (h64 _ (Nat.le_trans (mem_le_L1 (pget_mem hg)) hb)) (h64 _ hc) st
    have hd : dget (toD P) k = some (rt o) := by rw [dget_toD, hg]; rfl
    have hp := padd_some hn hg c
    exact Eq.trans (exS_next (xAssign (eIteT (eCmp (eVar rfl) (eVar rfl) hin) (eCall (l2 (eIdx (eVar rfl) (eVar rfl) (subD_po hr hg)) (eVar rfl)) ha)))) (atTail hr hf hlen k (fun h => by rw [if_pos h] at hp; rw [hd, ← hp]; rfl) (fun h => by rw [if_neg h] at hp; exact hp))
end Mine
end
section
open PySem
set_option maxRecDepth 100000
set_option linter.unusedVariables false
set_option linter.unusedSimpArgs false
namespace Mine
noncomputable def HN (P : Po) : Prop := ((keys P).map hsh).Nodup
theorem dict_po {st : St} {a : Nat} {P : Po} (ha : st[a]? = some (.dic (toD P))) (hl : P.length < lim) (hh : HN P) : bltD .dict [.obj a] st = some (.obj st.length, st ++ [.dic (toD P)]) := by
  have : ((toD P).map fun e => hsh e.1).Nodup := by
    have e : (toD P).map (fun e => hsh e.1) = (keys P).map hsh := by rw [toD, keys, List.map_map, List.map_map]; rfl
    rw [e]; exact hh
  rw [bDict, ha]
  exact if_pos ⟨by rw [toD_length]; exact hl, this⟩
theorem le_lim {n : Nat} (h : n ≤ 50000) : n < lim := Nat.lt_of_le_of_lt h (by decide)
theorem get_split {P pre post : Po} {e : List Int × Int} (h : P = pre ++ e :: post) (hn : (keys P).Nodup) : pget P e.1 = some e.2 := pget_of_mem hn (by rw [h]; simp)
theorem L1_cons (e : List Int × Int) (r : Po) : L1 (e :: r) = e.2.natAbs + L1 r := by simp [L1]
theorem mvadd_spec {N : Nat} (hN : 15 < N) {fz : List Nat} {st : St} {a b : Nat} {P Q : Po} (ha : st[a]? = some (.dic (toD P))) (hb : st[b]? = some (.dic (toD Q))) (hf : ∀ r ∈ fz, r < st.length)
    (hn : (keys P).Nodup) (hz : Nz P) (hh : HN P) (hm : (keys Q).Nodup) (hl : L1 P + L1 Q ≤ 50000) : callAll tab N fz 15 [.obj a, .obj b] st = some (.obj st.length, st ++ [.dic (toD (paddall P Q))]) := by
  rw [callAll_at (fn := f_mvadd) rfl N hN]
  have hd := dict_po ha (le_lim (Nat.le_trans (len_le_L1 hz) (Nat.le_trans (Nat.le_add_right _ _) hl))) hh
  have hb' : ∀ X, (st ++ [X])[b]? = some (.dic (toD Q)) := fun X => get_old _ hb
  have hblt := lt_of_get hb
  have hnf : st.length ∉ b :: fz := fun q => (List.mem_cons.mp q).elim (fun q => Nat.ne_of_gt hblt q) fun q => Nat.lt_irrefl _ (hf _ q)
  obtain ⟨ρ', st', h1, ⟨pv, rfl⟩, rfl⟩ := forL_list (fun x ρ st => (bindT [3] x ρ).bind fun ρ' => exS (callAll tab 15) (.cons (.expr (.call 14 (.cons (.var 2) (.cons (.var 3) (.cons (.idx (.var 1) (.var 3)) .nil))))) .nil) (b :: fz) ρ' st) (fun e : List Int × Int => pw e.1)
    (fun pre ρ s => (∃ pv, ρ = [some (.obj a), some (.obj b), some (.obj st.length), pv, none, none]) ∧ s = st ++ [.dic (toD (paddall P pre))]) Q
    (by
      rintro pre e post ρ s hw ⟨⟨pv, rfl⟩, rfl⟩
      have h1 := subD_po (hb' (.dic (toD (paddall P pre)))) (get_split hw hm)
      have h2 : L1 Q = L1 pre + (e.2.natAbs + L1 post) := by rw [hw, L1_append, L1_cons]
      have h3 := L1_paddall P pre
      have h4 := add_term_spec (N := 15) (by decide) (fz := b :: fz) (get_last st (.dic (toD (paddall P pre)))) hnf (nodup_paddall hn pre) (nz_paddall hz pre) (by lia) e.1 (c := e.2) (by lia)
      rw [set_last, ← paddall_snoc] at h4
      exact ⟨_, _, bindX (bindT_1 ..) (exS_next (ss := .nil) (xExpr (eCall (l3 (eVar rfl) (eVar rfl) (eIdx (eVar rfl) (eVar rfl) h1)) h4))), ⟨some (pw e.1), rfl⟩, rfl⟩)
    Q [] [some (.obj a), some (.obj b), some (.obj st.length), none, none, none] (st ++ [.dic (toD P)]) rfl ⟨⟨_, rfl⟩, rfl⟩
  refine runFn_ret rfl (ρ' := [some (.obj a), some (.obj b), some (.obj st.length), pv, none, none]) ?_
  exact Eq.trans (exS_next (xAssign (eBlt (l1 (eVar rfl)) hd))) (Eq.trans (exS_next (exS_for (d := .obj b) (eVar rfl) (items_po (hb' _)) h1)) (exS_ret (xRet (eVar rfl))))
theorem filter_map_nodup {α : Type} {f : α → List Int × Int} {q : α → Bool} {L M : List α} {e : α} (h : (keys (((L ++ e :: M).filter q).map f)).Nodup) (hq : q e = true) : (f e).1 ∉ keys ((L.filter q).map f) := by
  intro r
  rw [List.filter_append, List.filter_cons, if_pos hq] at h
  simp only [keys, List.map_append, List.map_cons, List.nodup_append] at h
  exact h.2.2 _ r _ List.mem_cons_self rfl
theorem loopF_dict {α : Type} (body : D → List (List Int × D) → St → Option (List (List Int × D) × St)) (enc : α → D) (f : α → List Int × Int) (w : α → D) (q : α → Bool) (st : St) (toE : List α → List (List Int × D)) (hE : toE = fun L => (L.filter q).map fun e => ((f e).1, w e)) (L : List α) : ∀ (pre : List α), (keys (((pre ++ L).filter q).map f)).Nodup → (pre ++ L).length < lim →
    (∀ e ∈ L, ∀ acc, acc.length < lim → body (enc e) acc st = some (if q e then dput acc (f e).1 (w e) else acc, st)) → loopF body (L.map enc) (toE pre) st = some (toE (pre ++ L), st) := by
  induction L with
  | nil =>
    intro pre _ _ _
    simp [loopF]
  | cons e L ih =>
    intro pre hn hl h
    subst hE
    have hlen : ((pre.filter q).map fun e => ((f e).1, w e)).length < lim := by
      have := List.length_filter_le q pre
      simp at hl ⊢; lia
    have h1 := h e List.mem_cons_self _ hlen
    rw [List.map_cons, loopF]
    rw [h1, Option.bind_some]
    have e1 : (if q e then dput ((pre.filter q).map fun e => ((f e).1, w e)) (f e).1 (w e) else (pre.filter q).map fun e => ((f e).1, w e)) = ((pre ++ [e]).filter q).map fun e => ((f e).1, w e) := by
      cases hq : q e
      · simp [List.filter_append, hq]
      · have hk := filter_map_nodup hn hq
        have : dget ((pre.filter q).map fun e => ((f e).1, w e)) (f e).1 = none := by
          rw [dget, Option.map_eq_none_iff, List.find?_eq_none]
          intro x hx
          obtain ⟨y, hy, rfl⟩ := List.mem_map.mp hx
          simp only [decide_eq_true_eq]
          intro q
          exact hk (List.mem_map.mpr ⟨f y, List.mem_map.mpr ⟨y, hy, rfl⟩, q⟩)
        rw [if_pos rfl, dput, this]
        simp [List.filter_append, hq]
    show loopF body (L.map enc) (if q e then dput ((pre.filter q).map fun e => ((f e).1, w e)) (f e).1 (w e) else (pre.filter q).map fun e => ((f e).1, w e)) st = _
    rw [e1]
    have := ih (pre ++ [e]) (by simpa using hn) (by simpa using hl) fun x hx => h x (List.mem_cons_of_mem _ hx)
    rw [List.append_assoc] at this
    exact this
theorem evE_dcomp {α : Type} {cf : List Nat → Nat → List D → St → Option (D × St)} {imps : List (Option Nat)} {tgt : List Nat} {k : SK} {src cond key val : E} {fz : List Nat} {ρ : Rho} {st st1 : St} {d : D} {L : List α} {enc : α → D} {f : α → List Int × Int} {w : α → D} {q : α → Bool}
    (h1 : evE cf src fz ρ st = some (d, st1)) (h2 : items k d st1 = some (L.map enc)) (hl : L.length < lim) (hn : (keys ((L.filter q).map f)).Nodup)
    (hs : ∀ e ∈ L, ∃ ρ', bindT tgt (enc e) (impRho imps ρ) = some ρ' ∧ evE cf cond (fzOf d fz) ρ' st1 = some (.bool (q e), st1) ∧ (q e = true → evE cf key (fzOf d fz) ρ' st1 = some (pw (f e).1, st1) ∧ evE cf val (fzOf d fz) ρ' st1 = some (w e, st1))) :
    evE cf (.dcomp imps tgt k src cond key val) fz ρ st = some (.obj st1.length, st1 ++ [.dic ((L.filter q).map fun e => ((f e).1, w e))]) := by
  refine (bS h1).trans ((bS h2).trans (mS (loopF_dict _ enc f w q st1 (fun L => (L.filter q).map fun e => ((f e).1, w e)) rfl L [] (by simpa using hn) hl fun e he acc hacc => ?_)))
  obtain ⟨ρ', e1, e2, e3⟩ := hs e he
  refine (bS e1).trans ((bS e2).trans ?_)
  rcases hq : q e with _ | _
  · rfl
  · obtain ⟨e4, e5⟩ := e3 hq
    exact (bS e4).trans ((bS e5).trans ((bS (keyOf_pw _)).trans (if_pos hacc)))
theorem dic_map_toD {α : Type} (L : List α) (f : α → List Int × Int) : (L.map fun e => ((f e).1, rt (f e).2)) = toD (L.map f) := by simp [toD]
theorem filter_true {α : Type} (L : List α) : L.filter (fun _ => true) = L := by simp
theorem mvneg_spec {N : Nat} (hN : 16 < N) {fz : List Nat} {st : St} {a : Nat} {P : Po} (ha : st[a]? = some (.dic (toD P))) (hn : (keys P).Nodup) (hz : Nz P) (hl : L1 P ≤ 50000) :
    callAll tab N fz 16 [.obj a] st = some (.obj st.length, st ++ [.dic (toD (pneg P))]) := by
  rw [callAll_at (fn := f_mvneg) rfl N hN]
  refine runFn_ret rfl (ρ' := [some (.obj a)]) (exS_ret (xRet ?_))
  have h := evE_dcomp (cf := callAll tab 16) (imps := [none, none, none, some 0]) (tgt := [1]) (k := .plain) (src := .var 0) (cond := .nil) (key := .var 1) (val := .call 10 (.cons (.idx (.var 3) (.var 1)) .nil)) (fz := fz) (ρ := [some (.obj a)]) (st := st) (L := P) (enc := fun e => pw e.1) (f := fun e => (e.1, -e.2)) (w := fun e => rt (-e.2)) (q := fun _ => true) (d := .obj a) (st1 := st) (eVar rfl) (items_po ha) (le_lim (Nat.le_trans (len_le_L1 hz) hl)) (by
    have e := keys_pneg P
    rw [filter_true]; show (keys (pneg P)).Nodup
    rw [e]; exact hn) fun e he => ⟨_, bindT_1 .., eTrue, fun _ => ⟨eVar rfl, eCall (l1 (eIdx (eVar rfl) (eVar rfl) (subD_po ha (pget_of_mem hn he)))) (rneg_rt (by decide) _ e.2 st)⟩⟩
  rw [filter_true, dic_map_toD P fun e => (e.1, -e.2)] at h
  exact h
theorem mvsub_spec {N : Nat} (hN : 17 < N) {fz : List Nat} {st : St} {a b : Nat} {P Q : Po} (ha : st[a]? = some (.dic (toD P))) (hb : st[b]? = some (.dic (toD Q))) (hf : ∀ r ∈ fz, r < st.length)
    (hn : (keys P).Nodup) (hz : Nz P) (hh : HN P) (hm : (keys Q).Nodup) (hz' : Nz Q) (hl : L1 P + L1 Q ≤ 50000) : callAll tab N fz 17 [.obj a, .obj b] st = some (.obj (st.length + 1), st ++ [.dic (toD (pneg Q)), .dic (toD (psub P Q))]) := by
  rw [callAll_at (fn := f_mvsub) rfl N hN]
  have h1 := mvneg_spec (N := 17) (by decide) (fz := fz) hb hm hz' (Nat.le_trans (Nat.le_add_left _ _) hl)
  have e : (st ++ [Cont.dic (toD (pneg Q))]).length = st.length + 1 := by rw [List.length_append]; rfl
  have h2 := mvadd_spec (N := 17) (by decide) (fz := fz) (get_old [.dic (toD (pneg Q))] ha) (get_last st (.dic (toD (pneg Q)))) (fun r hr => by rw [e]; exact Nat.lt_succ_of_lt (hf r hr)) hn hz hh (by rw [keys_pneg]; exact hm) (by rw [L1_pneg]; exact hl)
  rw [e, List.append_assoc] at h2
  exact runFn_ret rfl (ρ' := [some (.obj a), some (.obj b), none, none]) (exS_ret (xRet (eCall (l2 (eVar rfl) (eCall (l1 (eVar rfl)) h1)) h2)))
end Mine
end
section
open PySem
set_option maxRecDepth 100000
set_option linter.unusedVariables false
set_option linter.unusedSimpArgs false
namespace Mine
theorem ksum_inj : ∀ {a b s : List Int}, a.length = s.length → b.length = s.length → ksum a s = ksum b s → a = b
  | [], [], _, _, _, _ => rfl
  | [], _ :: _, _, h, h', _ => by rw [← h] at h'; simp at h'
  | _ :: _, [], _, h, h', _ => by rw [← h'] at h; simp at h
  | i :: a, j :: b, [], h, _, _ => by simp at h
  | i :: a, j :: b, x :: s, h, h', e => by
    simp only [ksum, List.zipWith_cons_cons, List.cons.injEq] at e
    rw [ksum_inj (a := a) (b := b) (s := s) (by simpa using h) (by simpa using h') e.2]
    congr 1; lia
theorem nodup_prow {n : Nat} {d d' : Int} {P : Po} (hn : (keys P).Nodup) (h : ∀ k ∈ keys P, KK n d k) {e : List Int × Int} (he : KK n d' e.1) : (keys (prow P e)).Nodup := by
  induction P with
  | nil => exact List.nodup_nil
  | cons a r ih =>
    have hr : ∀ k ∈ keys r, KK n d k := fun k hk => h k (by simp only [keys, List.map_cons, List.mem_cons] at hk ⊢; exact .inr hk)
    simp only [keys, List.map_cons, List.nodup_cons] at hn
    have e1 : prow (a :: r) e = (ksum a.1 e.1, a.2 * e.2) :: prow r e := rfl
    rw [e1]
    simp only [keys, List.map_cons, List.nodup_cons]
    refine ⟨fun q => ?_, ih hn.2 hr⟩
    simp only [prow, List.mem_map] at q
    obtain ⟨x, ⟨y, hy, rfl⟩, hx⟩ := q
    have := ksum_inj (by rw [(hr y.1 (List.mem_map.mpr ⟨y, hy, rfl⟩)).len, he.len]) (by rw [(h a.1 (by simp [keys])).len, he.len]) hx
    exact hn.1 (List.mem_map.mpr ⟨y, hy, this⟩)
theorem lt64 {m : Nat} (h : m ≤ 50000) : m < 2 ^ 64 := Nat.lt_of_le_of_lt h (by decide)
theorem mvshift_spec {N : Nat} (hN : 18 < N) {fz : List Nat} {st : St} {a : Nat} {P : Po} {n : Nat} {d d' : Int} {B : Nat} (ha : st[a]? = some (.dic (toD P))) (ho : Ok n d B P) (hB : B ≤ 50000) (hn : n < 1000) {s : List Int} (hs : KK n d' s) {c : Int} (hc : c ≠ 0) (hc' : c.natAbs ≤ 50000) :
    callAll tab N fz 18 [.obj a, pw s, rt c] st = some (.obj st.length, st ++ [.dic (toD (prow P (s, c)))]) := by
  rw [callAll_at (fn := f_mvshift) rfl N hN]
  refine runFn_ret rfl (ρ' := [some (.obj a), some (pw s), some (rt c), none]) (Eq.trans (exS_next (xIfF (eCmp (eVar rfl) (eGlob rfl) (eqD_rt_no hc)) xNil)) (exS_ret (xRet ?_)))
  have h := evE_dcomp (cf := callAll tab 18) (imps := [none, none, none, none, some 0, some 1, some 2]) (tgt := [1]) (k := .plain) (src := .var 0) (cond := .nil) (key := .call 1 (.cons (.var 1) (.cons (.var 5) .nil))) (val := .call 8 (.cons (.idx (.var 4) (.var 1)) (.cons (.var 6) .nil))) (fz := fz) (ρ := [some (.obj a), some (pw s), some (rt c), none]) (st := st) (L := P) (enc := fun e => pw e.1) (f := fun e => (ksum e.1 s, e.2 * c)) (w := fun e => rt (e.2 * c)) (q := fun _ => true) (d := .obj a) (st1 := st) (eVar rfl) (items_po ha) (le_lim (Nat.le_trans ho.len hB)) (by
      rw [filter_true]; exact nodup_prow ho.nodup ho.kk (e := (s, c)) hs) fun e he => by
      have hk := ho.kk e.1 (List.mem_map.mpr ⟨e, he, rfl⟩)
      exact ⟨_, bindT_1 .., eTrue, fun _ => ⟨eCall (l2 (eVar rfl) (eVar rfl)) (product_spec (by decide) _ (by rw [hk.len, hs.len]) (by rw [hk.len]; exact hn) st), eCall (l2 (eIdx (eVar rfl) (eVar rfl) (subD_po ha (pget_of_mem ho.nodup he))) (eVar rfl)) (rmul_rt (by decide) _ (lt64 (Nat.le_trans (ho.abs he) hB)) (lt64 hc') st)⟩⟩
  rw [filter_true, dic_map_toD P fun e => (ksum e.1 s, e.2 * c)] at h
  exact h
theorem prow_append (P Q : Po) (e : List Int × Int) : prow (P ++ Q) e = prow P e ++ prow Q e := by simp [prow]
theorem abs_mul_le {a b : Int} {A B : Nat} (h : a.natAbs ≤ A) (h' : b.natAbs ≤ B) : (a * b).natAbs ≤ A * B := by rw [Int.natAbs_mul]; exact Nat.mul_le_mul h h'
theorem mvmul_spec {N : Nat} (hN : 19 < N) {fz : List Nat} {st : St} {a b : Nat} {P Q : Po} {n : Nat} {d d' : Int} {B C : Nat} (ha : st[a]? = some (.dic (toD P))) (hb : st[b]? = some (.dic (toD Q))) (hf : ∀ r ∈ fz, r < st.length) (ho : Ok n d B P) (ho' : Ok n d' C Q)
    (hB : B ≤ 100) (hC : C ≤ 50) (hn : n < 1000) : callAll tab N fz 19 [.obj a, .obj b] st = some (.obj st.length, st ++ [.dic (toD (pmul P Q))]) := by
  rw [callAll_at (fn := f_mvmul) rfl N hN]
  have ha' : ∀ X, (st ++ [X])[a]? = some (.dic (toD P)) := fun X => get_old _ ha
  have hb' : ∀ X, (st ++ [X])[b]? = some (.dic (toD Q)) := fun X => get_old _ hb
  have halt := lt_of_get ha
  have hblt := lt_of_get hb
  have hBC : B * C ≤ 50000 := Nat.le_trans (Nat.mul_le_mul hB hC) (by lia)
  have inner : ∀ pre e post (pv : Option D), Q = pre ++ e :: post → ∃ ρ' st', forL (fun x ρ st => (bindT [4] x ρ).bind fun ρ' => exS (callAll tab 19) (.cons (.expr (.call 14 (.cons (.var 2) (.cons (.call 1 (.cons (.var 4) (.cons (.var 3) .nil))) (.cons (.call 8 (.cons (.idx (.var 0) (.var 4)) (.cons (.idx (.var 1) (.var 3)) .nil))) .nil))))) .nil) (fzOf (.obj a) (b :: fz)) ρ' st)
      (P.map fun e : List Int × Int => pw e.1) [some (.obj a), some (.obj b), some (.obj st.length), some (pw e.1), pv, none, none, none] (st ++ [.dic (toD (paddall [] (pre.flatMap (prow P))))]) = some (.next, ρ', st') ∧
      (∃ pv, ρ' = [some (.obj a), some (.obj b), some (.obj st.length), some (pw e.1), pv, none, none, none]) ∧ st' = st ++ [.dic (toD (paddall [] ((pre ++ [e]).flatMap (prow P))))] := by
    intro pre e post pv hw
    have hL : L1 ((pre ++ [e]).flatMap (prow P)) ≤ 50000 := by
      rw [L1_flat]
      have : L1 (pre ++ [e]) ≤ L1 Q := by rw [hw, L1_append, L1_append, L1_cons, L1_cons]; have : L1 ([] : Po) = 0 := rfl; lia
      exact Nat.le_trans (Nat.mul_le_mul ho.l1 (Nat.le_trans this ho'.l1)) hBC
    have heq : e ∈ Q := by rw [hw]; simp
    have hke := ho'.kk e.1 (List.mem_map.mpr ⟨e, heq, rfl⟩)
    have hgQ : pget Q e.1 = some e.2 := get_split hw ho'.nodup
    have hab := ho'.abs heq
    have key := forL_list (fun x ρ st => (bindT [4] x ρ).bind fun ρ' => exS (callAll tab 19) (.cons (.expr (.call 14 (.cons (.var 2) (.cons (.call 1 (.cons (.var 4) (.cons (.var 3) .nil))) (.cons (.call 8 (.cons (.idx (.var 0) (.var 4)) (.cons (.idx (.var 1) (.var 3)) .nil))) .nil))))) .nil) (fzOf (.obj a) (b :: fz)) ρ' st) (fun e : List Int × Int => pw e.1)
      (fun p2 ρ s => (∃ pv, ρ = [some (.obj a), some (.obj b), some (.obj st.length), some (pw e.1), pv, none, none, none]) ∧ s = st ++ [.dic (toD (paddall (paddall [] (pre.flatMap (prow P))) (prow p2 e)))]) P
      (by
        rintro p2 e2 post2 ρ s hw2 ⟨⟨pv, rfl⟩, rfl⟩
        have hmem : e2 ∈ P := by rw [hw2]; simp
        have hk2 := ho.kk e2.1 (List.mem_map.mpr ⟨e2, hmem, rfl⟩)
        have hgP : pget P e2.1 = some e2.2 := get_split hw2 ho.nodup
        have hab2 := ho.abs hmem
        generalize hX : paddall (paddall [] (pre.flatMap (prow P))) (prow p2 e) = X
        have h1 := subD_po (ha' (.dic (toD X))) hgP
        have h2 := subD_po (hb' (.dic (toD X))) hgQ
        have h3 := product_spec (N := 19) (by lia) (fzOf (.obj a) (b :: fz)) (a := e2.1) (b := e.1) (by rw [hk2.len, hke.len]) (by rw [hk2.len]; exact hn) (st ++ [.dic (toD X)])
        have h4 := rmul_rt (N := 19) (by lia) (fzOf (.obj a) (b :: fz)) (a := e2.2) (b := e.2) (by lia) (by lia) (st ++ [.dic (toD X)])
        have hXn : (keys X).Nodup := by rw [← hX]; exact nodup_paddall (nodup_paddall (show (keys ([] : Po)).Nodup from List.nodup_nil) _) _
        have hXz : Nz X := by rw [← hX]; exact nz_paddall (nz_paddall (fun _ h => by cases h) _) _
        have hXl : L1 X ≤ 50000 := by
          rw [← hX, ← paddall_append]
          refine Nat.le_trans (L1_paddall _ _) ?_
          have e1 : L1 (prow p2 e) ≤ L1 (prow P e) := by
            rw [hw2, prow_append, L1_append]; lia
          have e2 : L1 ((pre ++ [e]).flatMap (prow P)) = L1 (pre.flatMap (prow P)) + L1 (prow P e) := by rw [List.flatMap_append, L1_append]; simp
          rw [L1_append]; have : L1 ([] : Po) = 0 := rfl; lia
        have h5 := add_term_spec (N := 19) (by lia) (fz := fzOf (.obj a) (b :: fz)) (get_last st (.dic (toD X))) (by
          intro q
          rcases List.mem_cons.mp q with q | q
          · lia
          · rcases List.mem_cons.mp q with q | q
            · lia
            · have := hf _ q; lia) hXn hXz hXl (ksum e2.1 e.1) (c := e2.2 * e.2) (Nat.le_trans (abs_mul_le hab2 hab) hBC)
        rw [set_last] at h5
        have h6 : padd X (ksum e2.1 e.1) (e2.2 * e.2) = paddall (paddall [] (pre.flatMap (prow P))) (prow (p2 ++ [e2]) e) := by
          rw [prow_append, paddall_append, hX]; rfl
        rw [h6] at h5
        exact ⟨_, _, bindX (bindT_1 ..) (exS_next (ss := .nil) (xExpr (eCall (l3 (eVar rfl) (eCall (l2 (eVar rfl) (eVar rfl)) h3) (eCall (l2 (eIdx (eVar rfl) (eVar rfl) h1) (eIdx (eVar rfl) (eVar rfl) h2)) h4)) h5))), ⟨some (pw e2.1), rfl⟩, rfl⟩)
      P [] [some (.obj a), some (.obj b), some (.obj st.length), some (pw e.1), pv, none, none, none] (st ++ [.dic (toD (paddall [] (pre.flatMap (prow P))))]) rfl ⟨⟨_, rfl⟩, rfl⟩
    obtain ⟨ρ', st', h1, h2, h3⟩ := key
    refine ⟨ρ', st', h1, h2, ?_⟩
    rw [h3, List.flatMap_append, paddall_append]; simp
  have outer := forL_list (fun x ρ st => (bindT [3] x ρ).bind fun ρ' => exS (callAll tab 19) (.cons (.fore [4] .plain (.var 0) (.cons (.expr (.call 14 (.cons (.var 2) (.cons (.call 1 (.cons (.var 4) (.cons (.var 3) .nil))) (.cons (.call 8 (.cons (.idx (.var 0) (.var 4)) (.cons (.idx (.var 1) (.var 3)) .nil))) .nil))))) .nil)) .nil) (fzOf (.obj b) fz) ρ' st) (fun e : List Int × Int => pw e.1)
    (fun pre ρ s => (∃ pv qv, ρ = [some (.obj a), some (.obj b), some (.obj st.length), pv, qv, none, none, none]) ∧ s = st ++ [.dic (toD (paddall [] (pre.flatMap (prow P))))]) Q
    (by
      rintro pre e post ρ s hw ⟨⟨pv, qv, rfl⟩, rfl⟩
      obtain ⟨ρ', st', h1, ⟨pv', rfl⟩, rfl⟩ := inner pre e post qv hw
      refine ⟨[some (.obj a), some (.obj b), some (.obj st.length), some (pw e.1), pv', none, none, none], _, ?_, ⟨some (pw e.1), pv', rfl⟩, rfl⟩
      refine bindX (bindT_1 ..) ?_
      exact exS_next (cf := callAll tab 19) (ss := .nil) (exS_for (d := .obj a) (eVar rfl) (items_po (ha' _)) h1))
    Q [] [some (.obj a), some (.obj b), some (.obj st.length), none, none, none, none, none] (st ++ [.dic (toD [])]) rfl ⟨⟨_, _, rfl⟩, rfl⟩
  obtain ⟨ρ', st', h1, ⟨pv, qv, rfl⟩, rfl⟩ := outer
  refine runFn_ret rfl (ρ' := [some (.obj a), some (.obj b), some (.obj st.length), pv, qv, none, none, none]) ?_
  exact Eq.trans (exS_next (xAssign eDict0)) (Eq.trans (exS_next (exS_for (d := .obj b) (eVar rfl) (items_po (hb' _)) h1)) (exS_ret (xRet (eVar rfl))))
end Mine
end
section
open PySem
set_option maxRecDepth 100000
set_option linter.unusedVariables false
set_option linter.unusedSimpArgs false
namespace Mine
noncomputable def Ext (st st' : St) : Prop := ∃ t, st' = st ++ t
theorem Ext.refl (st : St) : Ext st st := ⟨[], by simp⟩
theorem Ext.one (st : St) (t : List Cont) : Ext st (st ++ t) := ⟨t, rfl⟩
theorem Ext.trans {a b c : St} (h : Ext a b) (h' : Ext b c) : Ext a c := by
  obtain ⟨t, rfl⟩ := h; obtain ⟨u, rfl⟩ := h'; exact ⟨t ++ u, by simp⟩
theorem Ext.get {a b : St} (h : Ext a b) {i : Nat} {c : Cont} (e : a[i]? = some c) : b[i]? = some c := by
  obtain ⟨t, rfl⟩ := h; exact get_old t e
theorem Ext.le {a b : St} (h : Ext a b) : a.length ≤ b.length := by
  obtain ⟨t, rfl⟩ := h; simp
noncomputable def pnum (n : Nat) : Po := [(List.replicate n 0, 1)]
theorem Ok.num (n : Nat) (d : Int) (hd : 0 ≤ d) : Ok n d 1 (pnum n) := by
  refine ⟨by simp [pnum, keys], by intro e he; simp [pnum] at he; subst he; show (1 : Int) ≠ 0; decide, ?_, by simp [pnum, L1]⟩
  intro k hk
  simp [keys, pnum] at hk
  subst hk
  refine ⟨by simp, by intro i hi; have := List.eq_of_mem_replicate hi; lia, ?_⟩
  simpa using hd
noncomputable def ppow (m : Nat) (n : Nat) (P : Po) : Po := if m = 2 then pmul (pnum n) P else pmul (pnum n) (pmul P P)
theorem bindT_3 (i j k : Nat) (x y z : D) (ρ : Rho) : bindT [i, j, k] (.tup [x, y, z]) ρ = some (((ρ.set i (some x)).set j (some y)).set k (some z)) := rfl
theorem mvpower_spec {N : Nat} (hN : 20 < N) {fz : List Nat} {st : St} {a : Nat} {P : Po} {n p : Nat} {d : Int} {B : Nat} (ha : st[a]? = some (.dic (toD P))) (hf : ∀ r ∈ fz, r < st.length) (ho : Ok n d B P) (hB : B ≤ 7) (hn : n < 1000) (hp : p = 2 ∨ p = 3) :
    ∃ st' r, callAll tab N fz 20 [.obj a, .int ((p : Int) - 1), .int n] st = some (.obj r, st') ∧ st'[r]? = some (.dic (toD (ppow p n P))) ∧ Ext st st' := by
  rw [callAll_at (fn := f_mvpower) rfl N hN]
  have h1 := mvnumber_spec (N := 20) (by lia) fz hn (c := 1) (by decide) st
  obtain ⟨k, hk⟩ : ∃ k, WF = k + 1 + 1 + 1 := ⟨9997, rfl⟩
  have e1 : (st ++ [Cont.dic (toD (pnum n))]).length = st.length + 1 := by simp
  have s1 : ∀ v : Int, exS (callAll tab 20) (.assignT [3, 4, 5] (.tup (.cons (.call 13 (.cons (.glob 1) (.cons (.var 2) .nil))) (.cons (.var 0) (.cons (.var 1) .nil))))) fz [some (.obj a), some (.int v), some (.int n), none, none, none, none, none, none] st =
      some (.next, [some (.obj a), some (.int v), some (.int n), some (.obj st.length), some (.obj a), some (.int v), none, none, none], st ++ [.dic (toD (pnum n))]) := fun v =>
    xAssignT (eTup3 (eCall (l2 (eGlob rfl) (eVar rfl)) h1) (eVar rfl) (eVar rfl)) rfl
  have test : ∀ (v : Int) x2 x3 x4 s, evE (callAll tab 20) (.cmp .gt (.var 5) (.cst (.int 0))) fz [some (.obj a), x2, some (.int n), x3, x4, some (.int v), none, none, none] s = some (.bool (decide (v > 0)), s) := fun v _ _ _ s =>
    eCmp (eVar rfl) eCst (cmpD_gt_int s v 0)
  have hfloor2 : intBin .div 2 2 = some 1 := rfl
  have hfloor1 : intBin .div 1 2 = some 0 := rfl
  rcases hp with hp | hp <;> subst hp
  · have h2 := mvmul_spec (N := 20) (by lia) (fz := fz) (get_last st (.dic (toD (pnum n)))) (get_old [.dic (toD (pnum n))] ha) (fun r hr => by have := hf r hr; simp; lia) (Ok.num n 0 (by decide)) ho (by lia) (by lia) hn
    rw [e1, List.append_assoc] at h2
    refine ⟨st ++ [.dic (toD (pnum n)), .dic (toD (pmul (pnum n) P))], st.length + 1, ?_, by simp [ppow], Ext.one _ _⟩
    refine runFn_ret rfl (ρ' := [some (.obj a), some (.int 1), some (.int n), some (.obj (st.length + 1)), some (.obj a), some (.int 0), none, none, none]) ?_
    refine Eq.trans (exS_next (s1 1)) ?_
    refine Eq.trans (exS_next (ρ' := [some (.obj a), some (.int 1), some (.int n), some (.obj (st.length + 1)), some (.obj a), some (.int 0), none, none, none]) (st' := st ++ [.dic (toD (pnum n)), .dic (toD (pmul (pnum n) P))]) ?_) ?_
    · refine exS_whl.trans ?_
      rw [hk]
      exact (whileL_next (test 1 _ _ _ _) (Eq.trans (exS_next (xIfT (eCmp (eBin (eVar rfl) eCst rfl) eCst rfl) (exS_next (ss := .nil) (xAssign (eCall (l2 (eVar rfl) (eVar rfl)) h2))))) (Eq.trans (exS_next (xAssign (eIteF (eCmp (eVar rfl) eCst rfl) (eVar rfl)))) (exS_next (ss := .nil) (xAssign (eBin (eVar rfl) eCst rfl)))))).trans (whileL_stop (test 0 _ _ _ _))
    · exact exS_ret (xRet (eVar rfl))
  · have h2 := mvmul_spec (N := 20) (by lia) (fz := fz) (get_old [.dic (toD (pnum n))] ha) (get_old [.dic (toD (pnum n))] ha) (fun r hr => by have := hf r hr; simp; lia) ho ho (by lia) (by lia) hn
    have e2 : (st ++ [Cont.dic (toD (pnum n)), .dic (toD (pmul P P))]).length = st.length + 1 + 1 := by simp
    have e3 : (st ++ [Cont.dic (toD (pnum n)), .dic (toD (pmul P P))]) = (st ++ [Cont.dic (toD (pnum n))]) ++ [.dic (toD (pmul P P))] := by simp
    have hBB : B * B ≤ 7 * 7 := Nat.mul_le_mul hB hB
    have h3 := mvmul_spec (N := 20) (by lia) (fz := fz) (st := st ++ [Cont.dic (toD (pnum n)), .dic (toD (pmul P P))]) (a := st.length) (b := st.length + 1) (by simp) (by simp) (fun r hr => by have := hf r hr; simp; lia) (Ok.num n 0 (by decide)) (ho.pmul ho) (by lia) (by lia) hn
    rw [e1, List.append_assoc] at h2
    rw [e2, List.append_assoc] at h3
    refine ⟨st ++ [.dic (toD (pnum n)), .dic (toD (pmul P P)), .dic (toD (pmul (pnum n) (pmul P P)))], st.length + 1 + 1, ?_, by rw [List.getElem?_append_right (by lia)]; simp [ppow, show st.length + 1 + 1 - st.length = 2 by lia], Ext.one _ _⟩
    refine runFn_ret rfl (ρ' := [some (.obj a), some (.int 2), some (.int n), some (.obj (st.length + 1 + 1)), some (.obj (st.length + 1)), some (.int 0), none, none, none]) ?_
    refine Eq.trans (exS_next (s1 2)) ?_
    refine Eq.trans (exS_next (ρ' := [some (.obj a), some (.int 2), some (.int n), some (.obj (st.length + 1 + 1)), some (.obj (st.length + 1)), some (.int 0), none, none, none]) (st' := st ++ [.dic (toD (pnum n)), .dic (toD (pmul P P)), .dic (toD (pmul (pnum n) (pmul P P)))]) ?_) ?_
    · refine exS_whl.trans ?_
      rw [hk]
      exact (whileL_next (test 2 _ _ _ _) (Eq.trans (exS_next (xIfF (eCmp (eBin (eVar rfl) eCst rfl) eCst rfl) xNil)) (Eq.trans (exS_next (xAssign (eIteT (eCmp (eVar rfl) eCst rfl) (eCall (l2 (eVar rfl) (eVar rfl)) h2)))) (exS_next (ss := .nil) (xAssign (eBin (eVar rfl) eCst rfl)))))).trans
        ((whileL_next (test 1 _ _ _ _) (Eq.trans (exS_next (xIfT (eCmp (eBin (eVar rfl) eCst rfl) eCst rfl) (exS_next (ss := .nil) (xAssign (eCall (l2 (eVar rfl) (eVar rfl)) h3))))) (Eq.trans (exS_next (xAssign (eIteF (eCmp (eVar rfl) eCst rfl) (eVar rfl)))) (exS_next (ss := .nil) (xAssign (eBin (eVar rfl) eCst rfl)))))).trans (whileL_stop (test 0 _ _ _ _)))
    · exact exS_ret (xRet (eVar rfl))
/-- mvlead -/
noncomputable def leadL (ord : Str) : Po → Option (List Int × List Int) → Option (List Int × List Int)
  | [], b => b
  | e :: r, none => leadL ord r (some (e.1, okey ord e.1))
  | e :: r, some b => if lexGt (okey ord e.1) b.2 then leadL ord r (some (e.1, okey ord e.1)) else leadL ord r (some b)
noncomputable def leadP (ord : Str) (P : Po) : Option (List Int × Int) := (leadL ord P none).bind fun b => (pget P b.1).map fun c => (b.1, c)
noncomputable def leadD : Option (List Int × Int) → D
  | none => .none
  | some e => .tup [pw e.1, rt e.2]
theorem leadL_mem (ord : Str) (P : Po) : ∀ b, (∀ x, b = some x → x.2 = okey ord x.1) → ∀ x, leadL ord P b = some x → (x.1 ∈ keys P ∨ b = some x) := by
  induction P with
  | nil => exact fun b _ x h => .inr h
  | cons e r ih =>
    intro b hb x h
    have new : leadL ord r (some (e.1, okey ord e.1)) = some x → x.1 ∈ keys (e :: r) := fun h => by
      rcases ih _ (by rintro y ⟨⟩; rfl) x h with q | q
      · exact List.mem_cons_of_mem _ q
      · obtain rfl := Option.some.inj q; exact List.mem_cons_self
    rcases b with _ | b
    · exact .inl (new h)
    · rw [leadL] at h
      by_cases hc : lexGt (okey ord e.1) b.2 = true
      · exact .inl (new ((if_pos hc).symm.trans h))
      · rcases ih _ hb x ((if_neg hc).symm.trans h) with q | q
        · exact .inl (List.mem_cons_of_mem _ q)
        · exact .inr q
theorem leadL_some (ord : Str) (P : Po) : ∀ b, (leadL ord P (some b)).isSome := by
  induction P with
  | nil =>
    intro b
    exact rfl
  | cons e r ih =>
    intro b
    rw [leadL]; split <;> exact ih _
theorem leadP_mem {ord : Str} {P : Po} (hn : (keys P).Nodup) (hne : P ≠ []) : ∃ e ∈ P, leadP ord P = some e := by
  cases P with
  | nil => exact absurd rfl hne
  | cons a r =>
    have h1 := leadL_some ord r (a.1, okey ord a.1)
    obtain ⟨b, hb⟩ := Option.isSome_iff_exists.mp h1
    have hb' : leadL ord (a :: r) none = some b := hb
    rcases leadL_mem ord (a :: r) none (by rintro _ ⟨⟩) b hb' with q | q
    · obtain ⟨e, he, hq⟩ := List.mem_map.mp q
      refine ⟨e, he, ?_⟩
      rw [leadP, hb', Option.bind_some, ← hq, pget_of_mem hn he]; rfl
    · exact none_ne q
noncomputable def bestD : Option (List Int × List Int) → D × D
  | none => (.none, .none)
  | some b => (pw b.1, pw b.2)
@[simp] theorem isNone_pw (st : St) (k : List Int) : cmpD st .is (pw k) .none = some false := rfl
@[simp] theorem isNone_none (st : St) : cmpD st .is .none .none = some true := rfl
@[simp] theorem gt_pw (st : St) (a b : List Int) : cmpD st .gt (pw a) (pw b) = some (lexGt a b) := by
  show (D.ints (a.map .int)).bind _ = _
  rw [ints_map, Option.bind_some, ints_map]; rfl
noncomputable def leadBody : S := (.cons (.assign 5 (.call 0 (.cons (.var 1) (.cons (.var 4) .nil))))
 (.cons (.ife (.bop false (.cons (.cmp .is (.var 2) (.cst .none)) (.cons (.cmp .gt (.var 5) (.var 3)) .nil)))
 (.cons (.assignT [2, 3] (.tup (.cons (.var 4) (.cons (.var 5) .nil))))
 .nil)
 .nil)
 .nil))
theorem lead_loop {N : Nat} (hN : 0 < N) {fz : List Nat} {st : St} {a : Nat} {ord : Str} (ho : isOrd ord) (L : Po) : ∀ (b : Option (List Int × List Int)) p q, (∀ e ∈ L, e.1.length < 1000) →
    ∃ p' q', forL (fun x ρ st => (bindT [4] x ρ).bind fun ρ' => exS (callAll tab N) leadBody fz ρ' st) (L.map fun e => pw e.1)
      [some (.obj a), some (.str ord), some (bestD b).1, some (bestD b).2, p, q, none] st = some (.next, [some (.obj a), some (.str ord), some (bestD (leadL ord L b)).1, some (bestD (leadL ord L b)).2, p', q', none], st) := by
  induction L with
  | nil =>
    intro b p q _
    exact ⟨p, q, rfl⟩
  | cons e L ih =>
    intro b p q h
    have h1 := order_key_spec (N := N) hN fz ho (h e List.mem_cons_self) st
    have hL : ∀ e ∈ L, e.1.length < 1000 := fun x hx => h x (List.mem_cons_of_mem _ hx)
    cases b with
    | none =>
      obtain ⟨p', q', ih⟩ := ih (some (e.1, okey ord e.1)) (some (pw e.1)) (some (pw (okey ord e.1))) hL
      exact ⟨p', q', forL_next (bindX (bindT_1 ..) (Eq.trans (exS_next (xAssign (eCall (l2 (eVar rfl) (eVar rfl)) h1))) (exS_next (ss := .nil) (xIfT (eBop (bStop (eCmp (eVar rfl) eCst (isNone_none st)) (by decide))) (exS_next (ss := .nil) (xAssignT (eTup2 (eVar rfl) (eVar rfl)) rfl)))))) ih⟩
    | some b =>
      cases hg : lexGt (okey ord e.1) b.2
      · obtain ⟨p', q', ih⟩ := ih (some b) (some (pw e.1)) (some (pw (okey ord e.1))) hL
        refine ⟨p', q', ?_⟩
        rw [leadL, if_neg (by rw [hg]; decide)]
        exact forL_next (bindX (bindT_1 ..) (Eq.trans (exS_next (xAssign (eCall (l2 (eVar rfl) (eVar rfl)) h1))) (exS_next (ss := .nil) (xIfF (eBop (bGo (eCmp (eVar rfl) eCst (isNone_pw st b.1)) (bLast (eCmp (eVar rfl) (eVar rfl) ((gt_pw st _ _).trans (congrArg some hg)))))) xNil)))) ih
      · obtain ⟨p', q', ih⟩ := ih (some (e.1, okey ord e.1)) (some (pw e.1)) (some (pw (okey ord e.1))) hL
        refine ⟨p', q', ?_⟩
        rw [leadL, if_pos hg]
        exact forL_next (bindX (bindT_1 ..) (Eq.trans (exS_next (xAssign (eCall (l2 (eVar rfl) (eVar rfl)) h1))) (exS_next (ss := .nil) (xIfT (eBop (bGo (eCmp (eVar rfl) eCst (isNone_pw st b.1)) (bLast (eCmp (eVar rfl) (eVar rfl) ((gt_pw st _ _).trans (congrArg some hg)))))) (exS_next (ss := .nil) (xAssignT (eTup2 (eVar rfl) (eVar rfl)) rfl)))))) ih
theorem mvlead_spec {N : Nat} (hN : 21 < N) {fz : List Nat} {st : St} {a : Nat} {P : Po} {ord : Str} (ha : st[a]? = some (.dic (toD P))) (ho : isOrd ord) (hn : (keys P).Nodup) (hk : ∀ e ∈ P, e.1.length < 1000) :
    callAll tab N fz 21 [.obj a, .str ord] st = some (leadD (leadP ord P), st) := by
  rw [callAll_at (fn := f_mvlead) rfl N hN]
  obtain ⟨p', q', h1⟩ := lead_loop (N := 21) (by decide) (fz := fzOf (.obj a) fz) (st := st) (a := a) ho P none none none hk
  refine runFn_ret rfl (ρ' := [some (.obj a), some (.str ord), some (bestD (leadL ord P none)).1, some (bestD (leadL ord P none)).2, p', q', none]) ?_
  refine Eq.trans (exS_next (xAssignT (eTup2 eCst eCst) rfl)) (Eq.trans (exS_next (exS_for (d := .obj a) (eVar rfl) (items_po ha) h1)) (exS_ret (xRet ?_)))
  rw [leadP]
  cases hb : leadL ord P none with
  | none => exact eIteT (eCmp (eVar rfl) eCst (isNone_none st)) eCst
  | some b =>
    rcases leadL_mem ord P none (by rintro _ ⟨⟩) b hb with q | q
    · obtain ⟨e, he, q⟩ : ∃ e ∈ P, e.1 = b.1 := List.mem_map.mp q
      have hg : pget P b.1 = some e.2 := by rw [← q]; exact pget_of_mem hn he
      rw [Option.bind_some, hg]
      exact eIteF (eCmp (eVar rfl) eCst (isNone_pw st b.1)) (eTup2 (eVar rfl) (eIdx (eVar rfl) (eVar rfl) (subD_po ha hg)))
    · exact none_ne q
end Mine
end
section
open PySem
set_option maxRecDepth 100000
set_option linter.unusedVariables false
set_option linter.unusedSimpArgs false
namespace Mine
/-- hashes of the keys that are met are distinct -/
noncomputable def allK : Nat → Nat → List (List Int)
  | 0, _ => [[]]
  | n + 1, d => (List.range (d + 1)).flatMap fun i => (allK n (d - i)).map fun k => (i : Int) :: k
theorem allK_mem {n : Nat} : ∀ {d : Nat} {k : List Int}, KK n d k → k ∈ allK n d := by
  induction n with
  | zero =>
    intro d k h
    have := h.len
    cases k with
    | nil => simp [allK]
    | cons => simp at this
  | succ n ih =>
    intro d k h
    cases k with
    | nil => have := h.len; simp at this
    | cons i k =>
      have h1 := h.pos i List.mem_cons_self
      have h2 := h.deg
      have h3 : ∀ j ∈ k, 0 ≤ j := fun j hj => h.pos j (List.mem_cons_of_mem _ hj)
      have h4 : ∀ {k : List Int}, (∀ j ∈ k, 0 ≤ j) → 0 ≤ k.sum := by
        intro k
        induction k with
        | nil => intro _; simp
        | cons x r ih => intro h; have := ih fun j hj => h j (List.mem_cons_of_mem _ hj); have := h x List.mem_cons_self; simp only [List.sum_cons]; lia
      have h5 := h4 h3
      simp only [List.sum_cons] at h2
      simp only [allK, List.mem_flatMap, List.mem_range, List.mem_map]
      refine ⟨i.toNat, by lia, k, ih (d := d - i.toNat) ⟨by have := h.len; simpa using this, h3, by lia⟩, ?_⟩
      rw [Int.toNat_of_nonneg h1]
theorem nodup_inj {α β : Type} {f : α → β} {L : List α} : (L.map f).Nodup → ∀ {a b : α}, a ∈ L → b ∈ L → f a = f b → a = b := by
  induction L with
  | nil =>
    intro _ _ _ h _ _
    cases h
  | cons x L ih =>
    intro hn a b ha hb e
    rw [List.map_cons, List.nodup_cons] at hn
    rcases List.mem_cons.mp ha with h | h <;> rcases List.mem_cons.mp hb with h' | h'
    · rw [h, h']
    · subst h; exact absurd (List.mem_map.mpr ⟨b, h', e.symm⟩) hn.1
    · subst h'; exact absurd (List.mem_map.mpr ⟨a, h, e⟩) hn.1
    · exact ih hn.2 h h' e
theorem nodup_of_inj {α β : Type} {f : α → β} {L : List α} : L.Nodup → (∀ a ∈ L, ∀ b ∈ L, f a = f b → a = b) → (L.map f).Nodup := by
  induction L with
  | nil =>
    intro _ _
    exact List.nodup_nil
  | cons x L ih =>
    intro hn h
    rw [List.nodup_cons] at hn
    rw [List.map_cons, List.nodup_cons]
    refine ⟨fun q => ?_, ih hn.2 fun a ha b hb => h a (List.mem_cons_of_mem _ ha) b (List.mem_cons_of_mem _ hb)⟩
    obtain ⟨y, hy, e⟩ := List.mem_map.mp q
    have := h y (List.mem_cons_of_mem _ hy) x List.mem_cons_self e
    subst this; exact hn.1 hy
/-- nodup by a sorted copy would be quicker; the lists are short -/
noncomputable def ndB : List Int → Bool
  | [] => true
  | x :: r => !r.any (fun y => x == y) && ndB r
theorem ndB_nodup {L : List Int} : ndB L = true → L.Nodup := by
  induction L with
  | nil =>
    intro _
    exact List.nodup_nil
  | cons x r ih =>
    intro h
    simp only [ndB, Bool.and_eq_true, Bool.not_eq_true', List.any_eq_false, beq_iff_eq] at h
    exact List.nodup_cons.mpr ⟨fun q => h.1 x q rfl, ih h.2⟩
theorem hash_2 : ndB ((allK 2 4).map hsh) = true := by decide +kernel
theorem hash_3 : ndB ((allK 3 4).map hsh) = true := by decide +kernel
theorem hash_4 : ndB ((allK 4 4).map hsh) = true := by decide +kernel
theorem hash_5 : ndB ((allK 5 4).map hsh) = true := by decide +kernel
noncomputable def isForm (p n : Nat) : Prop := (p = 3 ∧ n = 2) ∨ (p = 2 ∧ n = 3) ∨ (p = 3 ∧ n = 3) ∨ (p = 2 ∧ n = 4) ∨ (p = 2 ∧ n = 5)
theorem hash_ok {p n : Nat} (hf : isForm p n) {P : Po} (hn : (keys P).Nodup) (hk : ∀ k ∈ keys P, KK n 4 k) : ((keys P).map hsh).Nodup := by
  have : ((allK n 4).map hsh).Nodup := by
    rcases hf with h | h | h | h | h <;> obtain ⟨_, rfl⟩ := h
    · exact ndB_nodup hash_2
    · exact ndB_nodup hash_3
    · exact ndB_nodup hash_3
    · exact ndB_nodup hash_4
    · exact ndB_nodup hash_5
  exact nodup_of_inj hn fun a ha b hb e => nodup_inj this (allK_mem (d := 4) (hk a ha)) (allK_mem (d := 4) (hk b hb)) e
/-- the order of lists -/
theorem lexGt_irr (a : List Int) : lexGt a a = false := by
  induction a with
  | nil =>
    exact rfl
  | cons x r ih =>
    rw [lexGt, if_pos rfl]; exact ih
theorem lexGt_trans : ∀ {a b c : List Int}, lexGt a b = true → lexGt b c = true → lexGt a c = true
  | [], _, _, h, _ => by simp [lexGt] at h
  | x :: a, [], _, _, h => by simp [lexGt] at h
  | x :: a, y :: b, [], _, _ => rfl
  | x :: a, y :: b, z :: c, h, h' => by
    rw [lexGt] at h h' ⊢
    split at h <;> split at h'
    · subst_vars; rw [if_pos rfl]; exact lexGt_trans h h'
    · subst_vars; rw [if_neg (by assumption)]; exact h'
    · subst_vars; rw [if_neg (by assumption)]; exact h
    · simp only [decide_eq_true_eq] at h h'
      rw [if_neg (by lia)]; simp only [decide_eq_true_eq]; lia
theorem lexGt_total : ∀ {a b : List Int}, a.length = b.length → lexGt a b = false → a = b ∨ lexGt b a = true
  | [], [], _, _ => .inl rfl
  | [], _ :: _, h, _ => by simp at h
  | _ :: _, [], h, _ => by simp at h
  | x :: a, y :: b, h, h' => by
    rw [lexGt] at h' ⊢
    split at h'
    · subst_vars
      rw [if_pos rfl]
      rcases lexGt_total (a := a) (b := b) (by simpa using h) h' with e | e
      · subst e; exact .inl rfl
      · exact .inr e
    · rename_i hne
      simp only [decide_eq_false_iff_not] at h'
      right; rw [if_neg fun q => hne q.symm]; simp only [decide_eq_true_eq]; lia
theorem lexGt_ksum : ∀ {a b s : List Int}, a.length = s.length → b.length = s.length → lexGt (ksum a s) (ksum b s) = lexGt a b
  | [], [], _, _, _ => rfl
  | [], _ :: _, _, h, h' => by rw [← h] at h'; simp at h'
  | _ :: _, [], _, h, h' => by rw [← h'] at h; simp at h
  | _ :: _, _ :: _, [], h, _ => by simp at h
  | x :: a, y :: b, z :: s, h, h' => by
    have ih := lexGt_ksum (a := a) (b := b) (s := s) (by simpa using h) (by simpa using h')
    simp only [ksum, List.zipWith_cons_cons, lexGt] at ih ⊢
    by_cases e : x = y
    · subst e; rw [if_pos rfl, if_pos rfl]; exact ih
    · rw [if_neg (by lia), if_neg e]; congr 1; apply propext; lia
/-- points, powers of letters -/
noncomputable def pts (p : Nat) : Nat → List (List Int)
  | 0 => [[]]
  | n + 1 => (pts p n).flatMap fun x => (List.range p).map fun (i : Nat) => x ++ [(i : Int)]
noncomputable def lpow (n : Nat) (ds : List Nat) : List Int := (List.range n).map fun j => ((ds.filter fun d => decide (d = j)).length : Int)
noncomputable def turn (n p i : Nat) : Po := [(lpow n (List.replicate p i), 1), (lpow n [i], -1)]
theorem lpow_length (n : Nat) (ds : List Nat) : (lpow n ds).length = n := by simp [lpow]
theorem lpow_pos (n : Nat) (ds : List Nat) : ∀ i ∈ lpow n ds, 0 ≤ i := by
  intro i hi
  obtain ⟨j, _, rfl⟩ := List.mem_map.mp hi
  lia
noncomputable def turnOk (p n : Nat) : Bool := (List.range n).all fun i => ((pts p n).all fun x => decide (ev x (turn n p i) % p = 0)) && decide ((lpow n (List.replicate p i)).sum = p) && decide ((lpow n [i]).sum = 1) && lexGt (lpow n (List.replicate p i)) (lpow n [i])
theorem turnOk_32 : turnOk 3 2 = true := by decide +kernel
theorem turnOk_23 : turnOk 2 3 = true := by decide +kernel
theorem turnOk_33 : turnOk 3 3 = true := by decide +kernel
theorem turnOk_24 : turnOk 2 4 = true := by decide +kernel
theorem turnOk_25 : turnOk 2 5 = true := by decide +kernel
theorem turnOk_of {p n : Nat} (hf : isForm p n) {i : Nat} (hi : i < n) : (∀ x ∈ pts p n, ev x (turn n p i) % p = 0) ∧ (lpow n (List.replicate p i)).sum = p ∧ (lpow n [i]).sum = 1 ∧ lexGt (lpow n (List.replicate p i)) (lpow n [i]) = true := by
  have : turnOk p n = true := by
    rcases hf with h | h | h | h | h <;> obtain ⟨rfl, rfl⟩ := h
    · exact turnOk_32
    · exact turnOk_23
    · exact turnOk_33
    · exact turnOk_24
    · exact turnOk_25
  have h := List.all_eq_true.mp this i (List.mem_range.mpr hi)
  simp only [Bool.and_eq_true, decide_eq_true_eq, List.all_eq_true] at h
  exact ⟨h.1.1.1, h.1.1.2, h.1.2, h.2⟩
end Mine
end
section
open PySem
set_option maxRecDepth 100000
set_option linter.unusedVariables false
set_option linter.unusedSimpArgs false
namespace Mine
theorem okey_len {ord : Str} {a b : List Int} (h : a.length = b.length) : (okey ord a).length = (okey ord b).length := by
  unfold okey; split
  · exact h
  · split <;> simp [h]
theorem map_neg_inj : ∀ {a b : List Int}, a.map (fun i => -i) = b.map (fun i => -i) → a = b
  | [], [], _ => rfl
  | [], _ :: _, h => by simp at h
  | _ :: _, [], h => by simp at h
  | x :: a, y :: b, h => by
    simp only [List.map_cons, List.cons.injEq] at h
    rw [map_neg_inj h.2]; congr 1; lia
theorem okey_inj {ord : Str} {a b : List Int} (h : okey ord a = okey ord b) : a = b := by
  unfold okey at h
  split at h
  · exact h
  · split at h
    · exact (List.cons.inj h).2
    · exact List.reverse_inj.mp (map_neg_inj (List.cons.inj h).2)
theorem okey_gt {ord : Str} {a b : List Int} (h : lexGt a b = true) (h' : b.sum < a.sum) : lexGt (okey ord a) (okey ord b) = true := by
  unfold okey
  split
  · exact h
  · split <;> rw [lexGt, if_neg (by lia)] <;> simpa using h'
theorem leadL_max (ord : Str) (n : Nat) (P : Po) : ∀ (b : Option (List Int × List Int)) x, (∀ k ∈ keys P, k.length = n) → (∀ y, b = some y → y.2 = okey ord y.1 ∧ y.1.length = n) → leadL ord P b = some x →
    x.2 = okey ord x.1 ∧ (∀ k ∈ keys P, k = x.1 ∨ lexGt (okey ord x.1) (okey ord k) = true) ∧ (∀ y, b = some y → y.1 = x.1 ∨ lexGt (okey ord x.1) (okey ord y.1) = true) := by
  induction P with
  | nil =>
    intro b x _ hb h
    exact ⟨(hb x h).1, fun k hk => absurd hk List.not_mem_nil, fun y hy => by obtain rfl := Option.some.inj (hy.symm.trans h); exact .inl rfl⟩
  | cons e r ih =>
    intro b x hk hb h
    have hkr : ∀ k ∈ keys r, k.length = n := fun k q => hk k (List.mem_cons_of_mem _ q)
    have hke : e.1.length = n := hk e.1 List.mem_cons_self
    have new : leadL ord r (some (e.1, okey ord e.1)) = some x → x.2 = okey ord x.1 ∧ (∀ k ∈ keys (e :: r), k = x.1 ∨ lexGt (okey ord x.1) (okey ord k) = true) := fun h => by
      obtain ⟨h1, h2, h3⟩ := ih _ x hkr (by rintro y ⟨⟩; exact ⟨rfl, hke⟩) h
      refine ⟨h1, fun k hk' => ?_⟩
      rcases List.mem_cons.mp hk' with rfl | q
      · exact h3 _ rfl
      · exact h2 k q
    rcases b with _ | b
    · obtain ⟨h1, h2⟩ := new h
      exact ⟨h1, h2, fun y e => none_ne e⟩
    · obtain ⟨hb1, hb2⟩ := hb b rfl
      rw [leadL] at h
      by_cases hg : lexGt (okey ord e.1) b.2 = true
      · obtain ⟨h1, h2⟩ := new ((if_pos hg).symm.trans h)
        refine ⟨h1, h2, ?_⟩
        rintro y ⟨⟩
        rw [hb1] at hg
        rcases h2 e.1 List.mem_cons_self with q | q
        · rw [← q]; exact .inr hg
        · exact .inr (lexGt_trans q hg)
      · obtain ⟨h1, h2, h3⟩ := ih _ x hkr (by rintro y ⟨⟩; exact ⟨hb1, hb2⟩) ((if_neg hg).symm.trans h)
        have hbx := h3 _ rfl
        rw [hb1] at hg
        refine ⟨h1, fun k hk' => ?_, by rintro y ⟨⟩; exact hbx⟩
        rcases List.mem_cons.mp hk' with rfl | q
        · rcases lexGt_total (okey_len (by rw [hke, hb2])) (Bool.not_eq_true _ ▸ hg) with q | q
          · rw [okey_inj q]; exact hbx
          · rcases hbx with q' | q'
            · rw [← q']; exact .inr q
            · exact .inr (lexGt_trans q' q)
        · exact h2 k q
theorem leadP_spec {ord : Str} {n : Nat} {P : Po} (hn : (keys P).Nodup) (hne : P ≠ []) (hk : ∀ k ∈ keys P, k.length = n) : ∃ e ∈ P, leadP ord P = some e ∧ ∀ k ∈ keys P, k = e.1 ∨ lexGt (okey ord e.1) (okey ord k) = true := by
  obtain ⟨e, he, h⟩ := leadP_mem (ord := ord) hn hne
  refine ⟨e, he, h, ?_⟩
  rw [leadP] at h
  cases hl : leadL ord P none with
  | none => rw [hl] at h; exact none_ne h
  | some b =>
    obtain ⟨h1, h2, _⟩ := leadL_max ord n P none b hk (by rintro _ ⟨⟩) hl
    rw [hl, Option.bind_some] at h
    obtain ⟨c, _, hc⟩ := Option.map_eq_some_iff.mp h
    rw [← hc]; exact h2
theorem sum_ksum : ∀ {a b : List Int}, a.length = b.length → (ksum a b).sum = a.sum + b.sum
  | [], [], _ => rfl
  | [], _ :: _, h => by simp at h
  | _ :: _, [], h => by simp at h
  | x :: a, y :: b, h => by
    have := sum_ksum (a := a) (b := b) (by simpa using h)
    simp only [ksum, List.zipWith_cons_cons, List.sum_cons] at this ⊢
    lia
theorem ksum_kdiff : ∀ {a b : List Int}, a.length = b.length → ksum b (kdiff a b) = a
  | [], [], _ => rfl
  | [], _ :: _, h => by simp at h
  | _ :: _, [], h => by simp at h
  | x :: a, y :: b, h => by
    have := ksum_kdiff (a := a) (b := b) (by simpa using h)
    simp only [ksum, kdiff, List.zipWith_cons_cons, List.cons.injEq] at this ⊢
    exact ⟨by lia, this⟩
theorem kdiff_pos : ∀ {a b : List Int}, a.length = b.length → kdvd b a = true → ∀ i ∈ kdiff a b, 0 ≤ i
  | [], [], _, _ => by intro i hi; cases hi
  | [], _ :: _, h, _ => by simp at h
  | _ :: _, [], h, _ => by simp at h
  | x :: a, y :: b, h, hd => by
    rw [kdvd] at hd
    split at hd
    · cases hd
    · intro i hi
      simp only [kdiff, List.zipWith_cons_cons, List.mem_cons] at hi
      rcases hi with hi | hi
      · lia
      · exact kdiff_pos (a := a) (b := b) (by simpa using h) hd i hi
theorem kdvd_false : ∀ {b a : List Int}, a.length = b.length → kdvd b a = false → ∃ (j : Nat) (x y : Int), b[j]? = some x ∧ a[j]? = some y ∧ x > y
  | [], [], _, h => by simp [kdvd] at h
  | [], _ :: _, h, _ => by simp at h
  | _ :: _, [], h, _ => by simp at h
  | x :: b, y :: a, h, hd => by
    rw [kdvd] at hd
    split at hd
    · exact ⟨0, x, y, rfl, rfl, by assumption⟩
    · obtain ⟨j, u, v, h1, h2, h3⟩ := kdvd_false (b := b) (a := a) (by simpa using h) hd
      exact ⟨j + 1, u, v, by simpa using h1, by simpa using h2, h3⟩
theorem lpow_get {n : Nat} {ds : List Nat} {j : Nat} (hj : j < n) : (lpow n ds)[j]? = some ((ds.filter fun d => decide (d = j)).length : Int) := by
  simp [lpow, hj]
theorem low_of {p n : Nat} {k : List Int} (hk : k.length = n) (hp : ∀ i ∈ k, 0 ≤ i) (h : ∀ i < n, kdvd (lpow n (List.replicate p i)) k = false) : ∀ x ∈ k, x < p := by
  intro x hx
  obtain ⟨i, hi, rfl⟩ := List.mem_iff_getElem.mp hx
  obtain ⟨j, u, v, h1, h2, h3⟩ := kdvd_false (by rw [hk, lpow_length]) (h i (by lia))
  have hj : j < n := by obtain ⟨q, _⟩ := List.getElem?_eq_some_iff.mp h2; lia
  rw [lpow_get hj] at h1
  by_cases e : i = j
  · subst e
    rw [List.getElem?_eq_getElem hi] at h2
    simp only [Option.some.injEq] at h1 h2
    have : ((List.replicate p i).filter fun d => decide (d = i)).length ≤ p := Nat.le_trans (List.length_filter_le _ _) (by simp)
    lia
  · have : (List.replicate p i).filter (fun d => decide (d = j)) = [] := by
      rw [List.filter_eq_nil_iff]
      intro d hd
      rw [List.eq_of_mem_replicate hd]; simp [e]
    rw [this] at h1
    simp only [List.length_nil, Option.some.injEq] at h1
    have hv : v ∈ k := List.mem_of_getElem? h2
    have := hp v hv
    lia
noncomputable def wgt (k : List Int) : Nat := k.sum.toNat + 1
structure DInv (n p : Nat) (ord : Str) (P0 L R : Po) : Prop where
  okL : Ok n 4 37 L
  ndR : (keys R).Nodup
  kkR : ∀ k ∈ keys R, KK n 4 k ∧ ∀ i ∈ k, i < p
  ord : ∀ r ∈ keys R, ∀ l ∈ keys L, lexGt (okey ord r) (okey ord l) = true
  ev : ∀ x ∈ pts p n, (ev x R + Mine.ev x L - Mine.ev x P0) % p = 0
  size : R.length + meas wgt L ≤ 185
theorem keys_append (P Q : Po) : keys (P ++ Q) = keys P ++ keys Q := by simp [keys]
theorem KK_sum_nonneg {n : Nat} {d : Int} {k : List Int} (h : KK n d k) : 0 ≤ k.sum := by
  have : ∀ {k : List Int}, (∀ j ∈ k, 0 ≤ j) → 0 ≤ k.sum := by
    intro k
    induction k with
    | nil => intro _; simp
    | cons x r ih => intro h; have := ih fun j hj => h j (List.mem_cons_of_mem _ hj); have := h x List.mem_cons_self; simp only [List.sum_cons]; lia
  exact this h.pos
theorem key_gone {P : Po} {k : List Int} {c : Int} (hn : (keys P).Nodup) (h : (k, c) ∈ P) : k ∉ keys (padd P k (-c)) := by
  induction P with
  | nil => cases h
  | cons e r ih =>
    simp only [keys, List.map_cons, List.nodup_cons] at hn
    rw [padd]
    rcases List.mem_cons.mp h with h | h
    · subst h
      rw [if_pos rfl, if_pos (by show c + -c = 0; lia)]
      exact hn.1
    · have hne : e.1 ≠ k := by rintro rfl; exact hn.1 (List.mem_map.mpr ⟨_, h, rfl⟩)
      rw [if_neg hne]
      simp only [keys, List.map_cons, List.mem_cons, not_or]
      exact ⟨fun q => hne q.symm, ih hn.2 h⟩
theorem keys_gone_sub {P : Po} {k : List Int} {c : Int} (hn : (keys P).Nodup) (h : (k, c) ∈ P) {j : List Int} (hj : j ∈ keys (padd P k (-c))) : j ∈ keys P ∧ j ≠ k := by
  refine ⟨(keys_padd hj).elim (fun e => ?_) id, fun e => ?_⟩
  · subst e; exact List.mem_map.mpr ⟨_, h, rfl⟩
  · subst e; exact key_gone hn h hj
theorem DInv.fresh {n p : Nat} {ord : Str} {P0 L R : Po} (I : DInv n p ord P0 L R) {e : List Int × Int} (he : e ∈ L) : e.1 ∉ keys R := by
  intro q
  have := I.ord e.1 q e.1 (List.mem_map.mpr ⟨e, he, rfl⟩)
  rw [lexGt_irr] at this; cases this
theorem DInv.stepA {n p : Nat} {ord : Str} {P0 L R : Po} (I : DInv n p ord P0 L R) {e : List Int × Int} (he : e ∈ L) (hmax : ∀ k ∈ keys L, k = e.1 ∨ lexGt (okey ord e.1) (okey ord k) = true)
    (hlow : ∀ i < n, kdvd (lpow n (List.replicate p i)) e.1 = false) : DInv n p ord P0 (padd L e.1 (-e.2)) (R ++ [e]) := by
  have hk := I.okL.kk e.1 (List.mem_map.mpr ⟨e, he, rfl⟩)
  have hfr := I.fresh he
  have hkill := padd_kill I.okL.nodup (k := e.1) (c := e.2) he wgt
  refine ⟨⟨nodup_padd I.okL.nodup _ _, nz_padd I.okL.nz _ _, fun k hk' => I.okL.kk k (keys_gone_sub I.okL.nodup he hk').1, by have := I.okL.l1; lia⟩, ?_, ?_, ?_, ?_, ?_⟩
  · rw [keys_append]
    refine List.nodup_append.mpr ⟨I.ndR, by simp [keys], ?_⟩
    intro a ha b hb hab
    simp [keys] at hb
    subst hb; subst hab
    exact hfr ha
  · intro k hk'
    rw [keys_append] at hk'
    rcases List.mem_append.mp hk' with q | q
    · exact I.kkR k q
    · simp [keys] at q
      subst q
      exact ⟨hk, low_of hk.len hk.pos hlow⟩
  · intro r hr l hl
    obtain ⟨h1, h2⟩ := keys_gone_sub I.okL.nodup he hl
    rw [keys_append] at hr
    rcases List.mem_append.mp hr with q | q
    · exact I.ord r q l h1
    · simp [keys] at q
      subst q
      exact (hmax l h1).resolve_left h2
  · intro x hx
    have := I.ev x hx
    rw [ev_append, ev_padd, ev_cons, ev_nil, Int.neg_mul]
    rw [show Mine.ev x R + (e.2 * mono x e.1 + 0) + (Mine.ev x L + -(e.2 * mono x e.1)) - Mine.ev x P0 = Mine.ev x R + Mine.ev x L - Mine.ev x P0 by lia]
    exact this
  · have h1 := I.size
    have : 1 ≤ wgt e.1 := by unfold wgt; lia
    simp only [List.length_append, List.length_singleton]
    lia
theorem turn_ok {p n : Nat} (hf : isForm p n) {i : Nat} (hi : i < n) : Ok n p 2 (turn n p i) := by
  obtain ⟨_, h2, h3, h4⟩ := turnOk_of hf hi
  have hp : 2 ≤ p := by rcases hf with h | h | h | h | h <;> lia
  refine ⟨?_, ?_, ?_, by simp [turn, L1]⟩
  · simp only [turn, keys, List.map_cons, List.map_nil, List.nodup_cons, List.mem_singleton, List.not_mem_nil, not_false_iff, List.nodup_nil, and_true]
    intro e; rw [e, lexGt_irr] at h4; cases h4
  · intro e he
    simp only [turn, List.mem_cons, List.not_mem_nil, or_false] at he
    rcases he with rfl | rfl
    · show (1 : Int) ≠ 0; decide
    · show (-1 : Int) ≠ 0; decide
  · intro k hk
    simp only [turn, keys, List.map_cons, List.map_nil, List.mem_cons, List.not_mem_nil, or_false] at hk
    rcases hk with rfl | rfl
    · exact ⟨lpow_length _ _, lpow_pos _ _, by rw [h2]; exact Int.le_refl _⟩
    · exact ⟨lpow_length _ _, lpow_pos _ _, by rw [h3]; lia⟩
theorem turn_lead {p n : Nat} (hf : isForm p n) {i : Nat} (hi : i < n) (ord : Str) : leadP ord (turn n p i) = some (lpow n (List.replicate p i), 1) := by
  obtain ⟨_, h2, h3, h4⟩ := turnOk_of hf hi
  have hp : 2 ≤ p := by rcases hf with h | h | h | h | h <;> lia
  have hg := okey_gt (ord := ord) h4 (by lia)
  have hng : lexGt (okey ord (lpow n [i])) (okey ord (lpow n (List.replicate p i))) = false := by
    cases h : lexGt (okey ord (lpow n [i])) (okey ord (lpow n (List.replicate p i))) with
    | false => rfl
    | true => have := lexGt_trans hg h; rw [lexGt_irr] at this; cases this
  simp [leadP, turn, leadL, hng, pget]
theorem DInv.stepB {n p : Nat} {ord : Str} {P0 L R : Po} (hf : isForm p n) (I : DInv n p ord P0 L R) {e : List Int × Int} (he : e ∈ L) (hmax : ∀ k ∈ keys L, k = e.1 ∨ lexGt (okey ord e.1) (okey ord k) = true)
    {i : Nat} (hi : i < n) (hd : kdvd (lpow n (List.replicate p i)) e.1 = true) : DInv n p ord P0 (psub L (prow (turn n p i) (kdiff e.1 (lpow n (List.replicate p i)), e.2))) R ∧ meas wgt (psub L (prow (turn n p i) (kdiff e.1 (lpow n (List.replicate p i)), e.2))) < meas wgt L := by
  have hk := I.okL.kk e.1 (List.mem_map.mpr ⟨e, he, rfl⟩)
  obtain ⟨h1, h2, h3, h4⟩ := turnOk_of hf hi
  have hp : 2 ≤ p := by rcases hf with h | h | h | h | h <;> lia
  have hlen : e.1.length = (lpow n (List.replicate p i)).length := by rw [hk.len, lpow_length]
  generalize hs : kdiff e.1 (lpow n (List.replicate p i)) = s
  have hsl : s.length = n := by rw [← hs]; simp [kdiff, hk.len, lpow_length]
  have hsp : ∀ j ∈ s, 0 ≤ j := by rw [← hs]; exact kdiff_pos hlen hd
  have hsk : ksum (lpow n (List.replicate p i)) s = e.1 := by rw [← hs]; exact ksum_kdiff hlen
  have hsum : e.1.sum = p + s.sum := by rw [← hsk, sum_ksum (by rw [lpow_length, hsl]), h2]
  generalize hk' : ksum (lpow n [i]) s = k'
  have hsum' : k'.sum = 1 + s.sum := by rw [← hk', sum_ksum (by rw [lpow_length, hsl]), h3]
  have hgt : lexGt (okey ord e.1) (okey ord k') = true := by
    refine okey_gt ?_ (by lia)
    rw [← hsk, ← hk', lexGt_ksum (by rw [lpow_length, hsl]) (by rw [lpow_length, hsl])]; exact h4
  have hsKK : KK n s.sum s := ⟨hsl, hsp, Int.le_refl _⟩
  have hkk' : KK n 4 k' := by
    have := KK_ksum (a := lpow n [i]) (b := s) (n := n) (d := 1) (e := s.sum) ⟨lpow_length _ _, lpow_pos _ _, by lia⟩ hsKK
    rw [hk'] at this
    exact this.mono' (by have := hk.deg; lia)
  have hrow : psub L (prow (turn n p i) (s, e.2)) = padd (padd L e.1 (-e.2)) k' e.2 := by
    simp only [psub, prow, turn, List.map_cons, List.map_nil, pneg, paddall, List.foldl_cons, List.foldl_nil, hsk, hk']
    congr 1
    · congr 1; lia
    · lia
  have hkill := padd_kill I.okL.nodup (k := e.1) (c := e.2) he wgt
  have hm := meas_padd wgt (padd L e.1 (-e.2)) k' e.2
  have hl := L1_padd (padd L e.1 (-e.2)) k' e.2
  have hw : wgt k' < wgt e.1 := by
    have := KK_sum_nonneg hkk'
    unfold wgt; lia
  have hkeys : ∀ j ∈ keys (padd (padd L e.1 (-e.2)) k' e.2), j = k' ∨ (j ∈ keys L ∧ j ≠ e.1) := by
    intro j hj
    rcases keys_padd hj with q | q
    · exact .inl q
    · exact .inr (keys_gone_sub I.okL.nodup he q)
  have hev : ∀ x ∈ pts p n, (Mine.ev x R + Mine.ev x (psub L (prow (turn n p i) (s, e.2))) - Mine.ev x P0) % p = 0 := by
    intro x hx
    have := I.ev x hx
    rw [ev_psub, ev_prow x (turn_ok hf hi).kk (e := (s, e.2)) hsKK]
    have h0 := h1 x hx
    obtain ⟨t, ht⟩ := Int.dvd_of_emod_eq_zero h0
    obtain ⟨u, hu⟩ := Int.dvd_of_emod_eq_zero this
    apply Int.emod_eq_zero_of_dvd
    refine ⟨u - t * (e.2 * mono x s), ?_⟩
    rw [ht, Int.mul_sub, ← hu, Int.mul_assoc]
    show Mine.ev x R + (Mine.ev x L - (p : Int) * (t * (e.2 * mono x s))) - Mine.ev x P0 = _
    lia
  rw [hrow] at hev ⊢
  refine ⟨⟨⟨nodup_padd (nodup_padd I.okL.nodup _ _) _ _, nz_padd (nz_padd I.okL.nz _ _) _ _, ?_, by have := I.okL.l1; lia⟩, I.ndR, I.kkR, ?_, hev, by have := I.size; lia⟩, by lia⟩
  · intro j hj
    rcases hkeys j hj with q | q
    · subst q; exact hkk'
    · exact I.okL.kk j q.1
  · intro r hr l hl
    rcases hkeys l hl with q | q
    · subst q
      exact lexGt_trans (I.ord r hr e.1 (List.mem_map.mpr ⟨e, he, rfl⟩)) hgt
    · exact I.ord r hr l q.1
end Mine
end
section
open PySem
set_option maxRecDepth 100000
set_option linter.unusedVariables false
set_option linter.unusedSimpArgs false
namespace Mine
theorem evE_lcomp_alloc {α : Type} {cf : List Nat → Nat → List D → St → Option (D × St)} {imps : List (Option Nat)} {tgt : List Nat} {k : SK} {src elt : E} {fz : List Nat} {ρ : Rho} {st st1 : St} {d : D} {L : List α} {enc : α → D} {c : α → Cont}
    (h1 : evE cf src fz ρ st = some (d, st1)) (h2 : items k d st1 = some (L.map enc)) (hl : L.length < lim)
    (hs : ∀ pre e post, L = pre ++ e :: post → ∃ ρ', bindT tgt (enc e) (impRho imps ρ) = some ρ' ∧ evE cf elt (fzOf d fz) ρ' (st1 ++ pre.map c) = some (.obj (st1.length + pre.length), st1 ++ pre.map c ++ [c e])) :
    evE cf (.lcomp imps tgt k src .nil elt) fz ρ st = some (.ilst ((List.range L.length).map fun i => .obj (st1.length + i)), st1 ++ L.map c) := by
  obtain ⟨a', st', h3, rfl, rfl⟩ := loopF_list (fun x acc st => (bindT tgt x (impRho imps ρ)).bind fun ρ' => cdI (evE cf .nil (fzOf d fz)) (emI (evE cf elt (fzOf d fz))) ρ' acc st) enc (fun pre (a : List D) s => a = ((List.range pre.length).map fun i => D.obj (st1.length + i)) ∧ s = st1 ++ pre.map c) L (by
      rintro pre e post a s hw ⟨rfl, rfl⟩
      obtain ⟨ρ', e1, e2⟩ := hs pre e post hw
      refine ⟨_, _, ?_, rfl, rfl⟩
      have hlen : ((List.range pre.length).map fun i => D.obj (st1.length + i)).length < lim := by
        have : L.length = pre.length + (post.length + 1) := by rw [hw]; simp
        simp; lia
      refine (bS e1).trans ((bS e2).trans ((if_pos hlen).trans ?_))
      simp only [List.length_append, List.length_singleton, List.range_succ, List.map_append, List.map_cons, List.map_nil, List.append_assoc])
    L [] [] st1 rfl ⟨rfl, by simp⟩
  exact (bS h1).trans ((bS h2).trans (mS h3))
theorem evE_lcomp2 {α β : Type} {cf : List Nat → Nat → List D → St → Option (D × St)} {imps : List (Option Nat)} {tgt tgt2 : List Nat} {k k2 : SK} {src src2 elt : E} {fz : List Nat} {ρ : Rho} {st st1 : St} {d : D} {L : List α} {enc : α → D} {M : α → List β} {enc2 : β → D} {g : α → β → D}
    (h1 : evE cf src fz ρ st = some (d, st1)) (h2 : items k d st1 = some (L.map enc))
    (hs : ∀ e ∈ L, ∃ ρ' d2, bindT tgt (enc e) (impRho imps ρ) = some ρ' ∧ evE cf src2 (fzOf d fz) ρ' st1 = some (d2, st1) ∧ items k2 d2 st1 = some ((M e).map enc2) ∧ ∀ x ∈ M e, ∃ ρ2, bindT tgt2 (enc2 x) ρ' = some ρ2 ∧ evE cf elt (fzOf d2 (fzOf d fz)) ρ2 st1 = some (g e x, st1))
    (hl : (L.flatMap fun e => (M e).map (g e)).length < lim) :
    evE cf (.lcomp2 imps tgt k src tgt2 k2 src2 elt) fz ρ st = some (.ilst (L.flatMap fun e => (M e).map (g e)), st1) := by
  have key : ∀ (L' pre : List α), L = pre ++ L' → loopF (fun x acc st => (bindT tgt x (impRho imps ρ)).bind fun ρ' => (evE cf src2 (fzOf d fz) ρ' st).bind fun d2 => (items k2 d2.1 d2.2).bind fun its2 =>
        loopF (fun x2 acc st => (bindT tgt2 x2 ρ').bind fun ρ2 => emI (evE cf elt (fzOf d2.1 (fzOf d fz))) ρ2 acc st) its2 acc d2.2) (L'.map enc) (pre.flatMap fun e => (M e).map (g e)) st1 = some (L.flatMap fun e => (M e).map (g e), st1) := by
    intro L'
    induction L' with
    | nil => intro pre h; rw [h]; simp [loopF]
    | cons e L' ih =>
      intro pre h
      obtain ⟨ρ', d2, e1, e2, e3, e4⟩ := hs e (by rw [h]; simp)
      have hlen : (pre.flatMap fun e => (M e).map (g e)).length + (M e).length < lim := by
        rw [h] at hl; simp at hl ⊢; lia
      refine (bS ((bS e1).trans ((bS e2).trans ((bS e3).trans (loopF_filter _ st1 enc2 (g e) (fun _ => true) (M e) _ hlen fun x hx acc hacc => ?_))))).trans ?_
      · obtain ⟨ρ2, e5, e6⟩ := e4 x hx
        exact (bS e5).trans ((bS e6).trans (if_pos hacc))
      rw [filter_true]
      have := ih (pre ++ [e]) (by rw [h]; simp)
      simp only [List.flatMap_append, List.flatMap_cons, List.flatMap_nil, List.append_nil] at this
      exact this
  exact (bS h1).trans ((bS h2).trans (mS (key L [] rfl)))

noncomputable def fdiv : List (List Int) → List Int → Nat → Int
  | [], _, _ => -1
  | l :: r, k, j => if kdvd l k then (j : Int) else fdiv r k (j + 1)
theorem fdiv_spec (ls : List (List Int)) : ∀ (k : List Int) (j : Nat), (fdiv ls k j = -1 ∧ ∀ l ∈ ls, kdvd l k = false) ∨ ∃ (i : Nat) (l : List Int), ls[i]? = some l ∧ fdiv ls k j = ((j + i : Nat) : Int) ∧ kdvd l k = true := by
  induction ls with
  | nil =>
    intro k j
    exact .inl ⟨rfl, fun _ h => by cases h⟩
  | cons l r ih =>
    intro k j
    rw [fdiv]
    cases hd : kdvd l k
    · rw [if_neg (by simp)]
      rcases ih k (j + 1) with ⟨h1, h2⟩ | ⟨i, m, h1, h2, h3⟩
      · left; refine ⟨h1, fun x hx => ?_⟩
        rcases List.mem_cons.mp hx with q | q
        · subst q; exact hd
        · exact h2 x q
      · right; exact ⟨i + 1, m, by simpa using h1, by rw [h2]; lia, h3⟩
    · rw [if_pos rfl]
      right; exact ⟨0, l, rfl, rfl, hd⟩
noncomputable def leadT (k : List Int) : D := .tup [pw k, rt 1]
noncomputable def fdBody : S := (.cons (.ife (.bop true (.cons (.cmp .isnt (.var 3) (.cst .none)) (.cons (.call 2 (.cons (.idx (.var 3) (.cst (.int 0))) (.cons (.var 0) .nil))) .nil)))
 (.cons (.ret (.var 2))
 .nil)
 .nil)
 .nil)
@[simp] theorem isnt_tup (st : St) (xs : List D) : cmpD st .isnt (.tup xs) .none = some true := rfl
theorem fd_loop {N : Nat} (hN : 2 < N) (fz : List Nat) (k : List Int) (hk : k.length < 1000) (X : D) (st : St) (ls : List (List Int)) : ∀ (j : Nat) (p q : Option D), (∀ l ∈ ls, l.length = k.length) →
    ∃ ρ', forL (fun x ρ st => (bindT [2, 3] x ρ).bind fun ρ' => exS (callAll tab N) fdBody fz ρ' st)
      (enumFrom j (ls.map leadT)) [some (pw k), some X, p, q, none, none] st = some (if fdiv ls k j = -1 then .next else .ret (.int (fdiv ls k j)), ρ', st) := by
  induction ls with
  | nil =>
    intro j p q _
    exact ⟨_, rfl⟩
  | cons l ls ih =>
    intro j p q h
    have h1 := divide_spec (N := N) hN fz (a := l) (b := k) (h l List.mem_cons_self) (by rw [h l List.mem_cons_self]; exact hk) st
    rw [fdiv]
    cases hd : kdvd l k
    · obtain ⟨ρ', ih⟩ := ih (j + 1) (some (.int (j : Nat))) (some (leadT l)) (fun x hx => h x (List.mem_cons_of_mem _ hx))
      rw [hd] at h1
      rw [if_neg Bool.false_ne_true]
      exact ⟨ρ', forL_next (bindX (bindT_2 ..) (exS_next (ss := .nil) (xIfF (eBop (bGo (eCmp (eVar rfl) eCst (isnt_tup st _)) (bLast (eCall (l2 (eIdx (eVar rfl) eCst (subD_tup0 ..)) (eVar rfl)) h1)))) xNil))) ih⟩
    · rw [hd] at h1
      rw [if_pos rfl, if_neg (by lia)]
      exact ⟨_, forL_ret (bindX (bindT_2 ..) (exS_ret (xIfT (eBop (bGo (eCmp (eVar rfl) eCst (isnt_tup st _)) (bLast (eCall (l2 (eIdx (eVar rfl) eCst (subD_tup0 ..)) (eVar rfl)) h1)))) (exS_ret (xRet (eVar rfl))))))⟩
theorem first_divisor_spec {N : Nat} (hN : 22 < N) (fz : List Nat) {k : List Int} {ls : List (List Int)} (hk : k.length < 1000) (hl : ∀ l ∈ ls, l.length = k.length) (st : St) :
    callAll tab N fz 22 [pw k, .ilst (ls.map leadT)] st = some (.int (fdiv ls k 0), st) := by
  rw [callAll_at (fn := f_first_divisor) rfl N hN]
  obtain ⟨ρ', h1⟩ := fd_loop (N := 22) (by decide) (fzOf (.ilst (ls.map leadT)) fz) k hk (.ilst (ls.map leadT)) st ls 0 none none hl
  refine runFn_ret rfl (ρ' := ρ') ?_
  by_cases e : fdiv ls k 0 = -1
  · rw [if_pos e] at h1
    rw [e]
    exact Eq.trans (exS_next (exS_for (eVar rfl) (items_enum_ilst _ _) h1)) (exS_ret (xRet (eNeg eCst)))
  · rw [if_neg e] at h1
    exact exS_ret (exS_for (eVar rfl) (items_enum_ilst _ _) h1)
/-- the greatest of the powers -/
noncomputable def mostOf (P : Po) : Int := (P.flatMap (·.1)).foldl (fun m y => if m < y then y else m) 20000
theorem foldl_max_ge (l : List Int) : ∀ (m : Int), m ≤ l.foldl (fun m y => if m < y then y else m) m := by
  induction l with
  | nil =>
    intro m
    exact Int.le_refl _
  | cons y r ih =>
    intro m
    rw [List.foldl_cons]
    refine Int.le_trans ?_ (ih _)
    split <;> lia
theorem mem_le_sum {k : List Int} : (∀ i ∈ k, 0 ≤ i) → ∀ x ∈ k, x ≤ k.sum := by
  induction k with
  | nil =>
    intro _ x h
    cases h
  | cons y r ih =>
    intro hp x h
    have hr : ∀ i ∈ r, 0 ≤ i := fun i hi => hp i (List.mem_cons_of_mem _ hi)
    have h0 : 0 ≤ r.sum := KK_sum_nonneg (n := r.length) (d := r.sum) ⟨rfl, hr, Int.le_refl _⟩
    have hy := hp y List.mem_cons_self
    rw [List.sum_cons]
    rcases List.mem_cons.mp h with q | q
    · subst q; lia
    · have := ih hr x q; lia
theorem flat_len {n : Nat} {P : Po} : (∀ k ∈ keys P, k.length = n) → (P.flatMap (·.1)).length = P.length * n := by
  induction P with
  | nil =>
    intro _
    simp
  | cons e r ih =>
    intro h
    have := ih (fun k hk => h k (by simp only [keys, List.map_cons, List.mem_cons] at hk ⊢; exact .inr hk))
    have he := h e.1 (by simp [keys])
    rw [List.flatMap_cons, List.length_append, this, he, List.length_cons, Nat.add_mul]; lia
end Mine
end
section
open PySem
set_option maxRecDepth 100000
set_option linter.unusedVariables false
set_option linter.unusedSimpArgs false
set_option linter.unusedSectionVars false
namespace Mine
/-- the state of mvdivide's loop -/
noncomputable def rhoD (a ts ord leads qs rr l w v8 m v10 v11 v12 v13 : Option D) : Rho :=
  [a, ts, ord, leads, qs, rr, l, w, v8, m, v10, v11, v12, v13, none, none, none, none, none, none, none, none, none, none, none, none, none, none, none]
noncomputable def dTest : E := .cmp .gt (.blt .len (.cons (.var 6) .nil)) (.cst (.int 0))
noncomputable def d1 : S := .assignT [8, 10] (.call 21 (.cons (.var 6) (.cons (.var 2) .nil)))
noncomputable def d2 : S := .aug 7 .add (.blt .len (.cons (.var 6) .nil))
noncomputable def d3 : S := .ife (.bop false (.cons (.cmp .gt (.var 7) (.glob 3)) (.cons (.call 11 (.cons (.var 10) .nil)) (.cons (.blt .any (.cons (.lcomp [none, none, some 9] [1] .plain (.var 8) .nil (.cmp .gt (.var 1) (.var 2))) .nil)) .nil))))
 (.cons .raise
 .nil)
 .nil
noncomputable def d4 : S := .assign 11 (.call 22 (.cons (.var 8) (.cons (.var 3) .nil)))
noncomputable def d5 : S := .ife (.cmp .lt (.var 11) (.cst (.int 0)))
 (.cons (.setItem (.var 5) (.var 8) (.var 10))
 (.cons (.expr (.meth .pop (.var 6) (.cons (.var 8) .nil)))
 (.cons .cont
 .nil)))
 .nil
noncomputable def d6 : S := .assignT [12, 13] (.tup (.cons (.call 3 (.cons (.var 8) (.cons (.idx (.idx (.var 3) (.var 11)) (.cst (.int 0))) .nil))) (.cons (.call 9 (.cons (.var 10) (.cons (.idx (.idx (.var 3) (.var 11)) (.cst (.int 1))) .nil))) .nil)))
noncomputable def d7 : S := .expr (.call 14 (.cons (.idx (.var 4) (.var 11)) (.cons (.var 12) (.cons (.var 13) .nil))))
noncomputable def d8 : S := .assign 6 (.call 17 (.cons (.var 6) (.cons (.call 18 (.cons (.idx (.var 1) (.var 11)) (.cons (.var 12) (.cons (.var 13) .nil)))) .nil)))
noncomputable def dBody : S := .cons d1 (.cons d2 (.cons d3 (.cons d4 (.cons d5 (.cons d6 (.cons d7 (.cons d8 .nil)))))))
theorem len_dic {st : St} {r : Nat} {es : List (List Int × D)} (h : st[r]? = some (.dic es)) (hl : es.length < lim) : bltD .len [.obj r] st = some (.int es.length, st) := by
  rw [bLenO, h]
  exact if_pos hl
section
variable {n p b : Nat} {ord : Str} {fz : List Nat} (hf : isForm p n) (ho : isOrd ord) (ts : Nat → Nat)
include hf ho
theorem form_n : n ≤ 5 := by rcases hf with h | h | h | h | h <;> lia
noncomputable def tsD (n : Nat) (ts : Nat → Nat) : D := .ilst ((List.range n).map fun i => .obj (ts i))
noncomputable def leadsD (n p : Nat) : D := .ilst (((List.range n).map fun i => lpow n (List.replicate p i)).map leadT)
noncomputable def qsD (n b : Nat) : D := .ilst ((List.range n).map fun i => .obj (b + i))
structure SC (n p b mm : Nat) (ts : Nat → Nat) (st0 st : St) (l : Nat) (L R : Po) : Prop where
  old : ∀ i < b, st[i]? = st0[i]?
  blen : b + n < l
  tsb : ∀ i < n, ts i < b ∧ st0[ts i]? = some (.dic (toD (turn n p i)))
  q : ∀ i < n, ∃ Q, st[b + i]? = some (.dic (toD Q)) ∧ (keys Q).Nodup ∧ Nz Q ∧ L1 Q + 37 * mm ≤ 37 * 186
  r : st[b + n]? = some (.dic (toD R))
  l : st[l]? = some (.dic (toD L))
theorem sA1 {st : St} {l : Nat} {L : Po} {e : List Int × Int} {a rr w v8 m v10 v11 v12 v13} (hl : st[l]? = some (.dic (toD L))) (hn : (keys L).Nodup) (hk : ∀ e ∈ L, e.1.length < 1000) (hlead : leadP ord L = some e) :
    exS (callAll tab 23) d1 fz (rhoD a (tsD n ts) (some (.str ord)) (leadsD n p) (qsD n b) rr (some (.obj l)) w v8 m v10 v11 v12 v13) st =
      some (.next, rhoD a (tsD n ts) (some (.str ord)) (leadsD n p) (qsD n b) rr (some (.obj l)) w (some (pw e.1)) m (some (rt e.2)) v11 v12 v13, st) := by
  have h1 := mvlead_spec (N := 23) (by decide) (fz := fz) hl ho hn hk
  rw [hlead] at h1
  exact xAssignT (eCall (l2 (eVar rfl) (eVar rfl)) h1) rfl
omit hf ho in
theorem sA2 {st : St} {l : Nat} {L : Po} {w : Int} {a t o ld q rr v8 m v10 v11 v12 v13} (hl : st[l]? = some (.dic (toD L))) (hs : L.length < 1000) :
    exS (callAll tab 23) d2 fz (rhoD a t o ld q rr (some (.obj l)) (some (.int w)) v8 m v10 v11 v12 v13) st =
      some (.next, rhoD a t o ld q rr (some (.obj l)) (some (.int (w + L.length))) v8 m v10 v11 v12 v13, st) := by
  have h1 := len_dic hl (by rw [toD_length]; exact lt_lim hs)
  rw [toD_length] at h1
  exact xAug rfl (eBlt (l1 (eVar rfl)) h1) rfl
omit hf ho in
theorem bools_no {k : List Int} : ∀ {m : Int}, (∀ x ∈ k, x ≤ m) → D.bools (k.map fun x => .bool (decide (x > m))) = some (k.map fun _ => false) := by
  induction k with
  | nil =>
    intro _ _
    exact rfl
  | cons x k ih =>
    intro m h
    have hx := h x List.mem_cons_self
    rw [List.map_cons, D.bools, ih fun y hy => h y (List.mem_cons_of_mem _ hy)]
    simp; lia
omit hf ho in
theorem sA3 {st : St} {w m c : Int} {k : List Int} {a t o ld q rr l v11 v12 v13} (hk : k.length < 1000) (hw : w ≤ 3000000) (hc : c.natAbs < 2 ^ 64) (hm : ∀ x ∈ k, x ≤ m) :
    exS (callAll tab 23) d3 fz (rhoD a t o ld q rr l (some (.int w)) (some (pw k)) (some (.int m)) (some (rt c)) v11 v12 v13) st =
      some (.next, rhoD a t o ld q rr l (some (.int w)) (some (pw k)) (some (.int m)) (some (rt c)) v11 v12 v13, st) := by
  have h3 : bltD .any [.ilst (k.map fun x => .bool (decide (x > m)))] st = some (.bool false, st) := by
    rw [bAny, bools_no hm]
    have : (k.map fun _ => false).any id = false := by rw [List.any_map]; exact List.any_eq_false.mpr fun _ _ => Bool.false_ne_true
    rw [Option.map_some, this]
  have h2 := evE_lcomp (cf := callAll tab 23) (imps := [none, none, some 9]) (tgt := [1]) (k := .plain) (src := .var 8) (cond := .nil) (elt := .cmp .gt (.var 1) (.var 2)) (fz := fz) (ρ := rhoD a t o ld q rr l (some (.int w)) (some (pw k)) (some (.int m)) (some (rt c)) v11 v12 v13) (st := st) (L := k) (enc := .int) (g := fun x => .bool (decide (x > m))) (q := fun _ => true) (d := pw k) (st1 := st) (eVar rfl) (items_plain_tup _ _) (lt_lim hk)
    fun x hx => ⟨[none, some (.int x), some (.int m)], rfl, eTrue, fun _ => eCmp (eVar rfl) (eVar rfl) (cmpD_gt_int st x m)⟩
  rw [filter_true] at h2
  exact xIfF (eBop (bGo (eCmp (eVar rfl) (eGlob rfl) (cmpD_gt_no (by lia))) (bGo (eCall (l1 (eVar rfl)) (is_vast_no (by decide) fz hc st)) (bLast (eBlt (l1 h2) h3))))) xNil
theorem sA4 {st : St} {k : List Int} {a t o q rr l w m v10 v11 v12 v13} (hk : k.length = n) :
    exS (callAll tab 23) d4 fz (rhoD a t o (leadsD n p) q rr l w (some (pw k)) m v10 v11 v12 v13) st =
      some (.next, rhoD a t o (leadsD n p) q rr l w (some (pw k)) m v10 (some (.int (fdiv ((List.range n).map fun i => lpow n (List.replicate p i)) k 0))) v12 v13, st) := by
  have hn := form_n hf ho
  have h1 := first_divisor_spec (N := 23) (by decide) fz (k := k) (ls := (List.range n).map fun i => lpow n (List.replicate p i)) (by lia) (by
    intro l hl
    obtain ⟨i, _, rfl⟩ := List.mem_map.mp hl
    rw [lpow_length, hk]) st
  exact xAssign (eCall (l2 (eVar rfl) (eVar rfl)) h1)
omit hf ho in
theorem pop_one {st : St} {r : Nat} {es : List (List Int × D)} (h : st[r]? = some (.dic es)) (hf : r ∉ fz) (hl : es.length < lim) {k : List Int} {v : D} (hg : dget es k = some v) :
    methD fz .pop (.obj r) [pw k] st = some (v, st.set r (.dic (ddel es k))) := by
  rw [mPop, if_neg hf, h]
  show (if lim ≤ es.length then none else (keyOf (pw k)).bind _) = _
  rw [if_neg (Nat.not_le.mpr hl), keyOf_pw, Option.bind_some, popD, hg]
  rfl
omit hf ho in
theorem sA5 {st : St} {l rr : Nat} {L R : Po} {e : List Int × Int} {a t o ld q w m v12 v13} (hl : st[l]? = some (.dic (toD L))) (hr : st[rr]? = some (.dic (toD R))) (hlr : rr ≠ l) (hfl : l ∉ fz) (hfr : rr ∉ fz)
    (hn : (keys L).Nodup) (he : e ∈ L) (hfresh : e.1 ∉ keys R) (hL : L.length < 1000) (hR : R.length < 1000) :
    exS (callAll tab 23) d5 fz (rhoD a t o ld q (some (.obj rr)) (some (.obj l)) w (some (pw e.1)) m (some (rt e.2)) (some (.int (-1))) v12 v13) st =
      some (.cont, rhoD a t o ld q (some (.obj rr)) (some (.obj l)) w (some (pw e.1)) m (some (rt e.2)) (some (.int (-1))) v12 v13, (st.set rr (.dic (toD (R ++ [e])))).set l (.dic (toD (padd L e.1 (-e.2))))) := by
  have hg := pget_of_mem hn (k := e.1) (c := e.2) he
  have h1 := setItemD_dic hr hfr (by rw [toD_length]; exact lt_lim hR) e.1 (rt e.2)
  rw [dput_none hfresh] at h1
  change _ = some (st.set rr (.dic (toD (R ++ [e])))) at h1
  have h0 : cmpD st .lt (.int (-1)) (.int 0) = some true := rfl
  have hl' : (st.set rr (.dic (toD (R ++ [e]))))[l]? = some (.dic (toD L)) := by rw [List.getElem?_set_ne hlr]; exact hl
  have h2 := pop_one hl' hfl (by rw [toD_length]; exact lt_lim hL) (k := e.1) (v := rt e.2) (by rw [dget_toD, hg]; rfl)
  have h3 := padd_some hn hg (-e.2)
  rw [if_pos (by lia)] at h3
  rw [h3] at h2
  exact xIfT (eCmp (eVar rfl) eCst h0) (Eq.trans (exS_next (xSet (eVar rfl) (eVar rfl) (eVar rfl) h1)) (Eq.trans (exS_next (xExpr (eMeth (eVar rfl) (fitsM_dic hl') (l1 (eVar rfl)) h2))) (exS_cont xCont)))
omit hf ho in
theorem cmpD_lt_nat (st : St) (i : Nat) : cmpD st .lt (.int (i : Nat)) (.int 0) = some false := by
  show some (decide ((i : Int) < 0)) = _
  rw [decide_eq_false (by lia)]
omit hf ho in
theorem sB5 {st : St} {i : Nat} {a t o ld q rr l w v8 m v10 v12 v13} :
    exS (callAll tab 23) d5 fz (rhoD a t o ld q rr l w v8 m v10 (some (.int (i : Nat))) v12 v13) st = some (.next, rhoD a t o ld q rr l w v8 m v10 (some (.int (i : Nat))) v12 v13, st) := xIfF (eCmp (eVar rfl) eCst ((cmpD_lt_nat st i))) xNil
theorem leads_get {i : Nat} (hi : i < n) (st : St) : subD st (leadsD n p) (.int (i : Nat)) = some (leadT (lpow n (List.replicate p i))) := by
  have hn := form_n hf ho
  rw [leadsD, subD_ilst (by lia)]
  simp [hi]
omit hf ho in
theorem nat_get {f : Nat → D} {i : Nat} (hi : i < n) (hn : n ≤ 5) (st : St) : subD st (.ilst ((List.range n).map f)) (.int (i : Nat)) = some (f i) := by
  rw [subD_ilst (by lia)]
  simp [hi]
theorem sB6 {st : St} {i : Nat} (hi : i < n) {k : List Int} {c : Int} {a t o q rr l w m v12 v13} (hk : k.length = n) (hc : c.natAbs < 2 ^ 64) :
    exS (callAll tab 23) d6 fz (rhoD a t o (leadsD n p) q rr l w (some (pw k)) m (some (rt c)) (some (.int (i : Nat))) v12 v13) st =
      some (.next, rhoD a t o (leadsD n p) q rr l w (some (pw k)) m (some (rt c)) (some (.int (i : Nat))) (some (pw (kdiff k (lpow n (List.replicate p i))))) (some (rt c)), st) := by
  have hn := form_n hf ho
  have h1 := leads_get hf ho hi st
  exact xAssignT (eTup2 (eCall (l2 (eVar rfl) (eIdx (eIdx (eVar rfl) (eVar rfl) h1) eCst (subD_tup0 ..))) (quotient_spec (by decide) fz (by rw [hk, lpow_length]) (by lia) st)) (eCall (l2 (eVar rfl) (eIdx (eIdx (eVar rfl) (eVar rfl) h1) eCst (subD_tup1 ..))) (rdiv_one (by decide) fz hc st))) rfl
theorem sB7 {st : St} {i : Nat} (hi : i < n) {s : List Int} {c : Int} {Q : Po} {a t o ld rr l w v8 m v10} (hq : st[b + i]? = some (.dic (toD Q))) (hfq : b + i ∉ fz) (hn : (keys Q).Nodup) (hz : Nz Q) (hl : L1 Q ≤ 50000) (hc : c.natAbs ≤ 50000) :
    exS (callAll tab 23) d7 fz (rhoD a t o ld (some (qsD n b)) rr l w v8 m v10 (some (.int (i : Nat))) (some (pw s)) (some (rt c))) st =
      some (.next, rhoD a t o ld (some (qsD n b)) rr l w v8 m v10 (some (.int (i : Nat))) (some (pw s)) (some (rt c)), st.set (b + i) (.dic (toD (padd Q s c)))) :=
  xExpr (eCall (l3 (eIdx (eVar rfl) (eVar rfl) (nat_get (f := fun i => .obj (b + i)) hi (form_n hf ho) st)) (eVar rfl) (eVar rfl)) (add_term_spec (by decide) hq hfq hn hz hl s hc))
theorem sB8 {st : St} {i l : Nat} (hi : i < n) {s : List Int} {c : Int} {L : Po} {a o ld q rr w v8 m v10} (ht : st[ts i]? = some (.dic (toD (turn n p i)))) (hl : st[l]? = some (.dic (toD L))) (hfz : ∀ r ∈ fz, r < st.length) (hL : Ok n 4 37 L)
    (hs : ∃ d, KK n d s) (hc : c ≠ 0) (hc' : c.natAbs ≤ 37) :
    exS (callAll tab 23) d8 fz (rhoD a (some (tsD n ts)) o ld q rr (some (.obj l)) w v8 m v10 (some (.int (i : Nat))) (some (pw s)) (some (rt c))) st =
      some (.next, rhoD a (some (tsD n ts)) o ld q rr (some (.obj (st.length + 2))) w v8 m v10 (some (.int (i : Nat))) (some (pw s)) (some (rt c)), st ++ [.dic (toD (prow (turn n p i) (s, c))), .dic (toD (pneg (prow (turn n p i) (s, c)))), .dic (toD (psub L (prow (turn n p i) (s, c))))]) := by
  obtain ⟨d', hs⟩ := hs
  have hn := form_n hf ho
  have h1 := nat_get (f := fun i => .obj (ts i)) hi hn st
  rw [← tsD] at h1
  have hto := turn_ok hf hi
  have h2 := mvshift_spec (N := 23) (by lia) (fz := fz) ht hto (by lia) (by lia) hs hc (by lia)
  have hrn : (keys (prow (turn n p i) (s, c))).Nodup := nodup_prow hto.nodup hto.kk (e := (s, c)) hs
  have hrz : Nz (prow (turn n p i) (s, c)) := by
    intro x hx
    obtain ⟨y, hy, rfl⟩ := List.mem_map.mp hx
    exact Int.mul_ne_zero (hto.nz y hy) hc
  have hrl : L1 (prow (turn n p i) (s, c)) ≤ 2 * 37 := by rw [L1_prow]; exact Nat.mul_le_mul hto.l1 hc'
  have h3 := mvsub_spec (N := 23) (by lia) (fz := fz) (get_old [.dic (toD (prow (turn n p i) (s, c)))] hl) (get_last st (.dic (toD (prow (turn n p i) (s, c))))) (fun r hr => by have := hfz r hr; simp; lia) hL.nodup hL.nz (hash_ok hf hL.nodup hL.kk) hrn hrz (by have := hL.l1; lia)
  rw [List.append_assoc, List.length_append] at h3
  exact xAssign (eCall (l2 (eVar rfl) (eCall (l3 (eIdx (eVar rfl) (eVar rfl) h1) (eVar rfl) (eVar rfl)) h2)) h3)
end
end Mine
end
section
open PySem
set_option maxRecDepth 100000
set_option linter.unusedVariables false
set_option linter.unusedSimpArgs false
set_option linter.unusedSectionVars false
namespace Mine
theorem dTest_spec {fz : List Nat} {st : St} {l : Nat} {L : Po} {a t o ld q rr w v8 m v10 v11 v12 v13} (hl : st[l]? = some (.dic (toD L))) (hs : L.length < 1000) :
    evE (callAll tab 23) dTest fz (rhoD a t o ld q rr (some (.obj l)) w v8 m v10 v11 v12 v13) st = some (.bool (decide ((L.length : Int) > 0)), st) := by
  have h1 := len_dic hl (by rw [toD_length, lim_eq]; lia)
  rw [toD_length] at h1
  exact eCmp (eBlt (l1 (eVar rfl)) h1) eCst rfl
theorem get_set_self {st : St} {i : Nat} {c : Cont} (x : Cont) (h : st[i]? = some c) : (st.set i x)[i]? = some x := by
  rw [List.getElem?_set_self (lt_of_get h)]
theorem meas_pos {L : Po} (h : L ≠ []) : 1 ≤ meas wgt L := by
  cases L with
  | nil => exact absurd rfl h
  | cons e r => simp only [meas, List.map_cons, List.sum_cons, wgt]; lia
theorem SC.stepA {n p b mm l : Nat} {ts : Nat → Nat} {st0 st : St} {L R L' R' : Po} (S : SC n p b (mm + 1) ts st0 st l L R) : SC n p b mm ts st0 ((st.set (b + n) (.dic (toD R'))).set l (.dic (toD L'))) l L' R' := by
  have hlb := S.blen
  refine ⟨?_, S.blen, S.tsb, ?_, ?_, ?_⟩
  · intro j hj
    rw [List.getElem?_set_ne (by lia), List.getElem?_set_ne (by lia)]
    exact S.old j hj
  · intro j hj
    obtain ⟨Q, g1, g2, g3, g4⟩ := S.q j hj
    refine ⟨Q, ?_, g2, g3, by lia⟩
    rw [List.getElem?_set_ne (by lia), List.getElem?_set_ne (by lia)]
    exact g1
  · rw [List.getElem?_set_ne (by lia)]
    exact get_set_self _ S.r
  · exact get_set_self (c := .dic (toD L)) _ (by rw [List.getElem?_set_ne (by lia)]; exact S.l)
theorem SC.stepB {n p b mm l i : Nat} {ts : Nat → Nat} {st0 st : St} {L R L' Q : Po} {s : List Int} {c : Int} {c1 c2 : Cont} (S : SC n p b (mm + 1) ts st0 st l L R) (hi : i < n) (g1 : st[b + i]? = some (.dic (toD Q))) (g2 : (keys Q).Nodup) (g3 : Nz Q) (g4 : L1 Q + 37 * (mm + 1) ≤ 37 * 186) (hc : c.natAbs ≤ 37) :
    SC n p b mm ts st0 (st.set (b + i) (.dic (toD (padd Q s c))) ++ [c1, c2, .dic (toD L')]) (st.length + 2) L' R := by
  have hlb := S.blen
  have hbl := lt_of_get S.l
  have hsl : (st.set (b + i) (.dic (toD (padd Q s c)))).length = st.length := List.length_set ..
  refine ⟨?_, by lia, S.tsb, ?_, ?_, ?_⟩
  · intro j hj
    rw [List.getElem?_append_left (by rw [hsl]; lia), List.getElem?_set_ne (by lia)]
    exact S.old j hj
  · intro j hj
    by_cases hji : j = i
    · subst hji
      refine ⟨padd Q s c, get_old _ (get_set_self _ g1), nodup_padd g2 _ _, nz_padd g3 _ _, ?_⟩
      have := L1_padd Q s c
      lia
    · obtain ⟨Q', k1, k2, k3, k4⟩ := S.q j hj
      refine ⟨Q', get_old _ ?_, k2, k3, by lia⟩
      rw [List.getElem?_set_ne (by lia)]; exact k1
  · exact get_old _ (by rw [List.getElem?_set_ne (by lia)]; exact S.r)
  · rw [List.getElem?_append_right (by rw [hsl]; lia), hsl, show st.length + 2 - st.length = 2 by lia]; rfl
inductive DivRes (n p b : Nat) (ord : Str) (fz : List Nat) (P0 : Po) (st0 : St) (fuel : Nat) (ρ : Rho) (st : St) : Prop
  | mk (ρ' : Rho) (st' : St) (R' : Po) (h1 : whileL (fun ρ st => evE (callAll tab 23) dTest fz ρ st) (fun ρ st => exS (callAll tab 23) dBody fz ρ st) fuel ρ st = some (.next, ρ', st')) (h2 : (ρ'[4]?).join = some (qsD n b)) (h3 : (ρ'[5]?).join = some (.obj (b + n)))
    (h4 : st'[b + n]? = some (.dic (toD R'))) (h5 : DInv n p ord P0 [] R') (h6 : ∀ i < b, st'[i]? = st0[i]?)
theorem div_loop {n p b : Nat} {ord : Str} {fz : List Nat} (hf : isForm p n) (ho : isOrd ord) (ts : Nat → Nat) {P0 : Po} {st0 : St} {a : Option D} {m : Int} (hm : 20000 ≤ m) (hfz : ∀ r ∈ fz, r < b) : ∀ (mm : Nat) (L R : Po) (l : Nat) (w : Int) v8 v10 v11 v12 v13 (st : St) (fuel : Nat),
    meas wgt L ≤ mm → mm < fuel → w + 37 * mm ≤ 37 * 186 → DInv n p ord P0 L R → SC n p b mm ts st0 st l L R →
    DivRes n p b ord fz P0 st0 fuel (rhoD a (some (tsD n ts)) (some (.str ord)) (some (leadsD n p)) (some (qsD n b)) (some (.obj (b + n))) (some (.obj l)) (some (.int w)) v8 (some (.int m)) v10 v11 v12 v13) st := by
  intro mm
  induction mm with
  | zero =>
    intro L R l w v8 v10 v11 v12 v13 st fuel h1 h2 h3 I S
    obtain ⟨fuel, rfl⟩ : ∃ k, fuel = k + 1 := ⟨fuel - 1, by lia⟩
    have hL : L = [] := by
      cases L with
      | nil => rfl
      | cons e r => have := meas_pos (L := e :: r) (by simp); lia
    subst hL
    exact ⟨_, st, R, whileL_stop (dTest_spec S.l (by simp)), rfl, rfl, S.r, I, S.old⟩
  | succ mm ih =>
    intro L R l w v8 v10 v11 v12 v13 st fuel h1 h2 h3 I S
    obtain ⟨fuel, rfl⟩ : ∃ k, fuel = k + 1 := ⟨fuel - 1, by lia⟩
    have hlen := I.okL.len
    have hlenR := I.size
    have htest := dTest_spec (fz := fz) (a := a) (t := some (tsD n ts)) (o := some (.str ord)) (ld := some (leadsD n p)) (q := some (qsD n b)) (rr := some (.obj (b + n))) (w := some (.int w)) (v8 := v8) (m := some (.int m)) (v10 := v10) (v11 := v11) (v12 := v12) (v13 := v13) S.l (by lia)
    by_cases hL : L = []
    · subst hL
      exact ⟨_, st, R, whileL_stop htest, rfl, rfl, S.r, I, S.old⟩
    have hpos : (L.length : Int) > 0 := by
      cases L with
      | nil => exact absurd rfl hL
      | cons => simp only [List.length_cons]; lia
    rw [decide_eq_true hpos] at htest
    have hn5 := form_n hf ho
    obtain ⟨e, he, hlead, hmax⟩ := leadP_spec (ord := ord) I.okL.nodup hL (fun k hk => (I.okL.kk k hk).len)
    have hk := I.okL.kk e.1 (List.mem_map.mpr ⟨e, he, rfl⟩)
    have hab := I.okL.abs he
    have hkl := hk.len
    have h64 : e.2.natAbs < 2 ^ 64 := by lia
    have hmk : ∀ x ∈ e.1, x ≤ m := by
      intro x hx
      have := mem_le_sum hk.pos x hx
      have := hk.deg
      lia
    have hlk : ∀ x ∈ L, x.1.length < 1000 := by
      intro x hx
      have := (I.okL.kk x.1 (List.mem_map.mpr ⟨x, hx, rfl⟩)).len
      lia
    have q1 := sA1 (n := n) (p := p) (b := b) (fz := fz) hf ho ts (a := a) (rr := some (.obj (b + n))) (w := some (.int w)) (v8 := v8) (m := some (.int m)) (v10 := v10) (v11 := v11) (v12 := v12) (v13 := v13) S.l I.okL.nodup hlk hlead
    have q2 := sA2 (fz := fz) (w := w) (a := a) (t := some (tsD n ts)) (o := some (.str ord)) (ld := some (leadsD n p)) (q := some (qsD n b)) (rr := some (.obj (b + n))) (v8 := some (pw e.1)) (m := some (.int m)) (v10 := some (rt e.2)) (v11 := v11) (v12 := v12) (v13 := v13) S.l (by lia)
    have q3 := sA3 (fz := fz) (st := st) (w := w + L.length) (m := m) (c := e.2) (k := e.1) (a := a) (t := some (tsD n ts)) (o := some (.str ord)) (ld := some (leadsD n p)) (q := some (qsD n b)) (rr := some (.obj (b + n))) (l := some (.obj l)) (v11 := v11) (v12 := v12) (v13 := v13) (by lia) (by lia) h64 hmk
    have q4 := sA4 (fz := fz) hf ho (st := st) (k := e.1) (a := a) (t := some (tsD n ts)) (o := some (.str ord)) (q := some (qsD n b)) (rr := some (.obj (b + n))) (l := some (.obj l)) (w := some (.int (w + L.length))) (m := some (.int m)) (v10 := some (rt e.2)) (v11 := v11) (v12 := v12) (v13 := v13) hkl
    have hlb := S.blen
    have hbl := lt_of_get S.l
    have hbn := lt_of_get S.r
    rcases fdiv_spec ((List.range n).map fun i => lpow n (List.replicate p i)) e.1 0 with ⟨f1, f2⟩ | ⟨i, lk, f0, f1, f2⟩
    · rw [f1] at q4
      have hlow : ∀ i < n, kdvd (lpow n (List.replicate p i)) e.1 = false := fun i hi => f2 _ (List.mem_map.mpr ⟨i, List.mem_range.mpr hi, rfl⟩)
      have q5 := sA5 (fz := fz) (a := a) (t := some (tsD n ts)) (o := some (.str ord)) (ld := some (leadsD n p)) (q := some (qsD n b)) (w := some (.int (w + L.length))) (m := some (.int m)) (v12 := v12) (v13 := v13) S.l S.r (by lia) (fun q => by have := hfz _ q; lia) (fun q => by have := hfz _ q; lia) I.okL.nodup he (I.fresh he) (by lia) (by lia)
      have hbody := Eq.trans (exS_next q1) (Eq.trans (exS_next q2) (Eq.trans (exS_next q3) (Eq.trans (exS_next q4) (exS_cont (ss := .cons d6 (.cons d7 (.cons d8 .nil))) q5))))
      have I' := I.stepA he hmax hlow
      have hkill := padd_kill I.okL.nodup (k := e.1) (c := e.2) he wgt
      have hw1 : 1 ≤ wgt e.1 := by unfold wgt; lia
      obtain ⟨ρ', st', R', r1, r2, r3, r4, r5, r6⟩ := ih (padd L e.1 (-e.2)) (R ++ [e]) l (w + L.length) (some (pw e.1)) (some (rt e.2)) (some (.int (-1))) v12 v13 ((st.set (b + n) (.dic (toD (R ++ [e])))).set l (.dic (toD (padd L e.1 (-e.2))))) fuel (by lia) (by lia) (by lia) I' S.stepA
      refine ⟨ρ', st', R', ?_, r2, r3, r4, r5, r6⟩
      exact Eq.trans (whileL_cont (t := fun ρ st => evE (callAll tab 23) dTest fz ρ st) (b := fun ρ st => exS (callAll tab 23) dBody fz ρ st) htest hbody) r1
    · have hi : i < n := by
        obtain ⟨h, _⟩ := List.getElem?_eq_some_iff.mp f0
        simpa using h
      have hlk' : lk = lpow n (List.replicate p i) := by
        have : ((List.range n).map fun i => lpow n (List.replicate p i))[i]? = some (lpow n (List.replicate p i)) := by simp [hi]
        rw [this] at f0; exact (Option.some.inj f0).symm
      subst hlk'
      rw [f1] at q4
      simp only [Nat.zero_add] at q4
      obtain ⟨Q, g1, g2, g3, g4⟩ := S.q i hi
      have hc0 : e.2 ≠ 0 := I.okL.nz e he
      have q5 := sB5 (fz := fz) (st := st) (i := i) (a := a) (t := some (tsD n ts)) (o := some (.str ord)) (ld := some (leadsD n p)) (q := some (qsD n b)) (rr := some (.obj (b + n))) (l := some (.obj l)) (w := some (.int (w + L.length))) (v8 := some (pw e.1)) (m := some (.int m)) (v10 := some (rt e.2)) (v12 := v12) (v13 := v13)
      have q6 := sB6 (fz := fz) hf ho (st := st) hi (k := e.1) (c := e.2) (a := a) (t := some (tsD n ts)) (o := some (.str ord)) (q := some (qsD n b)) (rr := some (.obj (b + n))) (l := some (.obj l)) (w := some (.int (w + L.length))) (m := some (.int m)) (v12 := v12) (v13 := v13) hkl h64
      generalize hs : kdiff e.1 (lpow n (List.replicate p i)) = s at q6
      have hsKK : ∃ d, KK n d s := by
        refine ⟨s.sum, ?_, ?_, Int.le_refl _⟩
        · rw [← hs]; simp [kdiff, hkl, lpow_length]
        · rw [← hs]; exact kdiff_pos (by rw [hkl, lpow_length]) f2
      have q7 := sB7 (fz := fz) hf ho (st := st) hi (s := s) (c := e.2) (a := a) (t := some (tsD n ts)) (o := some (.str ord)) (ld := some (leadsD n p)) (rr := some (.obj (b + n))) (l := some (.obj l)) (w := some (.int (w + L.length))) (v8 := some (pw e.1)) (m := some (.int m)) (v10 := some (rt e.2)) g1 (fun q => by have := hfz _ q; lia) g2 g3 (by lia) (by lia)
      obtain ⟨htb, htg⟩ := S.tsb i hi
      have hti : (st.set (b + i) (.dic (toD (padd Q s e.2))))[ts i]? = some (.dic (toD (turn n p i))) := by
        rw [List.getElem?_set_ne (by lia), S.old _ htb]; exact htg
      have hli : (st.set (b + i) (.dic (toD (padd Q s e.2))))[l]? = some (.dic (toD L)) := by
        rw [List.getElem?_set_ne (by lia)]; exact S.l
      have q8 := sB8 (fz := fz) hf ho ts hi (s := s) (c := e.2) (a := a) (o := some (.str ord)) (ld := some (leadsD n p)) (q := some (qsD n b)) (rr := some (.obj (b + n))) (w := some (.int (w + L.length))) (v8 := some (pw e.1)) (m := some (.int m)) (v10 := some (rt e.2)) hti hli (fun r hr => by have := hfz r hr; simp; lia) I.okL hsKK hc0 hab
      have hbody := Eq.trans (exS_next q1) (Eq.trans (exS_next q2) (Eq.trans (exS_next q3) (Eq.trans (exS_next q4) (Eq.trans (exS_next q5) (Eq.trans (exS_next q6) (Eq.trans (exS_next q7) (exS_next (ss := .nil) q8)))))))
      obtain ⟨I', hdec⟩ := I.stepB hf he hmax hi f2
      rw [hs] at I' hdec
      have hsl : (st.set (b + i) (.dic (toD (padd Q s e.2)))).length = st.length := by simp
      rw [hsl] at hbody
      obtain ⟨ρ', st', R', r1, r2, r3, r4, r5, r6⟩ := ih (psub L (prow (turn n p i) (s, e.2))) R (st.length + 2) (w + L.length) (some (pw e.1)) (some (rt e.2)) (some (.int (i : Nat))) (some (pw s)) (some (rt e.2))
        ((st.set (b + i) (.dic (toD (padd Q s e.2)))) ++ [.dic (toD (prow (turn n p i) (s, e.2))), .dic (toD (pneg (prow (turn n p i) (s, e.2)))), .dic (toD (psub L (prow (turn n p i) (s, e.2))))]) fuel (by lia) (by lia) (by lia) I' (S.stepB hi g1 g2 g3 g4 (by lia))
      refine ⟨ρ', st', R', ?_, r2, r3, r4, r5, r6⟩
      exact Eq.trans (whileL_next (t := fun ρ st => evE (callAll tab 23) dTest fz ρ st) (b := fun ρ st => exS (callAll tab 23) dBody fz ρ st) htest hbody) r1
end Mine
end
section
open PySem
set_option maxRecDepth 100000
set_option linter.unusedVariables false
set_option linter.unusedSimpArgs false
set_option linter.unusedSectionVars false
namespace Mine
theorem meas_le {n : Nat} {P : Po} (h : ∀ k ∈ keys P, KK n 4 k) : meas wgt P ≤ P.length * 5 := by
  induction P with
  | nil => simp [meas]
  | cons e r ih =>
    have := ih fun k hk => h k (by simp only [keys, List.map_cons, List.mem_cons] at hk ⊢; exact .inr hk)
    have he := h e.1 (by simp [keys])
    have h1 := he.deg
    have h2 : wgt e.1 ≤ 5 := by unfold wgt; lia
    simp only [meas, List.map_cons, List.sum_cons, List.length_cons] at this ⊢
    lia
noncomputable def divE1 : E := .lcomp [none, none, none, some 2] [1] .plain (.var 1) .nil (.call 21 (.cons (.var 1) (.cons (.var 3) .nil)))
noncomputable def divE2 : E := .lcomp [none, none] [1] .plain (.var 1) .nil (.dict .nil)
noncomputable def divE4 : E := .lcomp2 [none, none, none] [1] .plain (.var 0) [2] .plain (.var 1) (.var 2)
theorem max_ge (l : List Int) (st : St) : ∃ m, 20000 ≤ m ∧ bltD .max [.ilst (.int 20000 :: l.map .int)] st = some (.int m, st) := by
  refine ⟨l.foldl (fun m y => if m < y then y else m) 20000, foldl_max_ge l 20000, ?_⟩
  have h1 : D.ints (.int 20000 :: l.map .int) = some (20000 :: l) := ints_map (20000 :: l)
  rw [bMaxI, h1]; rfl
theorem binD_ilst {a b : List D} (h : a.length + b.length < lim) : binD .add (.ilst a) (.ilst b) = some (.ilst (a ++ b)) := by
  show (if a.length + b.length < lim then _ else _) = _
  rw [if_pos h]
theorem mvdivide_spec {N : Nat} (hN : 23 < N) {n p : Nat} {ord : Str} {fz : List Nat} (hf : isForm p n) (ho : isOrd ord) (ts : Nat → Nat) {P : Po} {st : St} {a : Nat} (ha : st[a]? = some (.dic (toD P))) (hP : Ok n 4 37 P) (hfz : ∀ r ∈ fz, r < st.length)
    (hts : ∀ i < n, st[ts i]? = some (.dic (toD (turn n p i)))) :
    ∃ st' R, callAll tab N fz 23 [.obj a, tsD n ts, .str ord] st = some (.tup [qsD n st.length, .obj (st.length + n)], st') ∧ st'[st.length + n]? = some (.dic (toD R)) ∧ DInv n p ord P [] R ∧ ∀ i < st.length, st'[i]? = st[i]? := by
  rw [callAll_at (fn := f_mvdivide) rfl N hN]
  have hn5 := form_n hf ho
  have halt := lt_of_get ha
  have e1 : evE (callAll tab 23) divE1 fz (rhoD (some (.obj a)) (some (tsD n ts)) (some (.str ord)) none none none none none none none none none none none) st = some (leadsD n p, st) := by
    rw [divE1, evE_lcomp (L := List.range n) (enc := fun i => .obj (ts i)) (g := fun i => leadT (lpow n (List.replicate p i))) (q := fun _ => true) (d := tsD n ts) (st1 := st) (eVar rfl) (items_plain_ilst _ _) (by rw [lim_eq]; simp; lia) (by
      intro i hi
      have hi := List.mem_range.mp hi
      have h1 := mvlead_spec (N := 23) (by lia) (fz := fzOf (tsD n ts) fz) (hts i hi) ho (turn_ok hf hi).nodup (fun e he => by have := ((turn_ok hf hi).kk e.1 (List.mem_map.mpr ⟨e, he, rfl⟩)).len; lia)
      rw [turn_lead hf hi] at h1
      exact ⟨[none, some (.obj (ts i)), none, some (.str ord)], rfl, eTrue, fun _ => eCall (l2 (eVar rfl) (eVar rfl)) h1⟩), filter_true]
    rw [leadsD, List.map_map]; rfl
  have e2 : ∀ x3, evE (callAll tab 23) divE2 fz (rhoD (some (.obj a)) (some (tsD n ts)) (some (.str ord)) x3 none none none none none none none none none none) st = some (qsD n st.length, st ++ (List.range n).map fun _ => .dic []) := by
    intro x3
    rw [divE2, evE_lcomp_alloc (L := List.range n) (enc := fun i => .obj (ts i)) (c := fun _ => .dic []) (d := tsD n ts) (st1 := st) (eVar rfl) (items_plain_ilst _ _) (by rw [lim_eq]; simp; lia) (by
      intro pre e post hw
      refine ⟨_, rfl, ?_⟩
      have h0 := eDict0 (cf := callAll tab 23) (fz := fzOf (tsD n ts) fz) (ρ := [none, some (D.obj (ts e))]) (st := st ++ pre.map fun _ => Cont.dic [])
      rw [List.length_append, List.length_map] at h0
      exact h0)]
    rw [List.length_range, qsD]
  generalize hst1 : st ++ (List.range n).map (fun _ => Cont.dic []) = st1 at e2
  have hl1 : st1.length = st.length + n := by rw [← hst1]; simp
  have ha1 : st1[a]? = some (.dic (toD P)) := by rw [← hst1]; exact get_old _ ha
  have e3 : bltD .dict [.obj a] (st1 ++ [.dic []]) = some (.obj (st.length + n + 1), st1 ++ [.dic []] ++ [.dic (toD P)]) := by
    have := dict_po (get_old [.dic []] ha1) (by rw [lim_eq]; have := hP.len; lia) (hash_ok hf hP.nodup hP.kk)
    rw [this, List.length_append, hl1]; rfl
  generalize hst2 : st1 ++ [.dic []] ++ [.dic (toD P)] = st2 at e3
  have ha2 : st2[a]? = some (.dic (toD P)) := by rw [← hst2]; exact get_old _ (get_old _ ha1)
  have hflat := flat_len (n := n) (P := P) fun k hk => (hP.kk k hk).len
  have hflat2 : P.length * n ≤ 37 * 5 := Nat.mul_le_mul hP.len hn5
  have e4 : ∀ x3 x4 x5 x6 x7, evE (callAll tab 23) divE4 fz (rhoD (some (.obj a)) x3 x4 x5 x6 x7 (some (.obj (st.length + n + 1))) (some (.int 0)) none none none none none none) st2 = some (.ilst ((P.flatMap (·.1)).map .int), st2) := by
    intro x3 x4 x5 x6 x7
    have hfm : (P.flatMap (·.1)).map D.int = P.flatMap fun e => e.1.map fun x => D.int x := by rw [List.map_flatMap]
    rw [hfm, divE4, evE_lcomp2 (L := P) (enc := fun e => pw e.1) (M := fun e => e.1) (enc2 := fun x => .int x) (g := fun _ x => .int x) (d := .obj a) (st1 := st2) (eVar rfl) (items_po ha2) (by
      intro e he
      exact ⟨_, pw e.1, rfl, eVar rfl, items_plain_tup _ _, fun x hx => ⟨_, rfl, eVar rfl⟩⟩) (by rw [← hfm, List.length_map, lim_eq]; lia)]
  obtain ⟨m, hm, e5⟩ := max_ge (P.flatMap (·.1)) st2
  have hm1 := meas_le hP.kk
  have hlen := hP.len
  obtain ⟨ρ', st', R', r1, r2, r3, r4, r5, r6⟩ := div_loop (n := n) (p := p) (b := st.length) (ord := ord) (fz := fz) hf ho ts (P0 := P) (st0 := st) (a := some (.obj a)) (m := m) hm hfz 185 P [] (st.length + n + 1) 0 none none none none none st2 WF (by lia) (by decide) (by lia)
    ⟨hP, List.nodup_nil, fun k hk => (by cases hk), fun r hr => (by cases hr), fun x hx => (by rw [ev_nil, Int.zero_add, Int.sub_self]; exact Int.zero_emod _), by simp; lia⟩
    ⟨fun i hi => (by rw [← hst2, ← hst1, List.append_assoc, List.append_assoc, List.getElem?_append_left hi]), by lia, fun i hi => ⟨lt_of_get (hts i hi), hts i hi⟩, fun i hi => ⟨[], (by
      rw [← hst2, ← hst1, List.append_assoc, List.append_assoc, List.getElem?_append_right (by lia), List.getElem?_append_left (by simp; lia)]
      simp [toD, hi]), List.nodup_nil, fun _ h => (by cases h), by simp [L1]⟩, (by rw [← hst2, ← hl1]; exact get_old _ (get_last _ _)), (by
      rw [← hst2]
      have : st.length + n + 1 = (st1 ++ [Cont.dic []]).length := by simp [hl1]
      rw [this]; exact get_last _ _)⟩
  refine ⟨st', R', ?_, r4, r5, r6⟩
  refine runFn_ret rfl (ρ' := ρ') ?_
  refine Eq.trans (exS_next (ρ' := rhoD (some (.obj a)) (some (tsD n ts)) (some (.str ord)) (some (leadsD n p)) none none none none none none none none none none) (st' := st) ?_) ?_
  · show exS _ (.assign 3 divE1) fz (rhoD (some (.obj a)) (some (tsD n ts)) (some (.str ord)) none none none none none none none none none none none) st = _
    exact mS e1
  refine Eq.trans (exS_next (ρ' := rhoD (some (.obj a)) (some (tsD n ts)) (some (.str ord)) (some (leadsD n p)) (some (qsD n st.length)) none none none none none none none none none) (st' := st1) ?_) ?_
  · show exS _ (.assign 4 divE2) fz _ st = _
    exact mS (e2 _)
  refine Eq.trans (exS_next (ρ' := rhoD (some (.obj a)) (some (tsD n ts)) (some (.str ord)) (some (leadsD n p)) (some (qsD n st.length)) (some (.obj (st.length + n))) (some (.obj (st.length + n + 1))) (some (.int 0)) none none none none none none) (st' := st2) ?_) ?_
  · have h0 := eDict0 (cf := callAll tab 23) (fz := fz) (ρ := rhoD (some (.obj a)) (some (tsD n ts)) (some (.str ord)) (some (leadsD n p)) (some (qsD n st.length)) none none none none none none none none none) (st := st1)
    rw [hl1] at h0
    exact xAssignT (eTup3 h0 (eBlt (l1 (eVar rfl)) e3) eCst) rfl
  refine Eq.trans (exS_next (ρ' := rhoD (some (.obj a)) (some (tsD n ts)) (some (.str ord)) (some (leadsD n p)) (some (qsD n st.length)) (some (.obj (st.length + n))) (some (.obj (st.length + n + 1))) (some (.int 0)) none (some (.int m)) none none none none) (st' := st2) ?_) ?_
  · have hb : binD .add (.ilst [.int 20000]) (.ilst ((P.flatMap (·.1)).map .int)) = some (.ilst (.int 20000 :: (P.flatMap (·.1)).map .int)) := binD_ilst (by rw [List.length_map, lim_eq]; simp only [List.length_cons, List.length_nil]; lia)
    have hx : evE (callAll tab 23) (.bin .add (.listI (.cons (.glob 2) .nil)) divE4) fz (rhoD (some (.obj a)) (some (tsD n ts)) (some (.str ord)) (some (leadsD n p)) (some (qsD n st.length)) (some (.obj (st.length + n))) (some (.obj (st.length + n + 1))) (some (.int 0)) none none none none none none) st2 = some (.ilst (.int 20000 :: (P.flatMap (·.1)).map .int), st2) := by
      have hy : ∀ ρ, evE (callAll tab 23) (.listI (.cons (.glob 2) .nil)) fz ρ st2 = some (.ilst [.int 20000], st2) := by
        intro ρ; exact eListI (l1 (eGlob rfl)) (by show 1 < lim; decide)
      exact eBin (hy _) (e4 ..) hb
    show exS _ (.assign 9 (.blt .max (.cons (.bin .add (.listI (.cons (.glob 2) .nil)) divE4) .nil))) fz _ st2 = _
    exact xAssign (eBlt (l1 hx) e5)
  refine Eq.trans (exS_next (ρ' := ρ') (st' := st') ?_) (exS_ret ?_)
  · show exS _ (.whl dTest dBody) fz _ st2 = _
    exact r1
  · exact xRet (eTup2 (eVar r2) (eVar r3))
theorem rest_of_spec {N : Nat} (hN : 24 < N) {n p : Nat} {ord : Str} {fz : List Nat} (hf : isForm p n) (ho : isOrd ord) (ts : Nat → Nat) {P : Po} {st : St} {a : Nat} (ha : st[a]? = some (.dic (toD P))) (hP : Ok n 4 37 P) (hfz : ∀ r ∈ fz, r < st.length)
    (hts : ∀ i < n, st[ts i]? = some (.dic (toD (turn n p i)))) :
    ∃ st' R r, callAll tab N fz 24 [.obj a, tsD n ts, .str ord] st = some (.obj r, st') ∧ st'[r]? = some (.dic (toD R)) ∧ st.length ≤ r ∧ DInv n p ord P [] R ∧ ∀ i < st.length, st'[i]? = st[i]? := by
  obtain ⟨st', R, h1, h2, h3, h4⟩ := mvdivide_spec (N := 24) (by lia) (fz := fz) hf ho ts ha hP hfz hts
  refine ⟨st', R, st.length + n, ?_, h2, by lia, h3, h4⟩
  rw [callAll_at (fn := f_rest_of) rfl N hN]
  refine runFn_ret rfl (ρ' := [some (.obj a), some (tsD n ts), some (.str ord), none]) (exS_ret ?_)
  exact xRet (eIdx (eCall (l3 (eVar rfl) (eVar rfl) (eVar rfl)) h1) eCst (subD_tup1 ..))
end Mine
end
section
open PySem
set_option maxRecDepth 100000
set_option linter.unusedVariables false
set_option linter.unusedSimpArgs false
set_option linter.unusedSectionVars false
namespace Mine
/-- the pool of draws -/
noncomputable def poolC (cells : List Int) (s : Nat) : Cont := .lst [.ilst (cells.map .int), .int (s : Nat)]
theorem fmod_in {a : Int} {m : Nat} (hm : 0 < m) : ∃ v : Nat, Int.fmod a m = (v : Int) ∧ v < m := by
  have h1 := Int.fmod_nonneg_of_pos a (b := (m : Int)) (by lia)
  have h2 := Int.fmod_lt_of_pos a (b := (m : Int)) (by lia)
  exact ⟨(Int.fmod a m).toNat, by lia, by lia⟩
noncomputable def tblL : List Int := [0, 0, 0, 0, 0, 1, 1, 0, 2, 2, 1]
theorem draw_spec {N : Nat} (hN : 25 < N) {fz : List Nat} {st : St} {r s : Nat} {cells : List Int} (hr : st[r]? = some (poolC cells s)) (hf : r ∉ fz) (hs : s ≤ 100) (hc : cells.length ≤ 100) {m : Nat} (hm : 0 < m) :
    ∃ v : Nat, v < m ∧ callAll tab N fz 25 [.obj r, .int (m : Nat)] st = some (.int (v : Nat), st.set r (poolC cells (s + 1))) := by
  have h1 : subD st (.obj r) (.int 1) = some (.int (s : Nat)) := by
    exact bS hr
  have h2 : setItemD fz st (.obj r) (.int 1) (.int ((s : Int) + 1)) = some (st.set r (poolC cells (s + 1))) := by
    exact (if_neg hf).trans (bS hr)
  have hr2 : (st.set r (poolC cells (s + 1)))[r]? = some (poolC cells (s + 1)) := get_set_self _ hr
  have h3 : subD (st.set r (poolC cells (s + 1))) (.obj r) (.int 0) = some (.ilst (cells.map .int)) := by
    exact bS hr2
  have h4 : bltD .len [.ilst (cells.map .int)] (st.set r (poolC cells (s + 1))) = some (.int cells.length, st.set r (poolC cells (s + 1))) := by
    rw [bLenI, List.length_map, if_pos (lt_lim (Nat.lt_of_le_of_lt hc (by decide)))]
  rw [callAll_at (fn := f__law_draw) rfl N hN]
  have s1 : exS (callAll tab 25) (.assign 2 (.idx (.var 0) (.cst (.int 1)))) fz [some (.obj r), some (.int (m : Nat)), none, none, none] st = some (.next, [some (.obj r), some (.int (m : Nat)), some (.int (s : Nat)), none, none], st) := xAssign (eIdx (eVar rfl) eCst h1)
  have s2 : exS (callAll tab 25) (.setItem (.var 0) (.cst (.int 1)) (.bin .add (.var 2) (.cst (.int 1)))) fz [some (.obj r), some (.int (m : Nat)), some (.int (s : Nat)), none, none] st = some (.next, [some (.obj r), some (.int (m : Nat)), some (.int (s : Nat)), none, none], st.set r (poolC cells (s + 1))) := xSet (eBin (eVar rfl) eCst rfl) (eVar rfl) eCst h2
  have hmod : ∀ {x : Int} {v : Nat}, Int.fmod x m = (v : Int) → binD .mod (.int x) (.int (m : Nat)) = some (.int (v : Nat)) := fun h => by
    rw [binD_int, intBin_mod, if_neg (by lia), h]; rfl
  have hlt : cmpD (st.set r (poolC cells (s + 1))) .lt (.int (s : Nat)) (.int (cells.length : Nat)) = some (decide ((s : Int) < (cells.length : Int))) := rfl
  by_cases hlen : s < cells.length
  · have h5 : subD (st.set r (poolC cells (s + 1))) (.ilst (cells.map .int)) (.int (s : Nat)) = some (.int cells[s]) := by
      rw [subD_ilst (by lia)]; simp [hlen]
    obtain ⟨v, hv, hv'⟩ := fmod_in (a := if cells[s] < 0 then -cells[s] else cells[s]) hm
    refine ⟨v, hv', ?_⟩
    refine runFn_ret rfl (ρ' := [some (.obj r), some (.int (m : Nat)), some (.int (s : Nat)), none, none]) ?_
    refine Eq.trans (exS_next s1) (Eq.trans (exS_next s2) (exS_ret ?_))
    have hd : decide ((s : Int) < (cells.length : Int)) = true := by simp; lia
    rw [hd] at hlt
    exact xIfT (eCmp (eVar rfl) (eBlt (l1 (eIdx (eVar rfl) eCst h3)) h4) hlt) (exS_ret (xRet (eBin (eBlt (l1 (eIdx (eIdx (eVar rfl) eCst h3) (eVar rfl) h5)) (bltD_abs _ _)) (eVar rfl) (hmod hv))))
  · have hd : decide ((s : Int) < (cells.length : Int)) = false := by simp; lia
    rw [hd] at hlt
    obtain ⟨u, hu, hu'⟩ := fmod_in (a := (s : Int)) (m := 11) (by lia)
    have h5 : subD (st.set r (poolC cells (s + 1))) (.tup (tblL.map .int)) (.int (u : Nat)) = some (.int (tblL[u]'(by simp [tblL]; lia))) := by
      have hul : u < tblL.length := by simp [tblL]; lia
      rw [subD_tup (by lia), List.getElem?_map, List.getElem?_eq_getElem hul]; rfl
    obtain ⟨v, hv, hv'⟩ := fmod_in (a := (tblL[u]'(by simp [tblL]; lia))) hm
    refine ⟨v, hv', ?_⟩
    refine runFn_ret rfl (ρ' := [some (.obj r), some (.int (m : Nat)), some (.int (s : Nat)), none, none]) ?_
    refine Eq.trans (exS_next s1) (Eq.trans (exS_next s2) (Eq.trans (exS_next (ρ' := [some (.obj r), some (.int (m : Nat)), some (.int (s : Nat)), none, none]) (st' := st.set r (poolC cells (s + 1))) ?_) (exS_ret ?_)))
    · exact xIfF (eCmp (eVar rfl) (eBlt (l1 (eIdx (eVar rfl) eCst h3)) h4) hlt) xNil
    · have hu2 : Int.fmod (s : Int) 11 = (u : Int) := hu
      have h11 : binD .mod (.int (s : Nat)) (.int 11) = some (.int (u : Nat)) := by rw [binD_int, intBin_mod, if_neg (by decide), hu2]; rfl
      have ht : evE (callAll tab 25) (.tup (.cons (.cst (.int 0)) (.cons (.cst (.int 0)) (.cons (.cst (.int 0)) (.cons (.cst (.int 0)) (.cons (.cst (.int 0)) (.cons (.cst (.int 1)) (.cons (.cst (.int 1)) (.cons (.cst (.int 0)) (.cons (.cst (.int 2)) (.cons (.cst (.int 2)) (.cons (.cst (.int 1)) .nil)))))))))))) fz [some (.obj r), some (.int (m : Nat)), some (.int (s : Nat)), none, none] (st.set r (poolC cells (s + 1))) = some (.tup (tblL.map .int), st.set r (poolC cells (s + 1))) :=
        eTup (xs := tblL.map .int) (lCons eCst (lCons eCst (lCons eCst (lCons eCst (lCons eCst (lCons eCst (lCons eCst (lCons eCst (l3 eCst eCst eCst))))))))) (by show 11 < lim; decide)
      exact xRet (eBin (eIdx ht (eBin (eVar rfl) eCst h11) h5) (eVar rfl) (hmod hv))
theorem items_range {n : Nat} (h : n ≤ 10000) (st : St) : items .range (.int (n : Nat)) st = some ((List.range n).map fun i => .int (i : Nat)) := by
  show (if (0 : Int) ≤ (n : Int) ∧ (n : Int) ≤ 10000 then some ((List.range (n : Int).toNat).map fun (i : Nat) => D.int (i : Nat)) else none) = _
  rw [if_pos ⟨by lia, by lia⟩, Int.toNat_natCast]
theorem bltD_len_ilst (xs : List D) (st : St) (h : xs.length < lim) : bltD .len [.ilst xs] st = some (.int xs.length, st) := by
  rw [bLenI, if_pos h]
theorem powers_spec {N : Nat} (hN : 26 < N) {fz : List Nat} {st : St} {n : Nat} (hn : n ≤ 100) (ds : List Nat) (hds : ds.length ≤ 100) :
    callAll tab N fz 26 [.int (n : Nat), .tup (ds.map fun d => .int (d : Nat))] st = some (pw (lpow n ds), st) := by
  rw [callAll_at (fn := f__law_powers) rfl N hN]
  refine runFn_ret rfl (ρ' := [some (.int (n : Nat)), some (.tup (ds.map fun d => .int (d : Nat))), none, none]) (exS_ret ?_)
  have h1 : evE (callAll tab 26) (.lcomp [none, none, none, some 1] [1] .range (.var 0) .nil (.blt .len (.cons (.lcomp [none, none, some 1] [1] .plain (.var 3) (.cmp .eq (.var 1) (.var 2)) (.cst (.int 1))) .nil))) fz [some (.int (n : Nat)), some (.tup (ds.map fun d => .int (d : Nat))), none, none] st = some (.ilst ((lpow n ds).map .int), st) := by
    rw [evE_lcomp (L := List.range n) (enc := fun i => .int (i : Nat)) (g := fun i => .int ((ds.filter fun d => decide (d = i)).length : Nat)) (q := fun _ => true) (d := .int (n : Nat)) (st1 := st) (eVar rfl) (items_range (by lia) st) (by rw [lim_eq]; simp; lia) (by
      intro i hi
      refine ⟨[none, some (.int (i : Nat)), none, some (.tup (ds.map fun d => .int (d : Nat)))], rfl, eTrue, fun _ => ?_⟩
      have h2 : evE (callAll tab 26) (.lcomp [none, none, some 1] [1] .plain (.var 3) (.cmp .eq (.var 1) (.var 2)) (.cst (.int 1))) (fzOf (.int (n : Nat)) fz) [none, some (.int (i : Nat)), none, some (.tup (ds.map fun d => .int (d : Nat)))] st = some (.ilst ((ds.filter fun d => decide (d = i)).map fun _ => .int 1), st) := by
        rw [evE_lcomp (L := ds) (enc := fun d => .int (d : Nat)) (g := fun _ => .int 1) (q := fun d => decide (d = i)) (d := .tup (ds.map fun d => .int (d : Nat))) (st1 := st) (eVar rfl) (items_plain_tup _ _) (by rw [lim_eq]; lia) fun d hd => ⟨[none, some (.int (d : Nat)), some (.int (i : Nat))], rfl, eCmp (eVar rfl) (eVar rfl) ((cmpD_eq_int st d i).trans (congrArg some (decide_eq_decide.mpr Int.natCast_inj))), fun _ => eCst⟩]
      have h3 := bltD_len_ilst ((ds.filter fun d => decide (d = i)).map fun _ => D.int 1) st (by
        have := List.length_filter_le (fun d => decide (d = i)) ds
        rw [List.length_map, lim_eq]; lia)
      rw [List.length_map] at h3
      exact eBlt (l1 h2) h3), filter_true]
    simp [lpow]
  have h4 : bltD .tuple [.ilst ((lpow n ds).map .int)] st = some (pw (lpow n ds), st) := by
    rw [bltD_tuple, List.length_map, lpow_length, if_pos (by rw [lim_eq]; lia)]; rfl
  show exS (callAll tab 26) (.ret (.blt .tuple (.cons (.lcomp [none, none, none, some 1] [1] .range (.var 0) .nil (.blt .len (.cons (.lcomp [none, none, some 1] [1] .plain (.var 3) (.cmp .eq (.var 1) (.var 2)) (.cst (.int 1))) .nil))) .nil))) fz _ st = _
  exact xRet (eBlt (l1 h1) h4)
theorem pts_length (p : Nat) : ∀ n, (pts p n).length = p ^ n
  | 0 => rfl
  | n + 1 => by
    have : ∀ (L : List (List Int)), (L.flatMap fun x => (List.range p).map fun (i : Nat) => x ++ [(i : Int)]).length = L.length * p := by
      intro L
      induction L with
      | nil => simp
      | cons x r ih => rw [List.flatMap_cons, List.length_append, ih, List.length_cons, Nat.add_mul]; simp; lia
    rw [pts, this, pts_length p n, Nat.pow_succ]
theorem pts_mem_len (p : Nat) : ∀ n, ∀ x ∈ pts p n, x.length = n ∧ ∀ i ∈ x, 0 ≤ i ∧ i < p
  | 0, x, h => by simp [pts] at h; subst h; simp
  | n + 1, x, h => by
    simp only [pts, List.mem_flatMap, List.mem_map, List.mem_range] at h
    obtain ⟨y, hy, i, hi, rfl⟩ := h
    obtain ⟨h1, h2⟩ := pts_mem_len p n y hy
    refine ⟨by simp [h1], ?_⟩
    intro j hj
    rcases List.mem_append.mp hj with q | q
    · exact h2 j q
    · simp at q; subst q; lia
theorem points_spec {N : Nat} (hN : 27 < N) {fz : List Nat} {st : St} {n p : Nat} (hf : isForm p n) :
    callAll tab N fz 27 [.int (p : Nat), .int (n : Nat)] st = some (.ilst ((pts p n).map pw), st) := by
  rw [callAll_at (fn := f__law_points) rfl N hN]
  have hp : 2 ≤ p ∧ p ≤ 3 ∧ n ≤ 5 ∧ p ^ n ≤ 1000 := by rcases hf with h | h | h | h | h <;> obtain ⟨rfl, rfl⟩ := h <;> decide
  have key := forL_list (fun x ρ st => (bindT [3] x ρ).bind fun ρ' => exS (callAll tab 27) (.cons (.assign 2 (.lcomp2 [none, none, none, none, some 0] [1] .plain (.var 2) [2] .range (.var 4) (.bin .add (.var 1) (.tup (.cons (.var 2) .nil))))) .nil) (fzOf (.int (n : Nat)) fz) ρ' st) (fun i : Nat => .int (i : Nat))
    (fun pre ρ s => (∃ tv, ρ = [some (.int (p : Nat)), some (.int (n : Nat)), some (.ilst ((pts p pre.length).map pw)), tv, none]) ∧ s = st) (List.range n)
    (by
      rintro pre i post ρ s hw ⟨⟨tv, rfl⟩, rfl⟩
      refine ⟨[some (.int (p : Nat)), some (.int (n : Nat)), some (.ilst ((pts p (pre ++ [i]).length).map pw)), some (.int (i : Nat)), none], s, ?_, ⟨_, rfl⟩, rfl⟩
      have hlen : pre.length < n := by
        have : (List.range n).length = pre.length + (post.length + 1) := by rw [hw]; simp
        rw [List.length_range] at this; lia
      have hpow : p ^ (pre.length + 1) ≤ p ^ n := Nat.pow_le_pow_right (by lia) (by lia)
      have hflat : (pts p (pre ++ [i]).length).map pw = (pts p pre.length).flatMap fun x => (List.range p).map fun (j : Nat) => pw (x ++ [(j : Int)]) := by
        rw [List.length_append, List.length_singleton, pts, List.map_flatMap]
        simp [Function.comp_def]
      have h1 : evE (callAll tab 27) (.lcomp2 [none, none, none, none, some 0] [1] .plain (.var 2) [2] .range (.var 4) (.bin .add (.var 1) (.tup (.cons (.var 2) .nil)))) (fzOf (.int (n : Nat)) fz) [some (.int (p : Nat)), some (.int (n : Nat)), some (.ilst ((pts p pre.length).map pw)), some (.int (i : Nat)), none] s = some (.ilst ((pts p (pre ++ [i]).length).map pw), s) := by
        rw [hflat, evE_lcomp2 (L := pts p pre.length) (enc := pw) (M := fun _ => List.range p) (enc2 := fun (j : Nat) => .int (j : Nat)) (g := fun x j => pw (x ++ [(j : Int)])) (d := .ilst ((pts p pre.length).map pw)) (st1 := s) (eVar rfl) (items_plain_ilst _ _) (by
          intro x hx
          have hxl := (pts_mem_len p _ x hx).1
          refine ⟨[none, some (pw x), none, none, some (.int (p : Nat))], .int (p : Nat), rfl, eVar rfl, items_range (by lia) s, fun j hj => ⟨[none, some (pw x), some (.int (j : Nat)), none, some (.int (p : Nat))], rfl, ?_⟩⟩
          have hb : binD .add (pw x) (.tup [.int (j : Nat)]) = some (pw (x ++ [(j : Int)])) := by
            rw [pw, binD_tup (by rw [List.length_map, lim_eq]; simp; lia)]; simp [pw]
          exact eBin (eVar rfl) (eTup1 (eVar rfl)) hb) (by rw [← hflat, List.length_map, pts_length, List.length_append, List.length_singleton, lim_eq]; lia)]
      refine bindX (bindT_1 ..) ?_
      refine Eq.trans (exS_next (ss := .nil) ?_) rfl
      · show exS (callAll tab 27) (.assign 2 _) _ [some (.int (p : Nat)), some (.int (n : Nat)), some (.ilst ((pts p pre.length).map pw)), some (.int (i : Nat)), none] s = _
        exact mS h1)
    (List.range n) [] [some (.int (p : Nat)), some (.int (n : Nat)), some (.ilst [.tup []]), none, none] st rfl ⟨⟨_, rfl⟩, rfl⟩
  obtain ⟨ρ', st', h1, ⟨tv, rfl⟩, rfl⟩ := key
  rw [List.length_range] at h1
  refine runFn_ret rfl (ρ' := [some (.int (p : Nat)), some (.int (n : Nat)), some (.ilst ((pts p n).map pw)), tv, none]) ?_
  refine Eq.trans (exS_next (ρ' := [some (.int (p : Nat)), some (.int (n : Nat)), some (.ilst [.tup []]), none, none]) (st' := st') ?_) ?_
  · exact xAssign (eListI (l1 (eTup lNil (by show 0 < lim; decide))) (by show 1 < lim; decide))
  exact Eq.trans (exS_next (exS_for (d := .int (n : Nat)) (eVar rfl) (items_range (by lia) _) h1)) (exS_ret (xRet (eVar rfl)))
end Mine
end
section
open PySem
set_option maxRecDepth 100000
set_option linter.unusedVariables false
set_option linter.unusedSimpArgs false
set_option linter.unusedSectionVars false
namespace Mine
/-- worth of a polynomial at a point -/
theorem intBin_pow {a : Int} {k : Int} (hk : 0 ≤ k) (hk' : k ≤ 64) (ha : a.natAbs ≤ 4) : intBin .pow a k = some (a ^ k.toNat) := if_pos ⟨hk, hk', ha⟩
theorem pow_small {x k : Int} (hx : x.natAbs ≤ 2) (hk : k ≤ 4) : (x ^ k.toNat).natAbs ≤ 16 := by
  rw [Int.natAbs_pow]
  refine Nat.le_trans (Nat.pow_le_pow_left hx _) ?_
  exact Nat.le_trans (Nat.pow_le_pow_right (by lia) (show k.toNat ≤ 4 by lia)) (by decide)
noncomputable def wInner : S := (.cons (.assign 5 (.bin .mul (.var 5) (.bin .pow (.idx (.var 1) (.var 6)) (.var 7)))) .nil)
theorem worth_inner {N : Nat} {fz : List Nat} {st : St} {x : List Int} {a1 a3 a4 a5 : Option D} (hxl : x.length ≤ 5) (hx : ∀ i ∈ x, i.natAbs ≤ 2) (ks : List Int) : ∀ (xs pre : List Int) (c : Int) (u v : Option D), x = pre ++ xs → ks.length = xs.length → (∀ k ∈ ks, 0 ≤ k ∧ k ≤ 4) → c.natAbs * 16 ^ ks.length < 2 ^ 60 →
    ∃ u' v', forL (fun x ρ st => (bindT [6, 7] x ρ).bind fun ρ' => exS (callAll tab N) wInner fz ρ' st) (enumFrom pre.length (ks.map .int)) [a1, some (pw x), a3, a4, a5, some (.int c), u, v, none] st = some (.next, [a1, some (pw x), a3, a4, a5, some (.int (c * mono xs ks)), u', v', none], st) := by
  induction ks with
  | nil =>
    intro xs pre c u v _ hl _ _
    obtain rfl := List.eq_nil_of_length_eq_zero hl.symm
    exact ⟨u, v, by rw [show mono [] [] = 1 from rfl, Int.mul_one]; rfl⟩
  | cons k ks ih0 =>
    intro xs pre c u v hp hl hk hb
    rcases xs with _ | ⟨y, xs⟩
    · exact absurd hl (Nat.succ_ne_zero _)
    obtain ⟨hk0, hk4⟩ := hk k List.mem_cons_self
    have hy : y.natAbs ≤ 2 := hx y (by rw [hp]; simp)
    have hps := pow_small hy hk4
    have hplen : pre.length < 5 := by rw [hp] at hxl; simp at hxl; lia
    have hsub : subD st (pw x) (.int (pre.length : Nat)) = some (.int y) := by
      rw [pw, subD_tup (by lia), hp]; simp
    have hc : c.natAbs < 2 ^ 60 := by
      refine Nat.lt_of_le_of_lt ?_ hb
      exact Nat.le_mul_of_pos_right _ (Nat.pow_pos (by decide))
    have hcm : intBin .mul c (y ^ k.toNat) = some (c * y ^ k.toNat) := intBin_mul (by lia) (by lia)
    have hcp := intBin_pow hk0 (show k ≤ 64 by lia) (show y.natAbs ≤ 4 by lia)
    obtain ⟨u', v', ih⟩ := ih0 xs (pre ++ [y]) (c * y ^ k.toNat) (some (.int (pre.length : Nat))) (some (.int k)) (by rw [hp]; simp) (by simpa using hl) (fun z hz => hk z (List.mem_cons_of_mem _ hz)) (by
      refine Nat.lt_of_le_of_lt ?_ hb
      rw [Int.natAbs_mul, List.length_cons, Nat.pow_succ, Nat.mul_comm (16 ^ ks.length), ← Nat.mul_assoc]
      exact Nat.mul_le_mul_right _ (Nat.mul_le_mul_left _ hps))
    refine ⟨u', v', ?_⟩
    rw [List.length_append, List.length_singleton] at ih
    have b1 : binD .pow (.int y) (.int k) = some (.int (y ^ k.toNat)) := by rw [binD_int, hcp]; rfl
    have b2 : binD .mul (.int c) (.int (y ^ k.toNat)) = some (.int (c * y ^ k.toNat)) := by rw [binD_int, hcm]; rfl
    rw [mono, ← Int.mul_assoc]
    exact forL_next (bindX (bindT_2 ..) (exS_next (ss := .nil) (xAssign (eBin (eVar rfl) (eBin (eIdx (eVar rfl) (eVar rfl) hsub) (eVar rfl) b1) b2)))) ih
noncomputable def wOuter : S := (.cons (.assign 5 (.idx (.idx (.var 0) (.var 4)) (.cst (.int 0))))
 (.cons (.fore [6, 7] .enum (.var 4) wInner)
 (.cons (.assign 3 (.bin .add (.var 3) (.var 5)))
 .nil)))
theorem worth_spec {N : Nat} (hN : 28 < N) {fz : List Nat} {st : St} {f p : Nat} {P : Po} {x : List Int} (hf : st[f]? = some (.dic (toD P))) (hn : (keys P).Nodup) (hp : 0 < p) (hxl : x.length ≤ 5) (hx : ∀ i ∈ x, i.natAbs ≤ 2)
    (hk : ∀ e ∈ P, e.1.length = x.length ∧ e.2.natAbs ≤ 100 ∧ ∀ k ∈ e.1, 0 ≤ k ∧ k ≤ 4) : callAll tab N fz 28 [.obj f, pw x, .int (p : Nat)] st = some (.int (ev x P % p), st) := by
  rw [callAll_at (fn := f__law_worth) rfl N hN]
  have key := forL_list (fun y ρ st => (bindT [4] y ρ).bind fun ρ' => exS (callAll tab 28) wOuter (fzOf (.obj f) fz) ρ' st) (fun e : List Int × Int => pw e.1)
    (fun pre ρ s => (∃ v4 v5 v6 v7, ρ = [some (.obj f), some (pw x), some (.int (p : Nat)), some (.int (ev x pre)), v4, v5, v6, v7, none]) ∧ s = st) P
    (by
      rintro pre e post ρ s hw ⟨⟨v4, v5, v6, v7, rfl⟩, rfl⟩
      have hmem : e ∈ P := by rw [hw]; simp
      obtain ⟨h1, h2, h3⟩ := hk e hmem
      have hg := subD_po hf (get_split hw hn)
      have h16 : e.2.natAbs * 16 ^ e.1.length < 2 ^ 60 := by
        have : 16 ^ e.1.length ≤ 16 ^ 5 := Nat.pow_le_pow_right (by decide) (by lia)
        refine Nat.lt_of_le_of_lt (Nat.mul_le_mul h2 this) (by decide)
      obtain ⟨u', v', hi⟩ := worth_inner (N := 28) (fz := fzOf (pw e.1) (fzOf (.obj f) fz)) (st := s) (x := x) (a1 := some (.obj f)) (a3 := some (.int (p : Nat))) (a4 := some (.int (ev x pre))) (a5 := some (pw e.1)) hxl hx e.1 x [] e.2 v6 v7 rfl h1 h3 h16
      refine ⟨[some (.obj f), some (pw x), some (.int (p : Nat)), some (.int (ev x (pre ++ [e]))), some (pw e.1), some (.int (e.2 * mono x e.1)), u', v', none], s, ?_, ⟨_, _, _, _, rfl⟩, rfl⟩
      refine bindX (bindT_1 ..) ?_
      refine Eq.trans (exS_next (ρ' := [some (.obj f), some (pw x), some (.int (p : Nat)), some (.int (ev x pre)), some (pw e.1), some (.int e.2), v6, v7, none]) (st' := s) ?_) ?_
      · exact xAssign (eIdx (eIdx (eVar rfl) (eVar rfl) hg) eCst (subD_tup0 ..))
      refine Eq.trans (exS_next (exS_for (d := pw e.1) (eVar rfl) (items_enum_tup _ _) hi)) ?_
      rw [ev_append, ev_cons, ev_nil, Int.add_zero]
      exact exS_next (ss := .nil) (xAssign (eBin (eVar rfl) (eVar rfl) rfl)))
    P [] [some (.obj f), some (pw x), some (.int (p : Nat)), some (.int 0), none, none, none, none, none] st rfl ⟨⟨_, _, _, _, rfl⟩, rfl⟩
  obtain ⟨ρ', st', h1, ⟨v4, v5, v6, v7, rfl⟩, rfl⟩ := key
  have hp0 : ¬ (p = 0) := by lia
  have hfm : Int.fmod (ev x P) (p : Int) = ev x P % (p : Int) := Int.fmod_eq_emod_of_nonneg _ (by lia)
  refine runFn_ret rfl (ρ' := [some (.obj f), some (pw x), some (.int (p : Nat)), some (.int (ev x P)), v4, v5, v6, v7, none]) ?_
  refine Eq.trans (exS_next (ρ' := [some (.obj f), some (pw x), some (.int (p : Nat)), some (.int 0), none, none, none, none, none]) (st' := st') ?_) ?_
  · exact xAssign eCst
  have hmod : binD .mod (.int (ev x P)) (.int (p : Nat)) = some (.int (ev x P % p)) := by rw [binD_int, intBin_mod, if_neg (by lia), hfm]; rfl
  exact Eq.trans (exS_next (exS_for (d := .obj f) (eVar rfl) (items_po hf) h1)) (exS_ret (xRet (eBin (eVar rfl) (eVar rfl) hmod)))
end Mine
end
section
open PySem
set_option maxRecDepth 100000
set_option linter.unusedVariables false
set_option linter.unusedSimpArgs false
set_option linter.unusedSectionVars false
namespace Mine
noncomputable def toI (F : Po) : List (List Int × D) := F.map fun e => (e.1, .int e.2)
noncomputable def fput : Po → List Int → Int → Po
  | [], k, c => [(k, c)]
  | e :: r, k, c => if e.1 = k then (k, c) :: r else e :: fput r k c
theorem dget_toI (P : Po) (k : List Int) : dget (toI P) k = (pget P k).map .int := by
  induction P with
  | nil => rfl
  | cons e r ih =>
    simp only [dget, pget, toI, List.map_cons, List.find?_cons] at ih ⊢
    by_cases h : e.1 = k <;> simp [h]
    simpa using ih
theorem map_noneI {P : Po} {k : List Int} (h : k ∉ keys P) (v : D) : (toI P).map (fun e => if e.1 = k then (e.1, v) else e) = toI P := by
  rw [← List.map_id (toI P), List.map_map]
  apply List.map_congr_left
  intro e he
  simp only [toI, List.mem_map] at he
  obtain ⟨x, hx, rfl⟩ := he
  have : x.1 ≠ k := by rintro rfl; exact h (List.mem_map.mpr ⟨x, hx, rfl⟩)
  simp [this]
theorem dput_toI {P : Po} (hn : (keys P).Nodup) (k : List Int) (c : Int) : dput (toI P) k (.int c) = toI (fput P k c) := by
  induction P with
  | nil => rfl
  | cons e r ih =>
    simp only [keys, List.map_cons, List.nodup_cons] at hn
    have ih := ih hn.2
    rw [dput] at ih ⊢
    rw [dget_toI] at ih ⊢
    by_cases hk : e.1 = k
    · subst hk
      have h2 := map_noneI hn.1 (.int c)
      rw [fput, if_pos rfl]
      simp only [pget, List.find?_cons, decide_true, Option.map_some, Option.isSome_some, if_true]
      simp only [toI, List.map_cons, if_true] at h2 ⊢
      rw [h2]
    · rw [fput, if_neg hk]
      have hg : pget (e :: r) k = pget r k := by simp [pget, hk]
      rw [hg]
      by_cases hs : ((pget r k).map D.int).isSome = true
      · rw [if_pos hs] at ih ⊢
        simp only [toI, List.map_cons, hk, if_false] at ih ⊢
        rw [ih]
      · rw [if_neg hs] at ih ⊢
        simp only [toI, List.map_cons, List.cons_append] at ih ⊢
        rw [ih]
theorem keys_fput {P : Po} {k : List Int} {c : Int} {j : List Int} (h : j ∈ keys (fput P k c)) : j = k ∨ j ∈ keys P := by
  induction P with
  | nil => simp [fput, keys] at h; exact .inl h
  | cons e r ih =>
    rw [fput] at h
    split at h
    · simp only [keys, List.map_cons, List.mem_cons] at h ⊢
      rcases h with h | h
      · exact .inl h
      · exact .inr (.inr h)
    · simp only [keys, List.map_cons, List.mem_cons] at h ⊢ ih
      rcases h with h | h
      · exact .inr (.inl h)
      · rcases ih h with h | h
        · exact .inl h
        · exact .inr (.inr h)
theorem nodup_fput {P : Po} (hn : (keys P).Nodup) (k : List Int) (c : Int) : (keys (fput P k c)).Nodup := by
  induction P with
  | nil => simp [fput, keys]
  | cons e r ih =>
    have hn' := hn
    simp only [keys, List.map_cons, List.nodup_cons] at hn
    rw [fput]
    split
    · rename_i hk; subst hk; exact hn'
    · rename_i hk
      simp only [keys, List.map_cons, List.nodup_cons]
      refine ⟨fun q => ?_, ih hn.2⟩
      rcases keys_fput q with q | q
      · exact hk q
      · exact hn.1 q
theorem len_fput (P : Po) (k : List Int) (c : Int) : (fput P k c).length ≤ P.length + 1 := by
  induction P with
  | nil => simp [fput]
  | cons e r ih => rw [fput]; split <;> simp <;> lia
theorem ev_fput (x : List Int) (P : Po) (k : List Int) (c : Int) : ev x (fput P k c) = ev x P + (c - (pget P k).getD 0) * mono x k := by
  induction P with
  | nil => simp [fput, ev, pget]
  | cons e r ih =>
    rw [fput]
    by_cases hk : e.1 = k
    · subst hk
      rw [if_pos rfl, ev_cons, ev_cons]
      simp only [pget, List.find?_cons, decide_true, Option.map_some, Option.getD_some]
      rw [Int.sub_mul]; lia
    · rw [if_neg hk, ev_cons, ih, ev_cons]
      have hg : pget (e :: r) k = pget r k := by simp [pget, hk]
      rw [hg]; lia
theorem pget_fput (P : Po) (k : List Int) (c : Int) (j : List Int) : pget (fput P k c) j = if j = k then some c else pget P j := by
  induction P with
  | nil =>
    by_cases h : j = k
    · subst h; simp [fput, pget]
    · have : ¬ k = j := fun q => h q.symm
      simp [fput, pget, h, this]
  | cons e r ih =>
    rw [fput]
    by_cases hk : e.1 = k
    · subst hk
      rw [if_pos rfl]
      by_cases h : j = e.1
      · subst h; simp [pget]
      · have : ¬ e.1 = j := fun q => h q.symm
        simp [pget, h, this]
    · rw [if_neg hk]
      by_cases h : e.1 = j
      · subst h; simp [pget, hk]
      · have h1 : pget (e :: fput r k c) j = pget (fput r k c) j := by simp [pget, h]
        have h2 : pget (e :: r) j = pget r j := by simp [pget, h]
        rw [h1, h2, ih]
/-- what the draws add up to -/
noncomputable def fstF (p : Nat) (T : Po) : Po := T.foldl (fun F t => fput F t.1 (((pget F t.1).getD 0 + t.2) % p)) []
theorem fstF_snoc (p : Nat) (T : Po) (t : List Int × Int) : fstF p (T ++ [t]) = fput (fstF p T) t.1 (((pget (fstF p T) t.1).getD 0 + t.2) % p) := by simp [fstF]
noncomputable def TOk (p n : Nat) (T : Po) : Prop := ∀ t ∈ T, (∃ i j : Nat, i ≤ n ∧ j ≤ n ∧ t.1 = lpow n [i, j]) ∧ 1 ≤ t.2 ∧ t.2 ≤ (p : Int) - 1
theorem fst_nodup (p : Nat) (T : Po) : (keys (fstF p T)).Nodup := by
  have : ∀ (T F : Po), (keys F).Nodup → (keys (T.foldl (fun F t => fput F t.1 (((pget F t.1).getD 0 + t.2) % p)) F)).Nodup := by
    intro T
    induction T with
    | nil => intro F h; exact h
    | cons t T ih => intro F h; exact ih _ (nodup_fput h _ _)
  exact this T [] List.nodup_nil
theorem fst_len (p : Nat) (T : Po) : (fstF p T).length ≤ T.length := by
  have : ∀ (T F : Po), (T.foldl (fun F t => fput F t.1 (((pget F t.1).getD 0 + t.2) % p)) F).length ≤ F.length + T.length := by
    intro T
    induction T with
    | nil => intro F; simp
    | cons t T ih =>
      intro F
      refine Nat.le_trans (ih _) ?_
      have := len_fput F t.1 (((pget F t.1).getD 0 + t.2) % p)
      simp only [List.length_cons]; lia
  have := this T []
  rw [List.length_nil, Nat.zero_add] at this
  exact this
theorem set_append_old (st : St) (r : Nat) (X : Cont) (Y : List Cont) (h : r < st.length) : (st ++ Y).set r X = st.set r X ++ Y := by
  rw [List.set_append_left _ _ h]
theorem get_dic {st : St} {r : Nat} {F : Po} (h : st[r]? = some (.dic (toI F))) (fz : List Nat) (k : List Int) (d : Int) : methD fz .get (.obj r) [pw k, .int d] st = some (.int ((pget F k).getD d), st) := by
  rw [mGet, h]
  show (keyOf (pw k)).map _ = _
  rw [keyOf_pw, Option.map_some, dget_toI]
  cases pget F k <;> rfl
theorem fitsM_get {st : St} {r : Nat} {es : List (List Int × D)} (h : st[r]? = some (.dic es)) : fitsM .get (.obj r) st = true := by
  show ((st[r]?).bind (cDic fun _ => some ())).isSome = true
  rw [h]; rfl
noncomputable def foBody : S := (.cons (.assignT [5, 6] (.tup (.cons (.call 25 (.cons (.var 0) (.cons (.bin .add (.var 2) (.cst (.int 1))) .nil))) (.cons (.call 25 (.cons (.var 0) (.cons (.bin .add (.var 2) (.cst (.int 1))) .nil))) .nil))))
 (.cons (.assign 7 (.call 26 (.cons (.var 2) (.cons (.tup (.cons (.var 5) (.cons (.var 6) .nil))) .nil))))
 (.cons (.setItem (.var 3) (.var 7) (.bin .mod (.bin .add (.bin .add (.meth .get (.var 3) (.cons (.var 7) (.cons (.cst (.int 0)) .nil))) (.cst (.int 1))) (.call 25 (.cons (.var 0) (.cons (.bin .sub (.var 1) (.cst (.int 1))) .nil)))) (.var 1)))
 .nil)))
theorem first_of_spec {N : Nat} (hN : 29 < N) {fz : List Nat} {st : St} {r s n p : Nat} {cells : List Int} (hr : st[r]? = some (poolC cells s)) (hfz : ∀ q ∈ fz, q ≠ r ∧ q < st.length) (hs : s ≤ 50) (hc : cells.length ≤ 100) (hp : 2 ≤ p) (hn : n ≤ 5) :
    ∃ T, T.length = 3 ∧ TOk p n T ∧ callAll tab N fz 29 [.obj r, .int (p : Nat), .int (n : Nat)] st =
      some (.obj (st.length + 1), (st.set r (poolC cells (s + 9))) ++ [.dic (toI (fstF p T)), .dic (toD ((fstF p T).filter fun e => !decide (e.2 = 0)))]) := by
  have hrl := lt_of_get hr
  have hp0 : ¬ (p = 0) := by lia
  have step : ∀ (j : Nat) (T : Po) (x4 x5 x6 x7 : Option D) (i : Nat), s + 3 * j ≤ 90 → T.length ≤ 10 → ∃ t : List Int × Int, TOk p n [t] ∧ ∃ y5 y6 y7,
      ((bindT [4] (.int (i : Nat)) [some (.obj r), some (.int (p : Nat)), some (.int (n : Nat)), some (.obj st.length), x4, x5, x6, x7, none, none, none]).bind fun ρ' => exS (callAll tab 29) foBody fz ρ' (st.set r (poolC cells (s + 3 * j)) ++ [.dic (toI (fstF p T))])) =
      some (.next, [some (.obj r), some (.int (p : Nat)), some (.int (n : Nat)), some (.obj st.length), some (.int (i : Nat)), y5, y6, y7, none, none, none], st.set r (poolC cells (s + 3 * j + 3)) ++ [.dic (toI (fstF p (T ++ [t])))]) := by
    intro j T x4 x5 x6 x7 i hj hT
    have hX : ∀ (s : Nat) (Y : Cont), ((st.set r (poolC cells s)) ++ [Y])[r]? = some (poolC cells s) := fun s Y => get_old _ (get_set_self _ hr)
    have hset : ∀ (s s' : Nat) (Y : Cont), ((st.set r (poolC cells s)) ++ [Y]).set r (poolC cells s') = st.set r (poolC cells s') ++ [Y] := by
      intro s s' Y; rw [set_append_old _ _ _ _ (by simpa using hrl)]; simp
    have hnf : r ∉ fz := fun q => (hfz r q).1 rfl
    obtain ⟨a, ha, d1⟩ := draw_spec (N := 29) (by lia) (fz := fz) (hX (s + 3 * j) (.dic (toI (fstF p T)))) hnf (by lia) hc (m := n + 1) (by lia)
    rw [hset] at d1
    obtain ⟨b, hb, d2⟩ := draw_spec (N := 29) (by lia) (fz := fz) (hX (s + 3 * j + 1) (.dic (toI (fstF p T)))) hnf (by lia) hc (m := n + 1) (by lia)
    rw [hset] at d2
    obtain ⟨v, hv, d3⟩ := draw_spec (N := 29) (by lia) (fz := fz) (hX (s + 3 * j + 1 + 1) (.dic (toI (fstF p T)))) hnf (by lia) hc (m := p - 1) (by lia)
    rw [hset] at d3
    have hp1 : ((p - 1 : Nat) : Int) = (p : Int) - 1 := by lia
    have hn1 : ((n + 1 : Nat) : Int) = (n : Int) + 1 := by lia
    rw [hp1] at d3
    rw [hn1] at d1 d2
    refine ⟨(lpow n [a, b], 1 + (v : Int)), ?_, some (.int (a : Nat)), some (.int (b : Nat)), some (pw (lpow n [a, b])), ?_⟩
    · intro t ht
      simp only [List.mem_singleton] at ht
      subst ht
      exact ⟨⟨a, b, by lia, by lia, rfl⟩, by show (1 : Int) ≤ 1 + v; lia, by show (1 : Int) + v ≤ p - 1; lia⟩
    have hgl : ∀ s', (st.set r (poolC cells s') ++ [Cont.dic (toI (fstF p T))])[st.length]? = some (.dic (toI (fstF p T))) := by
      intro s'
      have : st.length = (st.set r (poolC cells s')).length := by simp
      conv => lhs; rw [this]
      exact get_last _ _
    have g1 := get_dic (hgl (s + 3 * j + 1 + 1)) fz (lpow n [a, b]) 0
    have g2 := fitsM_get (hgl (s + 3 * j + 1 + 1))
    have p1 := powers_spec (N := 29) (by lia) (fz := fz) (st := st.set r (poolC cells (s + 3 * j + 1 + 1)) ++ [.dic (toI (fstF p T))]) (n := n) (by lia) [a, b] (by simp)
    have hFl := fst_len p T
    have i1 := setItemD_dic (hgl (s + 3 * j + 1 + 1 + 1)) (fz := fz) (fun q => by have := (hfz _ q).2; lia) (by simp only [toI, List.length_map]; rw [lim_eq]; lia) (lpow n [a, b]) (.int (((pget (fstF p T) (lpow n [a, b])).getD 0 + (1 + (v : Int))) % p))
    rw [dput_toI (fst_nodup p T), ← fstF_snoc p T (lpow n [a, b], 1 + (v : Int))] at i1
    have hsl : (st.set r (poolC cells (s + 3 * j + 1 + 1 + 1)) ++ [Cont.dic (toI (fstF p T))]).set st.length (.dic (toI (fstF p (T ++ [(lpow n [a, b], 1 + (v : Int))])))) = st.set r (poolC cells (s + 3 * j + 3)) ++ [.dic (toI (fstF p (T ++ [(lpow n [a, b], 1 + (v : Int))])))] := by
      have : st.length = (st.set r (poolC cells (s + 3 * j + 1 + 1 + 1))).length := by simp
      conv => lhs; rw [this]
      rw [set_last]
    rw [hsl] at i1
    have hfm : ∀ z : Int, Int.fmod z (p : Int) = z % (p : Int) := fun z => Int.fmod_eq_emod_of_nonneg _ (by lia)
    refine bindX (bindT_1 ..) ?_
    refine Eq.trans (exS_next (ρ' := [some (.obj r), some (.int (p : Nat)), some (.int (n : Nat)), some (.obj st.length), some (.int (i : Nat)), some (.int (a : Nat)), some (.int (b : Nat)), x7, none, none, none]) (st' := st.set r (poolC cells (s + 3 * j + 1 + 1)) ++ [.dic (toI (fstF p T))]) ?_) ?_
    · exact xAssignT (eTup2 (eCall (l2 (eVar rfl) (eBin (eVar rfl) eCst rfl)) d1) (eCall (l2 (eVar rfl) (eBin (eVar rfl) eCst rfl)) d2)) rfl
    refine Eq.trans (exS_next (ρ' := [some (.obj r), some (.int (p : Nat)), some (.int (n : Nat)), some (.obj st.length), some (.int (i : Nat)), some (.int (a : Nat)), some (.int (b : Nat)), some (pw (lpow n [a, b])), none, none, none]) (st' := st.set r (poolC cells (s + 3 * j + 1 + 1)) ++ [.dic (toI (fstF p T))]) ?_) ?_
    · exact xAssign (eCall (l2 (eVar rfl) (eTup2 (eVar rfl) (eVar rfl))) p1)
    refine Eq.trans (exS_next (ss := .nil) ?_) rfl
    rw [← Int.add_assoc] at i1
    have hm : ∀ z : Int, binD .mod (.int z) (.int (p : Nat)) = some (.int (z % p)) := fun z => by rw [binD_int, intBin_mod, if_neg (by lia), hfm]; rfl
    exact xSet (eBin (eBin (eBin (eMeth (eVar rfl) g2 (l2 (eVar rfl) eCst) g1) eCst rfl) (eCall (l2 (eVar rfl) (eBin (eVar rfl) eCst rfl)) d3) rfl) (eVar rfl) (hm _)) (eVar rfl) (eVar rfl) i1
  have t3 : ∃ T, T.length = 3 ∧ TOk p n T ∧ ∃ ρ4, forL (fun x ρ st => (bindT [4] x ρ).bind fun ρ' => exS (callAll tab 29) foBody fz ρ' st) ((List.range 3).map fun (i : Nat) => .int (i : Nat)) [some (.obj r), some (.int (p : Nat)), some (.int (n : Nat)), some (.obj st.length), none, none, none, none, none, none, none] (st ++ [.dic []]) =
      some (.next, some (.obj r) :: some (.int (p : Nat)) :: some (.int (n : Nat)) :: some (.obj st.length) :: ρ4, st.set r (poolC cells (s + 9)) ++ [.dic (toI (fstF p T))]) := by
    obtain ⟨t0, k0, a5, a6, a7, e0⟩ := step 0 [] none none none none 0 (by lia) (by simp)
    obtain ⟨t1, k1, b5, b6, b7, e1⟩ := step 1 ([] ++ [t0]) (some (.int (0 : Nat))) a5 a6 a7 1 (by lia) (by simp)
    obtain ⟨t2, k2, c5, c6, c7, e2⟩ := step 2 ([] ++ [t0] ++ [t1]) (some (.int (1 : Nat))) b5 b6 b7 2 (by lia) (by simp)
    have hst0 : st.set r (poolC cells (s + 3 * 0)) ++ [Cont.dic (toI (fstF p []))] = st ++ [.dic []] := by
      rw [show s + 3 * 0 = s by lia, set_same hr]; rfl
    rw [hst0] at e0
    refine ⟨[] ++ [t0] ++ [t1] ++ [t2], rfl, ?_, [some (.int (2 : Nat)), c5, c6, c7, none, none, none], ?_⟩
    · intro t ht
      simp only [List.nil_append, List.cons_append, List.mem_cons, List.not_mem_nil, or_false] at ht
      rcases ht with rfl | rfl | rfl
      · exact k0 _ (by simp)
      · exact k1 _ (by simp)
      · exact k2 _ (by simp)
    · show forL _ [.int (0 : Nat), .int (1 : Nat), .int (2 : Nat)] _ _ = _
      exact forL_next e0 (forL_next e1 (forL_next e2 rfl))
  obtain ⟨T, hT3, hTok, ρ4, hloop⟩ := t3
  refine ⟨T, hT3, hTok, ?_⟩
  rw [callAll_at (fn := f__law_first_of) rfl N hN]
  have hFn := fst_nodup p T
  have hFl := fst_len p T
  generalize hF : fstF p T = F at *
  refine runFn_ret rfl (ρ' := some (.obj r) :: some (.int (p : Nat)) :: some (.int (n : Nat)) :: some (.obj st.length) :: ρ4) ?_
  refine Eq.trans (exS_next (ρ' := [some (.obj r), some (.int (p : Nat)), some (.int (n : Nat)), some (.obj st.length), none, none, none, none, none, none, none]) (st' := st ++ [.dic []]) ?_) ?_
  · exact xAssign eDict0
  refine Eq.trans (exS_next (exS_for (d := .int (3 : Nat)) eCst (items_range (by lia) _) hloop)) (exS_ret ?_)
  · have hgl : (st.set r (poolC cells (s + 9)) ++ [Cont.dic (toI F)])[st.length]? = some (.dic (toI F)) := by
      have : st.length = (st.set r (poolC cells (s + 9))).length := by simp
      conv => lhs; rw [this]
      exact get_last _ _
    have hsub : ∀ e ∈ F, subD (st.set r (poolC cells (s + 9)) ++ [Cont.dic (toI F)]) (.obj st.length) (pw e.1) = some (.int e.2) := by
      intro e he
      refine (bS hgl).trans ?_
      show (keyOf (pw e.1)).bind (dget (toI F)) = _
      rw [keyOf_pw, Option.bind_some, dget_toI, pget_of_mem hFn he]; rfl
    have hitems : items .plain (.obj st.length) (st.set r (poolC cells (s + 9)) ++ [Cont.dic (toI F)]) = some (F.map fun e => pw e.1) := by
      rw [items_dic hgl]; simp [toI]
    have hkn : (keys ((F.filter fun e => !decide (e.2 = 0)).map fun e => (e.1, e.2))).Nodup := by
      have : (F.filter fun e => !decide (e.2 = 0)).map (fun e => (e.1, e.2)) = F.filter fun e => !decide (e.2 = 0) := List.map_id _
      rw [this]
      exact hFn.sublist (List.Sublist.map _ List.filter_sublist)
    have hd := evE_dcomp (cf := callAll tab 29) (imps := [none, none, some 3]) (tgt := [1]) (k := .plain) (src := .var 3) (cond := .cmp .ne (.idx (.var 2) (.var 1)) (.cst (.int 0))) (key := .var 1) (val := .tup (.cons (.idx (.var 2) (.var 1)) (.cons (.cst (.int 1)) .nil))) (fz := fz) (ρ := some (.obj r) :: some (.int (p : Nat)) :: some (.int (n : Nat)) :: some (.obj st.length) :: ρ4) (st := st.set r (poolC cells (s + 9)) ++ [Cont.dic (toI F)])
      (L := F) (enc := fun e => pw e.1) (f := fun e => (e.1, e.2)) (w := fun e => rt e.2) (q := fun e => !decide (e.2 = 0)) (d := .obj st.length) (st1 := st.set r (poolC cells (s + 9)) ++ [Cont.dic (toI F)]) (eVar rfl) hitems (by rw [lim_eq]; lia) hkn (by
        intro e he
        have hs := hsub e he
        exact ⟨[none, some (pw e.1), some (.obj st.length)], rfl, eCmp (eIdx (eVar rfl) (eVar rfl) hs) eCst (cmpD_ne _ _ _), fun _ => ⟨eVar rfl, eTup2 (eIdx (eVar rfl) (eVar rfl) hs) eCst⟩⟩)
    refine (mS hd).trans ?_
    rw [List.append_assoc, List.length_append, List.length_set]; rfl
theorem lpow_ne_zero {p n : Nat} (hf : isForm p n) {i : Nat} (hi : i < n) : lpow n [i] ≠ List.replicate n 0 := by
  intro e
  have h := (turnOk_of hf hi).2.2.1
  rw [e] at h
  simp at h
noncomputable def secF (n i : Nat) (b : Bool) : Po := (lpow n [i], 1) :: (if b then [(List.replicate n 0, 1)] else [])
theorem second_of_spec {N : Nat} (hN : 30 < N) {fz : List Nat} {st : St} {r s n p : Nat} {cells : List Int} (hf : isForm p n) (hr : st[r]? = some (poolC cells s)) (hfz : ∀ q ∈ fz, q ≠ r ∧ q < st.length) (hs : s ≤ 50) (hc : cells.length ≤ 100) :
    ∃ i b, i < n ∧ callAll tab N fz 30 [.obj r, .int (n : Nat)] st = some (.obj st.length, (st.set r (poolC cells (s + 2))) ++ [.dic (toD (secF n i b))]) := by
  have hn5 : n ≤ 5 ∧ 0 < n := by rcases hf with h | h | h | h | h <;> lia
  have hrl := lt_of_get hr
  have hnf : r ∉ fz := fun q => (hfz r q).1 rfl
  obtain ⟨i, hi, d1⟩ := draw_spec (N := 30) (by lia) (fz := fz) hr hnf (by lia) hc (m := n) (by lia)
  have p1 := powers_spec (N := 30) (by lia) (fz := fz) (st := st.set r (poolC cells (s + 1))) (n := n) (by lia) [i] (by simp)
  have hX : ((st.set r (poolC cells (s + 1))) ++ [Cont.dic (toD [(lpow n [i], 1)])])[r]? = some (poolC cells (s + 1)) := get_old _ (get_set_self _ hr)
  obtain ⟨v, hv, d2⟩ := draw_spec (N := 30) (by lia) (fz := fz) hX hnf (by lia) hc (m := 2) (by lia)
  have hset : ((st.set r (poolC cells (s + 1))) ++ [Cont.dic (toD [(lpow n [i], 1)])]).set r (poolC cells (s + 1 + 1)) = st.set r (poolC cells (s + 2)) ++ [.dic (toD [(lpow n [i], 1)])] := by
    rw [set_append_old _ _ _ _ (by simpa using hrl)]; simp
  rw [hset] at d2
  have hgl : (st.set r (poolC cells (s + 2)) ++ [Cont.dic (toD [(lpow n [i], 1)])])[st.length]? = some (.dic (toD [(lpow n [i], 1)])) := by
    have : st.length = (st.set r (poolC cells (s + 2))).length := by simp
    conv => lhs; rw [this]
    exact get_last _ _
  have i1 := setItemD_dic hgl (fz := fz) (fun q => by have := (hfz _ q).2; lia) (by simp [toD, lim_eq]) (List.replicate n 0) (rt 1)
  rw [dput_none (by simp only [keys, List.map_cons, List.map_nil, List.mem_singleton]; exact fun q => lpow_ne_zero hf hi q.symm)] at i1
  have hsl : (st.set r (poolC cells (s + 2)) ++ [Cont.dic (toD [(lpow n [i], 1)])]).set st.length (.dic (toD ([(lpow n [i], 1)] ++ [(List.replicate n 0, 1)]))) = st.set r (poolC cells (s + 2)) ++ [.dic (toD (secF n i true))] := by
    have : st.length = (st.set r (poolC cells (s + 2))).length := by simp
    conv => lhs; rw [this]
    rw [set_last]; rfl
  rw [hsl] at i1
  rw [callAll_at (fn := f__law_second_of) rfl N hN]
  have s1 : exS (callAll tab 30) (.assign 2 (.dict (.cons (.call 26 (.cons (.var 1) (.cons (.tup (.cons (.call 25 (.cons (.var 0) (.cons (.var 1) .nil))) .nil)) .nil))) (.cons (.tup (.cons (.cst (.int 1)) (.cons (.cst (.int 1)) .nil))) .nil)))) fz [some (.obj r), some (.int (n : Nat)), none, none, none] st =
      some (.next, [some (.obj r), some (.int (n : Nat)), some (.obj st.length), none, none], st.set r (poolC cells (s + 1)) ++ [.dic (toD [(lpow n [i], 1)])]) := by
    have hp : pairsD [pw (lpow n [i]), rt 1] [] = some (toD [(lpow n [i], 1)]) := by
      show (keyOf (pw (lpow n [i]))).bind _ = _
      rw [keyOf_pw]; rfl
    have h0 := eDict (cf := callAll tab 30) (ps := toD [(lpow n [i], 1)]) (l2 (eCall (l2 (eVar (fz := fz) (ρ := [some (.obj r), some (.int (n : Nat)), none, none, none]) (st := st) (i := 1) rfl) (eTup1 (eCall (l2 (eVar (i := 0) rfl) (eVar (i := 1) rfl)) d1))) p1) (eTup2 (eCst (d := .int 1)) (eCst (d := .int 1)))) (by show 2 < 30; decide) hp
    rw [List.length_set] at h0
    exact xAssign h0
  by_cases hv1 : v = 1
  · subst hv1
    refine ⟨i, true, hi, ?_⟩
    refine runFn_ret rfl (ρ' := [some (.obj r), some (.int (n : Nat)), some (.obj st.length), none, none]) ?_
    refine Eq.trans (exS_next s1) (Eq.trans (exS_next (ρ' := [some (.obj r), some (.int (n : Nat)), some (.obj st.length), none, none]) (st' := st.set r (poolC cells (s + 2)) ++ [.dic (toD (secF n i true))]) ?_) (exS_ret ?_))
    · have hd2 : callAll tab 30 fz 25 [.obj r, .int 2] (st.set r (poolC cells (s + 1)) ++ [Cont.dic (toD [(lpow n [i], 1)])]) = some (.int 1, st.set r (poolC cells (s + 2)) ++ [.dic (toD [(lpow n [i], 1)])]) := d2
      exact xIfT (eCmp (eCall (l2 (eVar rfl) eCst) hd2) eCst rfl) (exS_next (ss := .nil) (xSet (eTup2 eCst eCst) (eVar rfl) (eBin (eTup1 eCst) (eVar rfl) (binD_rep (show n < 1000 by lia) 0)) i1))
    · exact xRet (eVar rfl)
  · refine ⟨i, false, hi, ?_⟩
    have hv0 : v = 0 := by lia
    subst hv0
    refine runFn_ret rfl (ρ' := [some (.obj r), some (.int (n : Nat)), some (.obj st.length), none, none]) ?_
    refine Eq.trans (exS_next s1) (Eq.trans (exS_next (ρ' := [some (.obj r), some (.int (n : Nat)), some (.obj st.length), none, none]) (st' := st.set r (poolC cells (s + 2)) ++ [.dic (toD (secF n i false))]) ?_) (exS_ret ?_))
    · have hd2 : callAll tab 30 fz 25 [.obj r, .int 2] (st.set r (poolC cells (s + 1)) ++ [Cont.dic (toD [(lpow n [i], 1)])]) = some (.int 0, st.set r (poolC cells (s + 2)) ++ [.dic (toD [(lpow n [i], 1)])]) := d2
      exact xIfF (eCmp (eCall (l2 (eVar rfl) eCst) hd2) eCst rfl) xNil
    · exact xRet (eVar rfl)
end Mine
end
section
open PySem
set_option maxRecDepth 100000
set_option linter.unusedVariables false
set_option linter.unusedSimpArgs false
set_option linter.unusedSectionVars false
namespace Mine
/-- greatest of 1 and a list -/
noncomputable def dgL (l : List Int) : Int := l.foldl (fun m y => if m < y then y else m) 1
theorem foldl_max_le (l : List Int) : ∀ (a m : Int), l.foldl (fun m y => if m < y then y else m) a ≤ m ↔ a ≤ m ∧ ∀ y ∈ l, y ≤ m := by
  induction l with
  | nil =>
    intro a m
    simp
  | cons y r ih =>
    intro a m
    rw [List.foldl_cons, ih]
    constructor
    · rintro ⟨h1, h2⟩
      split at h1
      · exact ⟨by lia, fun z hz => (List.mem_cons.mp hz).elim (fun e => by lia) (h2 z)⟩
      · exact ⟨by lia, fun z hz => (List.mem_cons.mp hz).elim (fun e => by lia) (h2 z)⟩
    · rintro ⟨h1, h2⟩
      refine ⟨?_, fun z hz => h2 z (List.mem_cons_of_mem _ hz)⟩
      have := h2 y List.mem_cons_self
      split <;> lia
theorem dgL_le (l : List Int) (m : Int) : dgL l ≤ m ↔ 1 ≤ m ∧ ∀ y ∈ l, y ≤ m := foldl_max_le l 1 m
theorem dgL_eq {l l' : List Int} (h : ∀ y, y ∈ l ↔ y ∈ l') : dgL l = dgL l' := by
  have key : ∀ m, dgL l ≤ m ↔ dgL l' ≤ m := by
    intro m
    rw [dgL_le, dgL_le]
    constructor
    · rintro ⟨h1, h2⟩; exact ⟨h1, fun y hy => h2 y ((h y).mpr hy)⟩
    · rintro ⟨h1, h2⟩; exact ⟨h1, fun y hy => h2 y ((h y).mp hy)⟩
  have h1 := (key (dgL l')).mpr (Int.le_refl _)
  have h2 := (key (dgL l)).mp (Int.le_refl _)
  lia
noncomputable def dgP (P : Po) : Int := dgL (P.map fun e => e.1.sum)
/-- the number of a key among drawn terms -/
noncomputable def cft (T : Po) (k : List Int) : Int := (T.map fun t => if t.1 = k then t.2 else 0).sum
theorem cft_snoc (T : Po) (t : List Int × Int) (k : List Int) : cft (T ++ [t]) k = cft T k + if t.1 = k then t.2 else 0 := by simp [cft]
theorem keys_snoc (T : Po) (t : List Int × Int) : keys (T ++ [t]) = keys T ++ [t.1] := by simp [keys]
theorem snoc_ind {α : Type} {Pr : List α → Prop} (h0 : Pr []) (hs : ∀ T t, Pr T → Pr (T ++ [t])) : ∀ T, Pr T := by
  intro T
  have key : ∀ (B A : List α), Pr A → Pr (A ++ B) := by
    intro B
    induction B with
    | nil => intro A h; simpa using h
    | cons b B ih => intro A h; have := ih (A ++ [b]) (hs A b h); simpa using this
  simpa using key T [] h0
theorem pget_fst (p : Nat) : ∀ (T : Po) (k : List Int), pget (fstF p T) k = if k ∈ keys T then some (cft T k % p) else none := by
  intro T
  induction T using snoc_ind with
  | h0 => intro k; rfl
  | hs T t ih =>
    intro k
    rw [fstF_snoc, pget_fput, ih t.1, ih k, cft_snoc, keys_snoc]
    by_cases hk : k = t.1
    · subst hk
      have hin : t.1 ∈ keys T ++ [t.1] := by simp
      rw [if_pos rfl, if_pos rfl, if_pos hin]
      by_cases hm : t.1 ∈ keys T
      · rw [if_pos hm, Option.getD_some, Int.emod_add_emod]
      · rw [if_neg hm, Option.getD_none]
        have : cft T t.1 = 0 := by
          have h0 : ∀ (T : Po), t.1 ∉ keys T → cft T t.1 = 0 := by
            intro T
            induction T with
            | nil => intro _; rfl
            | cons a r ihh =>
              intro h
              simp only [keys, List.map_cons, List.mem_cons, not_or] at h
              have := ihh h.2
              simp only [cft, List.map_cons, List.sum_cons] at this ⊢
              rw [if_neg fun q => h.1 q.symm, this]; rfl
          exact h0 T hm
        rw [this]
    · have hk' : ¬ t.1 = k := fun q => hk q.symm
      rw [if_neg hk, if_neg hk', Int.add_zero]
      simp [hk]
theorem ev_fst (p : Nat) (x : List Int) : ∀ (T : Po), (ev x (fstF p T) - ev x T) % p = 0 := by
  intro T
  induction T using snoc_ind with
  | h0 => simp [fstF, ev]
  | hs T t ih =>
    rw [fstF_snoc, ev_fput, ev_append, ev_cons, ev_nil, Int.add_zero]
    generalize (pget (fstF p T) t.1).getD 0 = o
    obtain ⟨u, hu⟩ := Int.dvd_of_emod_eq_zero ih
    have h1 := Int.emod_add_mul_ediv (o + t.2) (p : Int)
    apply Int.emod_eq_zero_of_dvd
    refine ⟨u - (o + t.2) / p * mono x t.1, ?_⟩
    have h2 : (o + t.2) % (p : Int) = o + t.2 - p * ((o + t.2) / p) := by lia
    rw [h2, Int.mul_sub, ← hu]
    generalize (o + t.2) / (p : Int) = w
    generalize mono x t.1 = mm
    have h3 : o + t.2 - ↑p * w - o = t.2 - p * w := by lia
    rw [h3, Int.sub_mul, Int.mul_assoc]
    lia
noncomputable def P1 (p : Nat) (T : Po) : Po := (fstF p T).filter fun e => !decide (e.2 = 0)
theorem ev_filter (x : List Int) (F : Po) : ev x (F.filter fun e => !decide (e.2 = 0)) = ev x F := by
  induction F with
  | nil => rfl
  | cons e r ih =>
    by_cases h : e.2 = 0
    · rw [List.filter_cons, if_neg (by simp [h]), ih, ev_cons, h]; lia
    · rw [List.filter_cons, if_pos (by simp [h]), ev_cons, ev_cons, ih]
theorem ev_P1 (p : Nat) (x : List Int) (T : Po) : ev x (P1 p T) % p = ev x T % p := by
  rw [P1, ev_filter]
  exact Int.emod_eq_emod_iff_emod_sub_eq_zero.mpr (ev_fst p x T)
theorem mem_P1 {p : Nat} {T : Po} {e : List Int × Int} : e ∈ P1 p T ↔ e.1 ∈ keys T ∧ e.2 = cft T e.1 % p ∧ e.2 ≠ 0 := by
  have hn := fst_nodup p T
  have h := pget_fst p T e.1
  simp only [P1, List.mem_filter, Bool.not_eq_true', decide_eq_false_iff_not]
  constructor
  · rintro ⟨h1, h2⟩
    rw [pget_of_mem hn h1] at h
    by_cases hm : e.1 ∈ keys T
    · rw [if_pos hm] at h; exact ⟨hm, Option.some.inj h, h2⟩
    · rw [if_neg hm] at h; cases h
  · rintro ⟨h1, h2, h3⟩
    rw [if_pos h1, ← h2] at h
    exact ⟨pget_mem h, h3⟩
theorem P1_nodup (p : Nat) (T : Po) : (keys (P1 p T)).Nodup := (fst_nodup p T).sublist (List.Sublist.map _ List.filter_sublist)
noncomputable def dgT (p : Nat) (T : Po) : Int := dgL ((T.filter fun t => !decide (cft T t.1 % (p : Int) = 0)).map fun t => t.1.sum)
theorem dgP_P1 (p : Nat) (T : Po) : dgP (P1 p T) = dgT p T := by
  refine dgL_eq fun y => ?_
  simp only [List.mem_map, List.mem_filter, Bool.not_eq_true', decide_eq_false_iff_not]
  constructor
  · rintro ⟨e, he, rfl⟩
    obtain ⟨h1, h2, h3⟩ := mem_P1.mp he
    obtain ⟨t, ht, hte⟩ := List.mem_map.mp h1
    exact ⟨t, ⟨ht, by rw [hte, ← h2]; exact h3⟩, by rw [hte]⟩
  · rintro ⟨t, ⟨ht, hc⟩, rfl⟩
    exact ⟨(t.1, cft T t.1 % p), mem_P1.mpr ⟨List.mem_map.mpr ⟨t, ht, rfl⟩, rfl, hc⟩, rfl⟩
theorem lpow2_KK {n i j : Nat} : KK n 2 (lpow n [i, j]) := by
  refine ⟨lpow_length _ _, lpow_pos _ _, ?_⟩
  have h1 : ∀ (m i : Nat), ((List.range m).map fun l => (([i].filter fun d => decide (d = l)).length : Int)).sum ≤ if i < m then 1 else 0 := by
    intro m i
    induction m with
    | zero => simp
    | succ m ih =>
      rw [List.range_succ, List.map_append, List.sum_append]
      simp only [List.map_cons, List.map_nil, List.sum_cons, List.sum_nil, Int.add_zero]
      by_cases h : i = m
      · subst h
        have : ¬ i < i := by lia
        rw [if_neg this] at ih
        simp at ih ⊢; lia
      · have e : ([i].filter fun d => decide (d = m)).length = 0 := by simp [h]
        rw [e]
        split at ih <;> split <;> lia
  have h2 : (lpow n [i, j]).sum = ((List.range n).map fun l => (([i].filter fun d => decide (d = l)).length : Int)).sum + ((List.range n).map fun l => (([j].filter fun d => decide (d = l)).length : Int)).sum := by
    unfold lpow
    induction (List.range n) with
    | nil => rfl
    | cons l r ih =>
      simp only [List.map_cons, List.sum_cons] at ih ⊢
      have : (([i, j].filter fun d => decide (d = l)).length : Int) = (([i].filter fun d => decide (d = l)).length : Int) + (([j].filter fun d => decide (d = l)).length : Int) := by
        by_cases h : i = l <;> by_cases h' : j = l <;> simp [h, h']
      lia
  have a := h1 n i
  have b := h1 n j
  rw [h2]
  split at a <;> split at b <;> lia
theorem P1_len (p : Nat) (T : Po) : (P1 p T).length ≤ T.length := Nat.le_trans (List.length_filter_le _ _) (fst_len p T)
theorem L1_le_of {P : Po} {c : Nat} (h : ∀ e ∈ P, e.2.natAbs ≤ c) : L1 P ≤ P.length * c := by
  induction P with
  | nil => simp [L1]
  | cons e r ih =>
    have h1 := ih fun x hx => h x (List.mem_cons_of_mem _ hx)
    have h2 := h e List.mem_cons_self
    rw [L1_cons, List.length_cons, Nat.add_mul]; lia
theorem P1_ok {p n : Nat} (hp : 2 ≤ p) {T : Po} (hT : TOk p n T) (hl : T.length = 3) : Ok n 2 (3 * (p - 1)) (P1 p T) ∧ ∀ e ∈ P1 p T, 1 ≤ e.2 ∧ e.2 < p := by
  have hc : ∀ e ∈ P1 p T, 1 ≤ e.2 ∧ e.2 < p := by
    intro e he
    obtain ⟨h1, h2, h3⟩ := mem_P1.mp he
    have a := Int.emod_nonneg (cft T e.1) (b := (p : Int)) (by lia)
    have b := Int.emod_lt_of_pos (cft T e.1) (b := (p : Int)) (by lia)
    lia
  refine ⟨⟨P1_nodup p T, fun e he => by have := (hc e he).1; lia, ?_, ?_⟩, hc⟩
  · intro k hk
    obtain ⟨e, he, rfl⟩ := List.mem_map.mp hk
    obtain ⟨t, ht, hte⟩ := List.mem_map.mp (mem_P1.mp he).1
    obtain ⟨⟨i, j, _, _, hij⟩, _⟩ := hT t ht
    rw [← hte]
    rw [hij]; exact lpow2_KK
  · refine Nat.le_trans (L1_le_of (c := p - 1) fun e he => by have := hc e he; lia) ?_
    have := P1_len p T
    exact Nat.mul_le_mul_right _ (by lia)
end Mine
end
section
open PySem
set_option maxRecDepth 100000
set_option linter.unusedVariables false
set_option linter.unusedSimpArgs false
set_option linter.unusedSectionVars false
namespace Mine
/-- packed digits -/
noncomputable def packL : List Nat → Nat
  | [] => 0
  | v :: r => v + 64 * packL r
noncomputable def czq (q : Nat → Bool) (N : Nat) : Nat → Nat → Nat := @Nat.rec (fun _ => Nat → Nat → Nat) (fun _ acc => acc) (fun _ ih s acc => ih (s / 64) (bif q (s % 64) then Nat.succ acc else acc)) N
theorem czq_succ (q : Nat → Bool) (N s acc : Nat) : czq q (N + 1) s acc = czq q N (s / 64) (bif q (s % 64) then Nat.succ acc else acc) := rfl
theorem packL_add {α : Type} (f g : α → Nat) (L : List α) : packL (L.map f) + packL (L.map g) = packL (L.map fun x => f x + g x) := by
  induction L with
  | nil =>
    exact rfl
  | cons x r ih =>
    simp only [List.map_cons, packL, ← ih]; lia
theorem packL_mul {α : Type} (m : Nat) (f : α → Nat) (L : List α) : m * packL (L.map f) = packL (L.map fun x => m * f x) := by
  induction L with
  | nil =>
    exact rfl
  | cons x r ih =>
    simp only [List.map_cons, packL, ← ih, Nat.mul_add]
    rw [Nat.mul_left_comm]
theorem czq_pack {α : Type} (q : Nat → Bool) (h : α → Nat) (L : List α) : ∀ (acc : Nat), (∀ x ∈ L, h x < 64) → czq q L.length (packL (L.map h)) acc = (L.filter fun x => q (h x)).length + acc := by
  induction L with
  | nil =>
    intro acc _
    show acc = _; simp
  | cons x r ih =>
    intro acc hb
    have hx := hb x List.mem_cons_self
    rw [List.length_cons, List.map_cons, packL, czq_succ, show (h x + 64 * packL (r.map h)) % 64 = h x by lia, show (h x + 64 * packL (r.map h)) / 64 = packL (r.map h) by lia, ih _ fun y hy => hb y (List.mem_cons_of_mem _ hy), List.filter_cons]
    cases q (h x) <;> simp <;> lia
theorem packL_mod {α : Type} (h : α → Nat) (L : List α) : packL (L.map h) % 63 = (L.map h).sum % 63 := by
  induction L with
  | nil =>
    exact rfl
  | cons x r ih =>
    have := ih
    rw [List.map_cons, packL, List.sum_cons]; lia
theorem land_step {v u s t : Nat} (hv : v < 64) (hu : u ≤ 1) : Nat.land (v + 64 * s) (u + 64 * t) = v % 2 * u + 64 * Nat.land s t := by
  have h1 : Nat.land (v + 64 * s) (u + 64 * t) % 2 ^ 6 = v % 2 * u := by
    show ((v + 64 * s) &&& (u + 64 * t)) % 2 ^ 6 = _
    rw [Nat.and_mod_two_pow, show (v + 64 * s) % 2 ^ 6 = v by lia, show (u + 64 * t) % 2 ^ 6 = u by lia]
    rcases (by lia : u = 0 ∨ u = 1) with e | e <;> subst e
    · simp
    · rw [Nat.and_one_is_mod, Nat.mul_one]
  have h2 : Nat.land (v + 64 * s) (u + 64 * t) / 2 ^ 6 = Nat.land s t := by
    show ((v + 64 * s) &&& (u + 64 * t)) / 2 ^ 6 = s &&& t
    rw [Nat.and_div_two_pow, show (v + 64 * s) / 2 ^ 6 = s by lia, show (u + 64 * t) / 2 ^ 6 = t by lia]
  lia
theorem land_pack {α : Type} (h m : α → Nat) (L : List α) : (∀ x ∈ L, h x < 64 ∧ m x ≤ 1) → Nat.land (packL (L.map h)) (packL (L.map m)) = packL (L.map fun x => h x % 2 * m x) := by
  induction L with
  | nil =>
    intro _
    show Nat.land 0 0 = 0; decide
  | cons x r ih =>
    intro hb
    obtain ⟨h1, h2⟩ := hb x List.mem_cons_self
    rw [List.map_cons, List.map_cons, packL, packL, land_step h1 h2, ih fun y hy => hb y (List.mem_cons_of_mem _ hy), List.map_cons, packL]
noncomputable def zcM (Ms s : Nat) : Nat := Ms % 63 - Nat.land s Ms % 63
theorem zcM_pack {α : Type} (h : α → Nat) (g : α → Bool) (L : List α) (hl : L.length < 63) (hb : ∀ x ∈ L, h x < 64) :
    zcM (packL (L.map fun x => bif g x then 1 else 0)) (packL (L.map h)) = (L.filter fun x => g x && Nat.beq (h x % 2) 0).length := by
  rw [zcM, land_pack h _ L fun x hx => ⟨hb x hx, by cases g x <;> simp⟩, packL_mod, packL_mod]
  have key : ∀ L : List α, (L.map fun x => bif g x then 1 else 0).sum ≤ L.length ∧ (L.map fun x => h x % 2 * (bif g x then 1 else 0)).sum + (L.filter fun x => g x && Nat.beq (h x % 2) 0).length = (L.map fun x => bif g x then 1 else 0).sum := by
    intro L
    induction L with
    | nil => simp
    | cons x r ih =>
      simp only [List.map_cons, List.sum_cons, List.length_cons, List.filter_cons]
      have h2 := Nat.mod_two_eq_zero_or_one (h x)
      cases g x <;> rcases h2 with e | e <;> simp only [e, cond_true, cond_false, Bool.false_and, Bool.true_and, Nat.beq, if_true, Bool.false_eq_true, if_false, List.length_cons] <;> lia
  obtain ⟨k1, k2⟩ := key L
  rw [Nat.mod_eq_of_lt (by lia), Nat.mod_eq_of_lt (by lia)]
  lia
theorem packL_inj : ∀ {a b : List Nat}, a.length = b.length → (∀ i ∈ a, i < 64) → (∀ i ∈ b, i < 64) → packL a = packL b → a = b
  | [], [], _, _, _, _ => rfl
  | [], _ :: _, h, _, _, _ => by simp at h
  | _ :: _, [], h, _, _, _ => by simp at h
  | x :: a, y :: b, h, ha, hb, e => by
    have hx := ha x List.mem_cons_self
    have hy := hb y List.mem_cons_self
    simp only [packL] at e
    rw [packL_inj (a := a) (b := b) (by simpa using h) (fun i hi => ha i (List.mem_cons_of_mem _ hi)) (fun i hi => hb i (List.mem_cons_of_mem _ hi)) (by lia)]
    congr 1; lia
noncomputable abbrev Ent := Nat × Nat × Nat × Nat
noncomputable def kid (k : List Int) : Nat := packL (k.map Int.toNat)
noncomputable def tval (p : Nat) (t : List Int × Int) (x : List Int) : Nat := ((t.2 * mono x t.1) % p).toNat
noncomputable def enc (p n : Nat) (t : List Int × Int) : Ent := (kid t.1, t.2.toNat, t.1.sum.toNat, packL ((pts p n).map (tval p t)))
noncomputable def monos (n : Nat) : List (List Int) := (List.range (n + 1)).flatMap fun i => (List.range (n + 1 - i)).map fun d => lpow n [i, i + d]
noncomputable def TL (p n : Nat) : Po := (monos n).flatMap fun k => (List.range (p - 1)).map fun c => (k, ((c + 1 : Nat) : Int))
noncomputable def cwB (p n s M z : Nat) : Bool := Nat.ble n s || (Nat.beq (z % p ^ ((n - s + M - 1) / M)) 0 && (Nat.beq z 0 || Nat.ble (p ^ (n - s)) z))
noncomputable def CW (p n s M z : Nat) : Prop := n ≤ s ∨ (z % p ^ ((n - s + M - 1) / M) = 0 ∧ (z = 0 ∨ p ^ (n - s) ≤ z))
theorem cw_of {p n s M z : Nat} (h : cwB p n s M z = true) : CW p n s M z := by
  simp only [cwB, Bool.or_eq_true, Bool.and_eq_true, Nat.ble_eq, Nat.beq_eq] at h
  exact h
noncomputable def cN (a b c x : Ent) : Nat := (bif Nat.beq a.1 x.1 then a.2.1 else 0) + (bif Nat.beq b.1 x.1 then b.2.1 else 0) + (bif Nat.beq c.1 x.1 then c.2.1 else 0)
noncomputable def mx (a b : Nat) : Nat := bif Nat.ble a b then b else a
noncomputable def d1N (p : Nat) (a b c x : Ent) : Nat := bif Nat.beq (cN a b c x % p) 0 then 1 else x.2.2.1
noncomputable def dN (p : Nat) (a b c : Ent) : Nat := mx (mx (mx 1 (d1N p a b c a)) (d1N p a b c b)) (d1N p a b c c)
noncomputable def chk3 (n N : Nat) (a b c : Ent) : Bool := cwB 3 n (dN 3 a b c) (dN 3 a b c) (czq (fun d => Nat.beq (d % 3) 0) N (a.2.2.2 + b.2.2.2 + c.2.2.2) 0)
noncomputable def chkM (n o : Nat) (Ms : Nat) (a b c : Ent) : Bool := cwB 2 n (dN 2 a b c + o) (dN 2 a b c) (zcM Ms (a.2.2.2 + b.2.2.2 + c.2.2.2))
section
variable {α : Type}
noncomputable def all1 (f : α → Bool) : List α → Bool
  | [] => true
  | c :: r => f c && all1 f r
noncomputable def all2 (f : α → α → Bool) : List α → Bool
  | [] => true
  | b :: r => all1 (f b) (b :: r) && all2 f r
noncomputable def all3 (f : α → α → α → Bool) : List α → Bool
  | [] => true
  | a :: r => all2 (f a) (a :: r) && all3 f r
theorem all1_spec {f : α → Bool} {L : List α} : all1 f L = true → ∀ c ∈ L, f c = true := by
  induction L with
  | nil =>
    intro _ c h
    cases h
  | cons x r ih =>
    intro h c hc
    rw [all1, Bool.and_eq_true] at h
    rcases List.mem_cons.mp hc with q | q
    · subst q; exact h.1
    · exact ih h.2 c q
theorem all2_spec {f : α → α → Bool} {Q : α → α → Prop} {L : List α} : (∀ b ∈ L, ∀ c ∈ L, f b c = true → Q b c) → (∀ b c, Q b c → Q c b) → all2 f L = true → ∀ b ∈ L, ∀ c ∈ L, Q b c := by
  induction L with
  | nil =>
    intro _ _ _ b h _ _
    cases h
  | cons x r ih =>
    intro hi hs h b hb c hc
    rw [all2, Bool.and_eq_true] at h
    have h1 := all1_spec h.1
    rcases List.mem_cons.mp hb with q | q <;> rcases List.mem_cons.mp hc with q' | q'
    · subst q; subst q'; exact hi _ hb _ hc (h1 _ hb)
    · subst q; exact hi _ hb _ hc (h1 _ hc)
    · subst q'; exact hs _ _ (hi _ hc _ hb (h1 _ hb))
    · exact ih (fun b hb c hc => hi b (List.mem_cons_of_mem _ hb) c (List.mem_cons_of_mem _ hc)) hs h.2 b q c q'
theorem all3_spec {f : α → α → α → Bool} {Q : α → α → α → Prop} (hs1 : ∀ a b c, Q a b c → Q b a c) (hs2 : ∀ a b c, Q a b c → Q a c b) {L : List α} : (∀ a ∈ L, ∀ b ∈ L, ∀ c ∈ L, f a b c = true → Q a b c) → all3 f L = true → ∀ a ∈ L, ∀ b ∈ L, ∀ c ∈ L, Q a b c := by
  induction L with
  | nil =>
    intro _ _ a h _ _ _ _
    cases h
  | cons x r ih =>
    intro hi h a ha b hb c hc
    rw [all3, Bool.and_eq_true] at h
    have h1 := all2_spec (Q := Q x) (fun b hb c hc => hi x List.mem_cons_self b hb c hc) (fun b c => hs2 x b c) h.1
    rcases List.mem_cons.mp ha with q | q
    · subst q; exact h1 b hb c hc
    · rcases List.mem_cons.mp hb with q' | q'
      · subst q'; exact hs1 _ _ _ (h1 a ha c hc)
      · rcases List.mem_cons.mp hc with q2 | q2
        · subst q2; exact hs2 _ _ _ (hs1 _ _ _ (h1 a ha b hb))
        · exact ih (fun a ha b hb c hc => hi a (List.mem_cons_of_mem _ ha) b (List.mem_cons_of_mem _ hb) c (List.mem_cons_of_mem _ hc)) h.2 a q b q' c q2
theorem all1_map {β : Type} (g : β → α) (f : α → Bool) (L : List β) : all1 f (L.map g) = all1 (fun c => f (g c)) L := by
  induction L with
  | nil =>
    exact rfl
  | cons x r ih =>
    rw [List.map_cons, all1, all1, ih]
theorem all2_map {β : Type} (g : β → α) (f : α → α → Bool) (L : List β) : all2 f (L.map g) = all2 (fun b c => f (g b) (g c)) L := by
  induction L with
  | nil =>
    exact rfl
  | cons x r ih =>
    rw [List.map_cons, all2, all2, ih, ← List.map_cons, all1_map]
theorem all3_map {β : Type} (g : β → α) (f : α → α → α → Bool) (L : List β) : all3 f (L.map g) = all3 (fun a b c => f (g a) (g b) (g c)) L := by
  induction L with
  | nil =>
    exact rfl
  | cons x r ih =>
    rw [List.map_cons, all3, all3, ih, ← List.map_cons, all2_map]
end
noncomputable def tab32 : List (Nat × Nat × Nat × Nat) := [(2, 1, 2, 285942833479680), (2, 2, 2, 571885666959360), (65, 1, 2, 290273233993728), (65, 2, 2, 567349107228672), (1, 1, 1, 571884576178176), (1, 2, 1, 285943924260864), (128, 1, 2, 285874113744960), (128, 2, 2, 571748227489920), (64, 1, 1, 567350164201536), (64, 2, 1, 290272177033344), (0, 1, 0, 285942833483841), (0, 2, 0, 571885666967682)]
noncomputable def tab23 : List (Nat × Nat × Nat × Nat) := [(2, 1, 2, 4467856506880), (65, 1, 2, 4466765987840), (4097, 1, 2, 4399120252928), (1, 1, 1, 4467856506880), (128, 1, 2, 4466766254080), (4160, 1, 2, 4398046773248), (64, 1, 1, 4466766254080), (8192, 1, 2, 4399120515136), (4096, 1, 1, 4399120515136), (0, 1, 0, 4467856773185)]
noncomputable def tab33 : List (Nat × Nat × Nat × Nat) := [(2, 1, 2, 92793754751168439251027608426430381971828899840), (2, 2, 2, 185587509502336878502055216852860763943657799680), (65, 1, 2, 92794108728550312206560015983230462324394426368), (65, 2, 2, 185587155520904040441204668240752810392375263232), (4097, 1, 2, 94198707058143597251989438147693173431743807488), (4097, 2, 2, 184115654704553379881590122814059089728175603712), (1, 1, 1, 185587509502336873350967063544500307296713179136), (1, 2, 1, 92793754751168444402115761734790838618773520384), (128, 1, 2, 92793754749818117549254894741328043515090042880), (128, 2, 2, 185587509499636235098509789482656087030180085760), (4160, 1, 2, 94199050061398682195933176187985561408868712448), (4160, 2, 2, 184115311697248303387989218998694078838265085952), (64, 1, 1, 185587155520904045592253521940285485538473148416), (64, 2, 1, 92794108728550307055511162283698645006796980224), (8192, 1, 2, 92771453920898992377859853653917706927420215360), (8192, 2, 2, 185542907841797984755719707307835413854840430720), (4096, 1, 1, 184115654704553384872983401867005910671341658176), (4096, 2, 1, 94198707058143592260596159094747210110918987904), (0, 1, 0, 92793754751168439251027608426430667914662383681), (0, 2, 0, 185587509502336878502055216852861335829324767362)]
noncomputable def tab24 : List (Nat × Nat × Nat × Nat) := [(2, 1, 2, 1257589881178794541564559360), (65, 1, 2, 1257589806220600868633313280), (4097, 1, 2, 1257282927339112141139476480), (262145, 1, 2, 1238242344545274625540489216), (1, 1, 1, 1257589881178794541564559360), (128, 1, 2, 1257589806220605336489820160), (4160, 1, 2, 1257282852399218808460410880), (262208, 1, 2, 1238242270740288331313053696), (64, 1, 1, 1257589806220605336489820160), (8192, 1, 2, 1257282927339116607905730560), (266240, 1, 2, 1237940113072360967784103936), (4096, 1, 1, 1257282927339116607905730560), (524288, 1, 2, 1238242344545279024661004352), (262144, 1, 1, 1238242344545279024661004352), (0, 1, 0, 1257589881178799009421332545)]
noncomputable def tab25 : List (Nat × Nat × Nat × Nat) := [(2, 1, 2, 99636535482328266092631578144895845295049065188420485120), (65, 1, 2, 99636535482327912112549061787055950482287028509563944960), (4097, 1, 2, 99636529543528315997912883582408029533004305616611573760), (262145, 1, 2, 99612216093633531343768353449229529491950444474437468160), (16777217, 1, 2, 98103665705677061998898784634974370752048310339367862272), (1, 1, 1, 99636535482328266092631578144895845295049065188420485120), (128, 1, 2, 99636535482327912112549061788313540363465823051128504320), (4160, 1, 2, 99636529543527962017851466081644085690885718528082575360), (262208, 1, 2, 99612216093633177450085661968497012772456922435299573760), (16777280, 1, 2, 98103665705676713464663691606954870511720195004188065792), (64, 1, 1, 99636535482327912112549061788313540363465823051128504320), (8192, 1, 2, 99636529543528315997912883583665619339224910953101393920), (266240, 1, 2, 99612210156283129686954154542029381697208990789334466560), (16781312, 1, 2, 98103659858243264982560377682378455964775296938438295552), (4096, 1, 1, 99636529543528315997912883583665619339224910953101393920), (524288, 1, 2, 99612216093633531343768353450486812419289561082343198720), (17039360, 1, 2, 98079720461423784707710378782017784535915875527230226432), (262144, 1, 1, 99612216093633531343768353450486812419289561082343198720), (33554432, 1, 2, 98103665705677061998898784636212613096593589364028866624), (16777216, 1, 1, 98103665705677061998898784636212613096593589364028866624), (0, 1, 0, 99636535482328266092631578146153435176227864197841817665)]
noncomputable def secs4 : List Nat := [4467856773185, 1257589881178794541564559360, 74958193672931512385, 1257589806220605336489820160, 306953839682401515601985, 1257282927339116607905730560, 19347536633519984760328193, 1238242344545279024661004352]
noncomputable def msk3 : Nat := 4467856773185
noncomputable def msk4 : Nat := 1257589881178799009421332545
noncomputable def msk5 : Nat := 99636535482328266092631578146153435176227864197841817665
theorem tab32_ok : (TL 3 2).map (enc 3 2) = tab32 := by decide +kernel
theorem tab23_ok : (TL 2 3).map (enc 2 3) = tab23 := by decide +kernel
theorem tab33_ok : (TL 3 3).map (enc 3 3) = tab33 := by decide +kernel
theorem tab24_ok : (TL 2 4).map (enc 2 4) = tab24 := by decide +kernel
theorem tab25_ok : (TL 2 5).map (enc 2 5) = tab25 := by decide +kernel
noncomputable def secL : List (Nat × Bool) := (List.range 4).flatMap fun i => [(i, false), (i, true)]
noncomputable def sval (s : Nat × Bool) (x : List Int) : Bool := decide (ev x (secF 4 s.1 s.2) % 2 = 0)
theorem secs4_ok : secL.map (fun s => packL ((pts 2 4).map fun x => bif sval s x then 1 else 0)) = secs4 := by decide +kernel
theorem msk3_ok : packL ((pts 2 3).map fun _ => bif true then 1 else 0) = msk3 := by decide +kernel
theorem msk4_ok : packL ((pts 2 4).map fun _ => bif true then 1 else 0) = msk4 := by decide +kernel
theorem msk5_ok : packL ((pts 2 5).map fun _ => bif true then 1 else 0) = msk5 := by decide +kernel
theorem cw32 : all3 (chk3 2 9) tab32 = true := by decide +kernel
theorem cw33 : all3 (chk3 3 27) tab33 = true := by decide +kernel
theorem cw23 : all3 (chkM 3 0 msk3) tab23 = true := by decide +kernel
theorem cw24 : all3 (chkM 4 0 msk4) tab24 = true := by decide +kernel
theorem cw25 : all3 (chkM 5 0 msk5) tab25 = true := by decide +kernel
theorem cw242 : (secs4.all fun Ms => all3 (chkM 4 1 Ms) tab24) = true := by decide +kernel
noncomputable def smB (p n : Nat) : Bool := (pts p n).all fun k => decide (((((pts p n).map fun x => mono x k).sum) - (if k = List.replicate n ((p : Int) - 1) then (-1) ^ n else 0)) % (p : Int) = 0)
theorem sm32 : smB 3 2 = true := by decide +kernel
theorem sm23 : smB 2 3 = true := by decide +kernel
theorem sm33 : smB 3 3 = true := by decide +kernel
theorem sm24 : smB 2 4 = true := by decide +kernel
theorem sm25 : smB 2 5 = true := by decide +kernel
noncomputable def moB (n : Nat) : Bool := (List.range (n + 1)).all fun i => (List.range (n + 1)).all fun j => (monos n).any fun k => decide (k = lpow n [i, j])
theorem mo2 : moB 2 = true := by decide +kernel
theorem mo3 : moB 3 = true := by decide +kernel
theorem mo4 : moB 4 = true := by decide +kernel
theorem mo5 : moB 5 = true := by decide +kernel
end Mine
end
section
open PySem
set_option maxRecDepth 100000
set_option linter.unusedVariables false
set_option linter.unusedSimpArgs false
set_option linter.unusedSectionVars false
namespace Mine
theorem TL_mem {p n : Nat} {t : List Int × Int} (h : t ∈ TL p n) : KK n 2 t.1 ∧ 0 ≤ t.2 := by
  simp only [TL, monos, List.mem_flatMap, List.mem_map, List.mem_range] at h
  obtain ⟨k, ⟨i, _, d, _, rfl⟩, c, _, rfl⟩ := h
  exact ⟨lpow2_KK, by show (0 : Int) ≤ ((c + 1 : Nat) : Int); lia⟩
theorem moB_of {p n : Nat} (hf : isForm p n) : moB n = true := by
  rcases hf with h | h | h | h | h <;> obtain ⟨rfl, rfl⟩ := h
  · exact mo2
  · exact mo3
  · exact mo3
  · exact mo4
  · exact mo5
theorem mem_TL {p n : Nat} (hf : isForm p n) {t : List Int × Int} {i j : Nat} (hi : i ≤ n) (hj : j ≤ n) (h1 : t.1 = lpow n [i, j]) (h2 : 1 ≤ t.2) (h3 : t.2 ≤ (p : Int) - 1) : t ∈ TL p n := by
  have h := moB_of hf
  simp only [moB, List.all_eq_true, List.mem_range, List.any_eq_true, decide_eq_true_eq] at h
  obtain ⟨k, hk, hke⟩ := h i (by lia) j (by lia)
  simp only [TL, List.mem_flatMap, List.mem_map, List.mem_range]
  refine ⟨k, hk, (t.2 - 1).toNat, by omega, ?_⟩
  rw [Prod.ext_iff]
  exact ⟨by rw [hke, h1], by show (((t.2 - 1).toNat + 1 : Nat) : Int) = t.2; lia⟩
theorem map_toNat_inj : ∀ {a b : List Int}, (∀ i ∈ a, 0 ≤ i) → (∀ i ∈ b, 0 ≤ i) → a.map Int.toNat = b.map Int.toNat → a = b
  | [], [], _, _, _ => rfl
  | [], _ :: _, _, _, h => by simp at h
  | _ :: _, [], _, _, h => by simp at h
  | x :: a, y :: b, ha, hb, h => by
    simp only [List.map_cons, List.cons.injEq] at h
    have hx := ha x List.mem_cons_self
    have hy := hb y List.mem_cons_self
    rw [map_toNat_inj (a := a) (b := b) (fun i hi => ha i (List.mem_cons_of_mem _ hi)) (fun i hi => hb i (List.mem_cons_of_mem _ hi)) h.2]
    congr 1; lia
theorem kid_inj {n : Nat} {a b : List Int} (ha : KK n 2 a) (hb : KK n 2 b) : Nat.beq (kid a) (kid b) = decide (a = b) := by
  by_cases e : a = b
  · subst e; simp
  · rw [decide_eq_false e]
    cases h : Nat.beq (kid a) (kid b) with
    | false => rfl
    | true =>
      have h := Nat.eq_of_beq_eq_true h
      have small : ∀ {k : List Int}, KK n 2 k → ∀ i ∈ k.map Int.toNat, i < 64 := by
        intro k hk i hi
        obtain ⟨x, hx, rfl⟩ := List.mem_map.mp hi
        have := mem_le_sum hk.pos x hx
        have := hk.deg
        lia
      exact absurd (map_toNat_inj ha.pos hb.pos (packL_inj (by simp [ha.len, hb.len]) (small ha) (small hb) h)) e
theorem mx_le {a b m : Nat} : mx a b ≤ m ↔ a ≤ m ∧ b ≤ m := by
  unfold mx
  cases h : Nat.ble a b
  · have : ¬ a ≤ b := fun q => by rw [Nat.ble_eq_true_of_le q] at h; cases h
    simp only [cond_false]; lia
  · have := Nat.le_of_ble_eq_true h
    simp only [cond_true]; lia
theorem cN_eq {p n : Nat} {a b c x : List Int × Int} (ha : a ∈ TL p n) (hb : b ∈ TL p n) (hc : c ∈ TL p n) (hx : x ∈ TL p n) : (cN (enc p n a) (enc p n b) (enc p n c) (enc p n x) : Int) = cft [a, b, c] x.1 := by
  obtain ⟨a1, a2⟩ := TL_mem ha
  obtain ⟨b1, b2⟩ := TL_mem hb
  obtain ⟨c1, c2⟩ := TL_mem hc
  obtain ⟨x1, x2⟩ := TL_mem hx
  simp only [cN, enc, kid_inj a1 x1, kid_inj b1 x1, kid_inj c1 x1, cft, List.map_cons, List.map_nil, List.sum_cons, List.sum_nil]
  by_cases h1 : a.1 = x.1 <;> by_cases h2 : b.1 = x.1 <;> by_cases h3 : c.1 = x.1 <;> simp only [h1, h2, h3, decide_true, decide_false, cond_true, cond_false, if_true, if_false] <;> lia
theorem d1N_le {p n : Nat} {a b c x : List Int × Int} (ha : a ∈ TL p n) (hb : b ∈ TL p n) (hc : c ∈ TL p n) (hx : x ∈ TL p n) {m : Nat} (hm : 1 ≤ m) :
    d1N p (enc p n a) (enc p n b) (enc p n c) (enc p n x) ≤ m ↔ (¬ cft [a, b, c] x.1 % (p : Int) = 0 → x.1.sum ≤ m) := by
  have h := cN_eq ha hb hc hx
  obtain ⟨x1, x2⟩ := TL_mem hx
  have hs := KK_sum_nonneg x1
  unfold d1N
  rw [← h]
  have e : ((cN (enc p n a) (enc p n b) (enc p n c) (enc p n x) : Int) % (p : Int) = 0) ↔ Nat.beq (cN (enc p n a) (enc p n b) (enc p n c) (enc p n x) % p) 0 = true := by
    rw [Nat.beq_eq]; lia
  rw [e]
  cases Nat.beq (cN (enc p n a) (enc p n b) (enc p n c) (enc p n x) % p) 0
  · simp only [cond_false, Bool.false_eq_true, not_false_iff, forall_const]
    show x.1.sum.toNat ≤ m ↔ _
    lia
  · simp only [cond_true, not_true, false_implies, iff_true]; exact hm
theorem dN_eq {p n : Nat} {a b c : List Int × Int} (ha : a ∈ TL p n) (hb : b ∈ TL p n) (hc : c ∈ TL p n) : dN p (enc p n a) (enc p n b) (enc p n c) = (dgT p [a, b, c]).toNat := by
  have key : ∀ m : Nat, dN p (enc p n a) (enc p n b) (enc p n c) ≤ m ↔ dgT p [a, b, c] ≤ m := by
    intro m
    rw [dN, mx_le, mx_le, mx_le, dgT, dgL_le]
    constructor
    · rintro ⟨⟨⟨h0, h1⟩, h2⟩, h3⟩
      rw [d1N_le ha hb hc ha h0] at h1
      rw [d1N_le ha hb hc hb h0] at h2
      rw [d1N_le ha hb hc hc h0] at h3
      refine ⟨by lia, fun y hy => ?_⟩
      simp only [List.mem_map, List.mem_filter, Bool.not_eq_true', decide_eq_false_iff_not, List.mem_cons, List.not_mem_nil, or_false] at hy
      obtain ⟨t, ⟨ht, hc'⟩, rfl⟩ := hy
      rcases ht with rfl | rfl | rfl
      · exact h1 hc'
      · exact h2 hc'
      · exact h3 hc'
    · rintro ⟨h0, h1⟩
      have h0' : 1 ≤ m := by lia
      have hh : ∀ x, x ∈ [a, b, c] → ¬ cft [a, b, c] x.1 % (p : Int) = 0 → x.1.sum ≤ m := by
        intro x hx hq
        refine h1 _ (List.mem_map.mpr ⟨x, ?_, rfl⟩)
        rw [List.mem_filter]
        exact ⟨hx, by simpa using hq⟩
      exact ⟨⟨⟨h0', (d1N_le ha hb hc ha h0').mpr (hh a (by simp))⟩, (d1N_le ha hb hc hb h0').mpr (hh b (by simp))⟩, (d1N_le ha hb hc hc h0').mpr (hh c (by simp))⟩
  have h1 := (key _).mp (Nat.le_refl _)
  have hge : (1 : Int) ≤ dgT p [a, b, c] := ((dgL_le _ _).mp (Int.le_refl (dgT p [a, b, c]))).1
  have h2 := (key (dgT p [a, b, c]).toNat).mpr (by lia)
  lia
theorem ev3 (x : List Int) (a b c : List Int × Int) : ev x [a, b, c] = a.2 * mono x a.1 + b.2 * mono x b.1 + c.2 * mono x c.1 := by
  rw [ev_cons, ev_cons, ev_cons, ev_nil]; lia
theorem tval_lt {p : Nat} (hp : 0 < p) (t : List Int × Int) (x : List Int) : tval p t x < p := by
  have := Int.emod_lt_of_pos (t.2 * mono x t.1) (b := (p : Int)) (by lia)
  unfold tval; lia
theorem tval_int {p : Nat} (hp : 0 < p) (t : List Int × Int) (x : List Int) : ((tval p t x : Nat) : Int) = t.2 * mono x t.1 % p := Int.toNat_of_nonneg (Int.emod_nonneg _ (Int.natCast_ne_zero.mpr (Nat.ne_of_gt hp)))
theorem tv3 {p : Nat} (hp : 0 < p) (a b c : List Int × Int) (x : List Int) : (Nat.beq ((tval p a x + tval p b x + tval p c x) % p) 0 = true) ↔ ev x [a, b, c] % (p : Int) = 0 := by
  rw [Nat.beq_eq, ← Int.natCast_eq_zero, Int.natCast_emod, Int.natCast_add, Int.natCast_add, tval_int hp, tval_int hp, tval_int hp, ev3, Int.add_emod_emod, Int.add_assoc, Int.emod_add_emod, Int.add_left_comm, Int.emod_add_emod, Int.add_left_comm, ← Int.add_assoc]
theorem tv3_lt {p : Nat} (hp : 0 < p) (a b c : List Int × Int) (x : List Int) : tval p a x + tval p b x + tval p c x < p + p + p := Nat.add_lt_add (Nat.add_lt_add (tval_lt hp a x) (tval_lt hp b x)) (tval_lt hp c x)
theorem pack3 (p n : Nat) (a b c : List Int × Int) : (enc p n a).2.2.2 + (enc p n b).2.2.2 + (enc p n c).2.2.2 = packL ((pts p n).map fun x => tval p a x + tval p b x + tval p c x) := by
  show packL _ + packL _ + packL _ = _
  rw [packL_add, packL_add]
theorem dgT_perm1 (p : Nat) (a b c : List Int × Int) : dgT p [b, a, c] = dgT p [a, b, c] := by
  have h : ∀ k, cft [b, a, c] k = cft [a, b, c] k := by intro k; simp only [cft, List.map_cons, List.map_nil, List.sum_cons, List.sum_nil]; lia
  refine dgL_eq fun y => ?_
  simp only [h, List.mem_map, List.mem_filter, List.mem_cons, List.not_mem_nil, or_false]
  constructor <;> (rintro ⟨t, ⟨ht, h1⟩, h2⟩; exact ⟨t, ⟨by rcases ht with h | h | h <;> simp [h], h1⟩, h2⟩)
theorem dgT_perm2 (p : Nat) (a b c : List Int × Int) : dgT p [a, c, b] = dgT p [a, b, c] := by
  have h : ∀ k, cft [a, c, b] k = cft [a, b, c] k := by intro k; simp only [cft, List.map_cons, List.map_nil, List.sum_cons, List.sum_nil]; lia
  refine dgL_eq fun y => ?_
  simp only [h, List.mem_map, List.mem_filter, List.mem_cons, List.not_mem_nil, or_false]
  constructor <;> (rintro ⟨t, ⟨ht, h1⟩, h2⟩; exact ⟨t, ⟨by rcases ht with h | h | h <;> simp [h], h1⟩, h2⟩)
/-- the count of common zeros among the points that g lets pass -/
noncomputable def zeros (p n : Nat) (g : List Int → Bool) (T : Po) : Nat := ((pts p n).filter fun x => g x && decide (ev x T % p = 0)).length
theorem zeros_perm1 (p n : Nat) (g : List Int → Bool) (a b c : List Int × Int) : zeros p n g [b, a, c] = zeros p n g [a, b, c] := by
  have : ∀ x, ev x [b, a, c] = ev x [a, b, c] := by intro x; rw [ev3, ev3]; lia
  simp only [zeros, this]
theorem zeros_perm2 (p n : Nat) (g : List Int → Bool) (a b c : List Int × Int) : zeros p n g [a, c, b] = zeros p n g [a, b, c] := by
  have : ∀ x, ev x [a, c, b] = ev x [a, b, c] := by intro x; rw [ev3, ev3]; lia
  simp only [zeros, this]
noncomputable def QQ (p n o : Nat) (g : List Int → Bool) (a b c : List Int × Int) : Prop := CW p n ((dgT p [a, b, c]).toNat + o) (dgT p [a, b, c]).toNat (zeros p n g [a, b, c])
theorem QQ1 {p n o : Nat} {g : List Int → Bool} (a b c : List Int × Int) (h : QQ p n o g a b c) : QQ p n o g b a c := by
  unfold QQ at h ⊢; rw [dgT_perm1, zeros_perm1]; exact h
theorem QQ2 {p n o : Nat} {g : List Int → Bool} (a b c : List Int × Int) (h : QQ p n o g a b c) : QQ p n o g a c b := by
  unfold QQ at h ⊢; rw [dgT_perm2, zeros_perm2]; exact h
theorem filter_len_congr {α : Type} {f g : α → Bool} {L : List α} (h : ∀ x ∈ L, f x = g x) : (L.filter f).length = (L.filter g).length := by
  rw [List.filter_congr h]
theorem link2 {n o Ms : Nat} {g : List Int → Bool} (hn : (pts 2 n).length < 63) (hM : packL ((pts 2 n).map fun x => bif g x then 1 else 0) = Ms) {tb : List Ent} (htb : (TL 2 n).map (enc 2 n) = tb) (h : all3 (chkM n o Ms) tb = true) :
    ∀ a ∈ TL 2 n, ∀ b ∈ TL 2 n, ∀ c ∈ TL 2 n, QQ 2 n o g a b c := by
  rw [← htb, all3_map] at h
  refine all3_spec QQ1 QQ2 (fun a ha b hb c hc hh => ?_) h
  have hz : zcM Ms ((enc 2 n a).2.2.2 + (enc 2 n b).2.2.2 + (enc 2 n c).2.2.2) = zeros 2 n g [a, b, c] := by
    rw [pack3, ← hM, zcM_pack _ g _ hn fun x _ => Nat.le_trans (tv3_lt (by decide) a b c x) (by decide)]
    refine filter_len_congr fun x _ => ?_
    congr 1
    rw [Bool.eq_iff_iff, tv3 (by decide), decide_eq_true_iff]
  have := cw_of hh
  rw [dN_eq ha hb hc, hz] at this
  exact this
theorem link3 {n : Nat} {tb : List Ent} (htb : (TL 3 n).map (enc 3 n) = tb) {N : Nat} (hN : (pts 3 n).length = N) (h : all3 (chk3 n N) tb = true) :
    ∀ a ∈ TL 3 n, ∀ b ∈ TL 3 n, ∀ c ∈ TL 3 n, QQ 3 n 0 (fun _ => true) a b c := by
  rw [← htb, all3_map] at h
  refine all3_spec QQ1 QQ2 (fun a ha b hb c hc hh => ?_) h
  have hz : czq (fun d => Nat.beq (d % 3) 0) N ((enc 3 n a).2.2.2 + (enc 3 n b).2.2.2 + (enc 3 n c).2.2.2) 0 = zeros 3 n (fun _ => true) [a, b, c] := by
    rw [pack3, ← hN, czq_pack _ _ _ _ fun x _ => Nat.le_trans (tv3_lt (by decide) a b c x) (by decide), Nat.add_zero]
    refine filter_len_congr fun x _ => ?_
    rw [Bool.true_and, Bool.eq_iff_iff, tv3 (by decide), decide_eq_true_iff]
  have := cw_of hh
  rw [dN_eq ha hb hc, hz] at this
  exact this
theorem cw_one {p n : Nat} (hf : isForm p n) : ∀ a ∈ TL p n, ∀ b ∈ TL p n, ∀ c ∈ TL p n, QQ p n 0 (fun _ => true) a b c := by
  rcases hf with h | h | h | h | h <;> obtain ⟨rfl, rfl⟩ := h
  · exact link3 tab32_ok (by rw [pts_length]) cw32
  · exact link2 (by rw [pts_length]; decide) msk3_ok tab23_ok cw23
  · exact link3 tab33_ok (by rw [pts_length]) cw33
  · exact link2 (by rw [pts_length]; decide) msk4_ok tab24_ok cw24
  · exact link2 (by rw [pts_length]; decide) msk5_ok tab25_ok cw25
theorem cw_two {i : Nat} (hi : i < 4) (b : Bool) : ∀ x ∈ TL 2 4, ∀ y ∈ TL 2 4, ∀ z ∈ TL 2 4, QQ 2 4 1 (sval (i, b)) x y z := by
  have hs : (i, b) ∈ secL := by
    simp only [secL, List.mem_flatMap, List.mem_range]
    exact ⟨i, hi, by cases b <;> simp⟩
  have h := cw242
  rw [← secs4_ok, List.all_eq_true] at h
  exact link2 (by rw [pts_length]; decide) rfl tab24_ok (h _ (List.mem_map.mpr ⟨(i, b), hs, rfl⟩))
/-- sums over the points -/
theorem smB_of {p n : Nat} (hf : isForm p n) : smB p n = true := by
  rcases hf with h | h | h | h | h <;> obtain ⟨rfl, rfl⟩ := h
  · exact sm32
  · exact sm23
  · exact sm33
  · exact sm24
  · exact sm25
theorem mem_pts (p : Nat) (n : Nat) : ∀ (k : List Int), k.length = n → (∀ i ∈ k, 0 ≤ i ∧ i < p) → k ∈ pts p n := by
  induction n with
  | zero =>
    intro k h _
    cases k with
    | nil => simp [pts]
    | cons => simp at h
  | succ n ih =>
    intro k h hk
    have hne : k ≠ [] := by intro e; subst e; simp at h
    have e := List.dropLast_concat_getLast hne
    have hlast := hk _ (List.getLast_mem hne)
    rw [← e]
    simp only [pts, List.mem_flatMap, List.mem_map, List.mem_range]
    refine ⟨k.dropLast, ih _ (by simp [h]) fun i hi => hk i (List.dropLast_subset _ hi), (k.getLast hne).toNat, by lia, ?_⟩
    rw [Int.toNat_of_nonneg hlast.1]
theorem sum_ev {p n : Nat} (hf : isForm p n) {R : Po} (hR : ∀ k ∈ keys R, k.length = n ∧ ∀ i ∈ k, 0 ≤ i ∧ i < p) (hn : (keys R).Nodup) :
    (((pts p n).map fun x => ev x R).sum - (-1) ^ n * (pget R (List.replicate n ((p : Int) - 1))).getD 0) % (p : Int) = 0 := by
  have hsm := smB_of hf
  simp only [smB, List.all_eq_true, decide_eq_true_eq] at hsm
  induction R with
  | nil =>
    have : ((pts p n).map fun x => ev x []).sum = 0 := by
      induction (pts p n) with
      | nil => rfl
      | cons y r ih => rw [List.map_cons, List.sum_cons, ih]; rfl
    rw [this]; simp [pget]
  | cons e r ih =>
    have hr := ih (fun k hk => hR k (by simp only [keys, List.map_cons, List.mem_cons] at hk ⊢; exact .inr hk)) (by simp only [keys, List.map_cons, List.nodup_cons] at hn; exact hn.2)
    obtain ⟨h1, h2⟩ := hR e.1 (by simp [keys])
    have hk := hsm e.1 (mem_pts p n e.1 h1 h2)
    have hsum : ((pts p n).map fun x => ev x (e :: r)).sum = e.2 * ((pts p n).map fun x => mono x e.1).sum + ((pts p n).map fun x => ev x r).sum := by
      induction (pts p n) with
      | nil => simp
      | cons y l ih2 => rw [List.map_cons, List.sum_cons, ih2, ev_cons, List.map_cons, List.sum_cons, List.map_cons, List.sum_cons, Int.mul_add]; lia
    obtain ⟨u, hu⟩ := Int.dvd_of_emod_eq_zero hr
    obtain ⟨v, hv⟩ := Int.dvd_of_emod_eq_zero hk
    apply Int.emod_eq_zero_of_dvd
    refine ⟨u + e.2 * v, ?_⟩
    have hmm : ((pts p n).map fun x => mono x e.1).sum = (if e.1 = List.replicate n ((p : Int) - 1) then (-1) ^ n else 0) + p * v := by lia
    have hss : ((pts p n).map fun x => ev x r).sum = (-1) ^ n * (pget r (List.replicate n ((p : Int) - 1))).getD 0 + p * u := by lia
    rw [hsum, hmm, hss]
    by_cases ht : e.1 = List.replicate n ((p : Int) - 1)
    · have hg1 : pget (e :: r) (List.replicate n ((p : Int) - 1)) = some e.2 := by simp [pget, ht]
      have hg2 : pget r (List.replicate n ((p : Int) - 1)) = none := by
        rw [pget_none, ← ht]
        simp only [keys, List.map_cons, List.nodup_cons] at hn
        exact hn.1
      rw [hg1, hg2, if_pos ht, Option.getD_some, Option.getD_none, Int.mul_add, Int.mul_zero, Int.mul_add, Int.mul_comm e.2 ((-1) ^ n), Int.mul_left_comm e.2]
      lia
    · have hg1 : pget (e :: r) (List.replicate n ((p : Int) - 1)) = pget r (List.replicate n ((p : Int) - 1)) := by simp [pget, ht]
      rw [hg1, if_neg ht, Int.zero_add, Int.mul_add, Int.mul_left_comm e.2]
      lia
end Mine
end
section
open PySem
set_option maxRecDepth 100000
set_option linter.unusedVariables false
set_option linter.unusedSimpArgs false
set_option linter.unusedSectionVars false
namespace Mine
/-- the state of the law -/
noncomputable def rhoL (v0 v1 v2 v3 v4 v5 v6 v7 v8 v9 v10 v11 v12 v13 v14 v15 v16 v17 v18 : Option D) : Rho :=
  [v0, v1, v2, v3, v4, v5, v6, v7, v8, v9, v10, v11, v12, v13, v14, v15, v16, v17, v18, none, none, none, none, none, none, none, none, none, none, none, none, none]
theorem ppow_ok {p n : Nat} {d : Int} {B : Nat} {P : Po} (hp : p = 2 ∨ p = 3) (h : Ok n d B P) : Ok n (if p = 2 then d else d + d) (if p = 2 then B else B * B) (ppow p n P) := by
  rcases hp with e | e <;> subst e
  · have := (Ok.num n 0 (by decide)).pmul h
    simp only [ppow, if_true, Nat.one_mul, Int.zero_add] at this ⊢
    exact this
  · have := (Ok.num n 0 (by decide)).pmul (h.pmul h)
    simp only [ppow, show ¬ (3 = 2) by decide, if_false, Nat.one_mul, Int.zero_add] at this ⊢
    exact this
theorem ev_num (x : List Int) (n : Nat) : ev x (pnum n) = 1 := by
  have : ∀ (n : Nat) (x : List Int), mono x (List.replicate n 0) = 1 := by
    intro n
    induction n with
    | zero => intro x; cases x <;> rfl
    | succ n ih => intro x; cases x with
      | nil => rfl
      | cons y x => rw [List.replicate_succ, mono, ih]; simp
  rw [pnum, ev_cons, ev_nil, this]; rfl
theorem ev_ppow (x : List Int) {p n : Nat} {d : Int} {B : Nat} {P : Po} (hp : p = 2 ∨ p = 3) (h : Ok n d B P) : ev x (ppow p n P) = if p = 2 then ev x P else ev x P * ev x P := by
  rcases hp with e | e <;> subst e
  · simp only [ppow, if_true]
    rw [ev_pmul x (Ok.num n 0 (by decide)).kk h.kk, ev_num, Int.one_mul]
  · simp only [ppow, show ¬ (3 = 2) by decide, if_false]
    rw [ev_pmul x (Ok.num n 0 (by decide)).kk (h.pmul h).kk, ev_num, Int.one_mul, ev_pmul x h.kk h.kk]
noncomputable def fac (p n : Nat) (P : Po) : Po := psub (pnum n) (ppow p n P)
theorem fac_ok {p n : Nat} {d : Int} {B : Nat} {P : Po} (hp : p = 2 ∨ p = 3) (hd : 0 ≤ d) (h : Ok n d B P) : Ok n (if p = 2 then d else d + d) (1 + if p = 2 then B else B * B) (fac p n P) :=
  (Ok.num n _ (by split <;> lia)).psub (ppow_ok hp h)
theorem ev_fac (x : List Int) {p n : Nat} {d : Int} {B : Nat} {P : Po} (hp : p = 2 ∨ p = 3) (h : Ok n d B P) : ev x (fac p n P) % (p : Int) = if ev x P % (p : Int) = 0 then 1 else 0 := by
  rw [fac, ev_psub, ev_num, ev_ppow x hp h]
  rcases hp with e | e <;> subst e
  · simp only [if_true]; split <;> lia
  · simp only [show ¬ (3 = 2) by decide, if_false]
    generalize ev x P = v
    have h3 : v % 3 = 0 ∨ v % 3 = 1 ∨ v % 3 = 2 := by lia
    have hm : (v * v) % 3 = (v % 3) * (v % 3) % 3 := Int.mul_emod v v 3
    show (1 - v * v) % (3 : Int) = if v % (3 : Int) = 0 then 1 else 0
    rcases h3 with e | e | e <;> rw [e] at hm <;> rw [e]
    · rw [if_pos rfl]; lia
    · rw [if_neg (by decide)]; lia
    · rw [if_neg (by decide)]; lia
theorem HN_num (n : Nat) : HN (pnum n) := by simp [HN, pnum, keys]
noncomputable def toldS : S := (.assign 8 (.call 19 (.cons (.var 8) (.cons (.call 17 (.cons (.var 7) (.cons (.call 20 (.cons (.var 9) (.cons (.bin .sub (.var 2) (.cst (.int 1))) (.cons (.var 3) .nil)))) .nil))) .nil))))
theorem told_step {fz : List Nat} {st : St} {p n : Nat} (hp : p = 2 ∨ p = 3) (hn : n ≤ 5) {o t f : Nat} {T P : Po} {dT d : Int} {BT B : Nat} (ho : st[o]? = some (.dic (toD (pnum n)))) (ht : st[t]? = some (.dic (toD T))) (hf : st[f]? = some (.dic (toD P)))
    (hT : Ok n dT BT T) (hP : Ok n d B P) (hd : 0 ≤ d) (hB : B ≤ 6) (hBT : BT ≤ 100) (hfz : ∀ r ∈ fz, r < st.length) {v0 v1 v4 v5 v6 v10 v11 v12 v13 v14 v15 v16 v17 v18} :
    ∃ t' st', exS (callAll tab 31) toldS fz (rhoL v0 v1 (some (.int (p : Nat))) (some (.int (n : Nat))) v4 v5 v6 (some (.obj o)) (some (.obj t)) (some (.obj f)) v10 v11 v12 v13 v14 v15 v16 v17 v18) st =
      some (.next, rhoL v0 v1 (some (.int (p : Nat))) (some (.int (n : Nat))) v4 v5 v6 (some (.obj o)) (some (.obj t')) (some (.obj f)) v10 v11 v12 v13 v14 v15 v16 v17 v18, st') ∧ st'[t']? = some (.dic (toD (pmul T (fac p n P)))) ∧ Ext st st' := by
  obtain ⟨st1, r1, h1, h2, h3⟩ := mvpower_spec (N := 31) (by lia) (fz := fz) hf hfz hP (by lia) (n := n) (by lia) hp
  have hpo := ppow_ok (n := n) hp hP
  have hpl : (if p = 2 then B else B * B) ≤ 36 := by
    have : B * B ≤ 6 * 6 := Nat.mul_le_mul hB hB
    split <;> lia
  have hle1 := h3.le
  have h4 := mvsub_spec (N := 31) (by lia) (fz := fz) (h3.get ho) h2 (fun r hr => by have := hfz r hr; lia) (Ok.num n 0 (by decide)).nodup (Ok.num n 0 (by decide)).nz (HN_num n) hpo.nodup hpo.nz (by have := hpo.l1; have := (Ok.num n 0 (by decide)).l1; lia)
  have hfac := fac_ok (n := n) hp hd hP
  generalize hst2 : st1 ++ [Cont.dic (toD (pneg (ppow p n P))), Cont.dic (toD (psub (pnum n) (ppow p n P)))] = st2 at h4
  have hx2 : Ext st1 st2 := ⟨_, hst2.symm⟩
  have h5 : st2[st1.length + 1]? = some (.dic (toD (fac p n P))) := by
    rw [← hst2, List.getElem?_append_right (by lia), show st1.length + 1 - st1.length = 1 by lia]; rfl
  have hle2 := hx2.le
  have h6 := mvmul_spec (N := 31) (by lia) (fz := fz) (hx2.get (h3.get ht)) h5 (fun r hr => by have := hfz r hr; lia) hT hfac hBT (by lia) (by lia)
  refine ⟨st2.length, st2 ++ [.dic (toD (pmul T (fac p n P)))], ?_, get_last _ _, (h3.trans hx2).trans (Ext.one _ _)⟩
  exact xAssign (eCall (l2 (eVar rfl) (eCall (l2 (eVar rfl) (eCall (l3 (eVar rfl) (eBin (eVar rfl) eCst rfl) (eVar rfl)) h1)) h4)) h6)
/-- turned -/
noncomputable def turnE : E := .lcomp [none, none, none, some 3, some 2] [1] .range (.var 3) .nil (.dict (.cons (.call 26 (.cons (.var 3) (.cons (.bin .mul (.tup (.cons (.var 1) .nil)) (.var 4)) .nil))) (.cons (.tup (.cons (.cst (.int 1)) (.cons (.cst (.int 1)) .nil))) (.cons (.call 26 (.cons (.var 3) (.cons (.tup (.cons (.var 1) .nil)) .nil))) (.cons (.tup (.cons (.neg (.cst (.int 1))) (.cons (.cst (.int 1)) .nil))) .nil)))))
theorem turn_spec {fz : List Nat} {st : St} {p n : Nat} (hf : isForm p n) {v0 v1 v4 v5 v6 v7 v8 v9 v10 v11 v12 v13 v14 v15 v16 v17 v18} :
    evE (callAll tab 31) turnE fz (rhoL v0 v1 (some (.int (p : Nat))) (some (.int (n : Nat))) v4 v5 v6 v7 v8 v9 v10 v11 v12 v13 v14 v15 v16 v17 v18) st = some (tsD n fun i => st.length + i, st ++ (List.range n).map fun i => .dic (toD (turn n p i))) := by
  have hp : 2 ≤ p ∧ p ≤ 3 ∧ n ≤ 5 := by rcases hf with h | h | h | h | h <;> lia
  rw [turnE, evE_lcomp_alloc (L := List.range n) (enc := fun i => .int (i : Nat)) (c := fun i => .dic (toD (turn n p i))) (d := .int (n : Nat)) (st1 := st) (eVar rfl) (items_range (by lia) st) (by rw [lim_eq]; simp; lia) (by
    intro pre i post hw
    have hi : i < n := by
      have : i ∈ List.range n := by rw [hw]; simp
      exact List.mem_range.mp this
    refine ⟨[none, some (.int (i : Nat)), none, some (.int (n : Nat)), some (.int (p : Nat))], rfl, ?_⟩
    generalize hs : st ++ pre.map (fun i => Cont.dic (toD (turn n p i))) = s
    have hsl : s.length = st.length + pre.length := by rw [← hs]; simp
    have p1 := powers_spec (N := 31) (by lia) (fz := fzOf (.int (n : Nat)) fz) (st := s) (n := n) (by lia) (List.replicate p i) (by simp; lia)
    have p2 := powers_spec (N := 31) (by lia) (fz := fzOf (.int (n : Nat)) fz) (st := s) (n := n) (by lia) [i] (by simp)
    have hb : binD .mul (.tup [.int (i : Nat)]) (.int (p : Nat)) = some (.tup ((List.replicate p i).map fun d => .int (d : Nat))) := by
      rw [binD_rep (by lia)]; simp [pw]
    have hne : lpow n (List.replicate p i) ≠ lpow n [i] := by
      intro e
      have h := (turnOk_of hf hi)
      have h4 := h.2.2.2
      rw [e, lexGt_irr] at h4; cases h4
    have hp : pairsD [pw (lpow n (List.replicate p i)), rt 1, pw (lpow n [i]), rt (-1)] [] = some (toD (turn n p i)) := by
      show (keyOf (pw (lpow n (List.replicate p i)))).bind _ = _
      rw [keyOf_pw, Option.bind_some]
      show (keyOf (pw (lpow n [i]))).bind _ = _
      rw [keyOf_pw, Option.bind_some]
      show some (dput (toD [(lpow n (List.replicate p i), 1)]) (lpow n [i]) (rt (-1))) = _
      rw [dput_none (fun q => hne (List.mem_singleton.mp q).symm)]; rfl
    have h0 := eDict (cf := callAll tab 31) (ps := toD (turn n p i)) (lCons (eCall (l2 (eVar (fz := fzOf (.int (n : Nat)) fz) (ρ := [none, some (.int (i : Nat)), none, some (.int (n : Nat)), some (.int (p : Nat))]) (st := s) (i := 3) rfl) (eBin (eTup1 (eVar (i := 1) rfl)) (eVar (i := 4) rfl) hb)) p1) (l3 (eTup2 (eCst (d := .int 1)) (eCst (d := .int 1))) (eCall (l2 (eVar (i := 3) rfl) (eTup1 (eVar (i := 1) rfl))) p2) (eTup2 (eNeg (eCst (d := .int 1))) (eCst (d := .int 1))))) (by show 4 < 30; decide) hp
    rw [hsl] at h0
    exact h0)]
  rw [List.length_range]; rfl
end Mine
end
section
open PySem
set_option maxRecDepth 100000
set_option linter.unusedVariables false
set_option linter.unusedSimpArgs false
set_option linter.unusedSectionVars false
namespace Mine
noncomputable def pmod (p : Nat) (R : Po) : Po := R.map fun e => (e.1, e.2 % (p : Int))
theorem keys_pmod (p : Nat) (R : Po) : keys (pmod p R) = keys R := by simp [keys, pmod]
theorem ev_pmod (x : List Int) (p : Nat) (R : Po) : ev x (pmod p R) % (p : Int) = ev x R % (p : Int) := by
  apply Int.emod_eq_emod_iff_emod_sub_eq_zero.mpr
  induction R with
  | nil => simp [pmod, ev]
  | cons e r ih =>
    have h : pmod p (e :: r) = (e.1, e.2 % (p : Int)) :: pmod p r := rfl
    rw [h, ev_cons, ev_cons]
    obtain ⟨u, hu⟩ := Int.dvd_of_emod_eq_zero ih
    apply Int.emod_eq_zero_of_dvd
    refine ⟨u - e.2 / p * mono x e.1, ?_⟩
    have h1 := Int.emod_add_mul_ediv e.2 (p : Int)
    have h2 : e.2 % (p : Int) = e.2 - p * (e.2 / p) := by lia
    show e.2 % (p : Int) * mono x e.1 + _ - _ = _
    rw [h2, Int.mul_sub, ← hu, Int.sub_mul, Int.mul_assoc]
    lia
theorem pget_pmod (p : Nat) (R : Po) (k : List Int) : pget (pmod p R) k = (pget R k).map fun c => c % (p : Int) := by
  induction R with
  | nil => rfl
  | cons e r ih =>
    have h : pmod p (e :: r) = (e.1, e.2 % (p : Int)) :: pmod p r := rfl
    rw [h]
    simp only [pget, List.find?_cons] at ih ⊢
    by_cases hk : e.1 = k <;> simp [hk]
    simpa using ih
noncomputable def shBody : S := (.cons (.ife (.bop false (.cons (.cmp .ne (.idx (.idx (.var 11) (.var 13)) (.cst (.int 1))) (.cst (.int 1))) (.cons (.cmp .ge (.blt .max (.cons (.var 13) .nil)) (.var 2)) .nil)))
 (.cons (.ret (.cst (.bool false)))
 .nil)
 .nil)
 (.cons (.setItem (.var 12) (.var 13) (.tup (.cons (.bin .mod (.idx (.idx (.var 11) (.var 13)) (.cst (.int 0))) (.var 2)) (.cons (.cst (.int 1)) .nil))))
 .nil))
theorem foldl_lt (l : List Int) : ∀ (a m : Int), a < m → (∀ y ∈ l, y < m) → l.foldl (fun m y => if m < y then y else m) a < m := by
  induction l with
  | nil =>
    intro a m h _
    exact h
  | cons y r ih =>
    intro a m h h'
    rw [List.foldl_cons]
    refine ih _ m ?_ fun z hz => h' z (List.mem_cons_of_mem _ hz)
    have := h' y List.mem_cons_self
    split <;> omega
theorem max_lt {k : List Int} (hk : k ≠ []) {m : Int} (h : ∀ i ∈ k, i < m) (st : St) : ∃ v, v < m ∧ bltD .max [pw k] st = some (.int v, st) := by
  cases k with
  | nil => exact absurd rfl hk
  | cons a r =>
    refine ⟨r.foldl (fun m y => if m < y then y else m) a, foldl_lt r a m (h a List.mem_cons_self) fun y hy => h y (List.mem_cons_of_mem _ hy), ?_⟩
    have h1 : D.ints ((a :: r).map .int) = some (a :: r) := ints_map _
    rw [pw, bMax, h1]; rfl
theorem shown_loop {fz : List Nat} {st0 : St} {p n rr : Nat} (hp : 2 ≤ p) (hn0 : 0 < n) {R : Po} (hr : st0[rr]? = some (.dic (toD R))) (hfz : ∀ r ∈ fz, r < st0.length) (hn : (keys R).Nodup) (hl : R.length ≤ 1000) (hR : ∀ k ∈ keys R, k.length = n ∧ ∀ i ∈ k, 0 ≤ i ∧ i < p) {v0 v1 v3 v4 v5 v6 v7 v8 v9 v10 v13 v14 v15 v16 v17 v18} :
    ∃ v13', exS (callAll tab 31) (.fore [13] .plain (.var 11) shBody) fz (rhoL v0 v1 (some (.int (p : Nat))) v3 v4 v5 v6 v7 v8 v9 v10 (some (.obj rr)) (some (.obj st0.length)) v13 v14 v15 v16 v17 v18) (st0 ++ [.dic []]) =
      some (.next, rhoL v0 v1 (some (.int (p : Nat))) v3 v4 v5 v6 v7 v8 v9 v10 (some (.obj rr)) (some (.obj st0.length)) v13' v14 v15 v16 v17 v18, st0 ++ [.dic (toD (pmod p R))]) := by
  have hrl := lt_of_get hr
  have hp0 : ¬ (p = 0) := by lia
  have hfm : ∀ z : Int, Int.fmod z (p : Int) = z % (p : Int) := fun z => Int.fmod_eq_emod_of_nonneg _ (by lia)
  have key := forL_list (fun x ρ st => (bindT [13] x ρ).bind fun ρ' => exS (callAll tab 31) shBody (fzOf (.obj rr) fz) ρ' st) (fun e : List Int × Int => pw e.1)
    (fun pre ρ s => (∃ pv, ρ = rhoL v0 v1 (some (.int (p : Nat))) v3 v4 v5 v6 v7 v8 v9 v10 (some (.obj rr)) (some (.obj st0.length)) pv v14 v15 v16 v17 v18) ∧ s = st0 ++ [.dic (toD (pmod p pre))]) R
    (by
      rintro pre e post ρ s hw ⟨⟨pv, rfl⟩, rfl⟩
      have hmem : e ∈ R := by rw [hw]; simp
      obtain ⟨k1, k2⟩ := hR e.1 (List.mem_map.mpr ⟨e, hmem, rfl⟩)
      have h1 := subD_po (get_old [.dic (toD (pmod p pre))] hr) (get_split hw hn)
      obtain ⟨v, hv, h2⟩ := max_lt (k := e.1) (by intro q; rw [q] at k1; simp at k1; lia) (m := p) (fun i hi => (k2 i hi).2) (st0 ++ [Cont.dic (toD (pmod p pre))])
      have hk : e.1 ∉ keys (pmod p pre) := by
        rw [keys_pmod]
        intro q
        rw [hw, keys_append] at hn
        exact (List.nodup_append.mp hn).2.2 _ q _ (by simp [keys]) rfl
      have h3 := setItemD_dic (get_last st0 (.dic (toD (pmod p pre)))) (fz := fzOf (.obj rr) fz) (by
        intro q
        rcases List.mem_cons.mp q with q | q
        · lia
        · have := hfz _ q; lia) (by
        have : pre.length ≤ R.length := by rw [hw]; simp
        simp only [toD, pmod, List.length_map]; rw [lim_eq]; lia) e.1 (rt (e.2 % p))
      rw [dput_none hk, set_last] at h3
      have h4 : pmod p pre ++ [(e.1, e.2 % (p : Int))] = pmod p (pre ++ [e]) := by simp [pmod]
      rw [h4] at h3
      have hge : cmpD (st0 ++ [Cont.dic (toD (pmod p pre))]) .ge (.int v) (.int (p : Nat)) = some false := by
        show some (decide (v ≥ (p : Int))) = _
        simp; omega
      refine ⟨rhoL v0 v1 (some (.int (p : Nat))) v3 v4 v5 v6 v7 v8 v9 v10 (some (.obj rr)) (some (.obj st0.length)) (some (pw e.1)) v14 v15 v16 v17 v18, st0 ++ [.dic (toD (pmod p (pre ++ [e])))], ?_, ⟨_, rfl⟩, rfl⟩
      have hm : binD .mod (.int e.2) (.int (p : Nat)) = some (.int (e.2 % p)) := by rw [binD_int, intBin_mod, if_neg (by lia), hfm]; rfl
      exact bindX (bindT_1 ..) (Eq.trans (exS_next (xIfF (eBop (bGo (eCmp (eIdx (eIdx (eVar rfl) (eVar rfl) h1) eCst (subD_tup1 ..)) eCst rfl) (bLast (eCmp (eBlt (l1 (eVar rfl)) h2) (eVar rfl) hge)))) xNil)) (exS_next (ss := .nil) (xSet (eTup2 (eBin (eIdx (eIdx (eVar rfl) (eVar rfl) h1) eCst (subD_tup0 ..)) (eVar rfl) hm) eCst) (eVar rfl) (eVar rfl) h3))))
    R [] (rhoL v0 v1 (some (.int (p : Nat))) v3 v4 v5 v6 v7 v8 v9 v10 (some (.obj rr)) (some (.obj st0.length)) v13 v14 v15 v16 v17 v18) (st0 ++ [.dic (toD [])]) rfl ⟨⟨_, rfl⟩, rfl⟩
  obtain ⟨ρ', st', h1, ⟨pv, rfl⟩, rfl⟩ := key
  exact ⟨pv, exS_for (d := .obj rr) (st1 := st0 ++ [.dic (toD [])]) (eVar rfl) (items_po (get_old _ hr)) h1⟩
section
variable {fz : List Nat} {st : St} {p n sh so : Nat} {X : Po} {fl : List (Nat × Po)}
noncomputable def metE : E := .lcomp [none, none, none, some 2, some 12] [1] .plain (.var 14) (.cmp .eq (.call 28 (.cons (.var 4) (.cons (.var 1) (.cons (.var 3) .nil)))) (.cst (.int 1))) (.var 1)
noncomputable def ptsD (p n : Nat) : D := .ilst ((pts p n).map pw)
noncomputable def metL (p n : Nat) (X : Po) : List (List Int) := (pts p n).filter fun x => decide (ev x X % (p : Int) = 1)
noncomputable def WOk (p n : Nat) (X : Po) : Prop := (keys X).Nodup ∧ ∀ e ∈ X, e.1.length = n ∧ e.2.natAbs ≤ 100 ∧ ∀ k ∈ e.1, 0 ≤ k ∧ k ≤ 4
theorem worth_at (hf : isForm p n) {N : Nat} (hN : 28 < N) (hx : st[sh]? = some (.dic (toD X))) (hw : WOk p n X) {x : List Int} (hm : x ∈ pts p n) : callAll tab N fz 28 [.obj sh, pw x, .int (p : Nat)] st = some (.int (ev x X % p), st) := by
  obtain ⟨h1, h2⟩ := pts_mem_len p n x hm
  have hp : 2 ≤ p ∧ p ≤ 3 ∧ n ≤ 5 := by rcases hf with h | h | h | h | h <;> lia
  refine worth_spec hN hx hw.1 (by lia) (by lia) (fun i hi => by have := h2 i hi; lia) fun e he => ?_
  obtain ⟨a, b, c⟩ := hw.2 e he
  exact ⟨by rw [a, h1], b, c⟩
theorem pts_small (hf : isForm p n) : (pts p n).length ≤ 32 := by
  rw [pts_length]
  rcases hf with h | h | h | h | h <;> obtain ⟨rfl, rfl⟩ := h <;> decide
theorem met_spec (hf : isForm p n) (hx : st[sh]? = some (.dic (toD X))) (hw : WOk p n X) {v0 v1 v3 v4 v5 v6 v7 v8 v9 v10 v11 v13 v15 v16 v17 v18} :
    evE (callAll tab 31) metE fz (rhoL v0 v1 (some (.int (p : Nat))) v3 v4 v5 v6 v7 v8 v9 v10 v11 (some (.obj sh)) v13 (some (ptsD p n)) v15 v16 v17 v18) st = some (.ilst ((metL p n X).map pw), st) := by
  have hs := pts_small hf
  rw [metE, evE_lcomp (L := pts p n) (enc := pw) (g := pw) (q := fun x => decide (ev x X % (p : Int) = 1)) (d := ptsD p n) (st1 := st) (eVar rfl) (items_plain_ilst _ _) (by rw [lim_eq]; lia) (by
    intro x hxm
    have h1 := worth_at hf (N := 31) (by lia) (fz := fzOf (ptsD p n) fz) hx hw hxm
    exact ⟨[none, some (pw x), none, some (.int (p : Nat)), some (.obj sh)], rfl, eCmp (eCall (l3 (eVar rfl) (eVar rfl) (eVar rfl)) h1) eCst (cmpD_eq_int ..), fun _ => eVar rfl⟩)]
  rfl
noncomputable def degE : E := .lcomp [none, none, none] [1] .plain (.var 6) .nil (.blt .max (.cons (.bin .add (.listI (.cons (.cst (.int 1)) .nil)) (.lcomp [none, none, none] [1] .plain (.var 1) .nil (.blt .sum (.cons (.var 1) .nil)))) .nil))
noncomputable def FlOk (n so : Nat) (st : St) (fl : List (Nat × Po)) : Prop := st[so]? = some (.lst (fl.map fun q => .obj q.1)) ∧ fl.length ≤ 2 ∧ ∀ q ∈ fl, st[q.1]? = some (.dic (toD q.2)) ∧ WOk 0 n q.2 ∧ q.2.length ≤ 1000
theorem items_lst {r : Nat} {xs : List D} (h : st[r]? = some (.lst xs)) : items .plain (.obj r) st = some xs := by
  exact bS h
theorem deg_spec (hn : n ≤ 5) (hfl : FlOk n so st fl) {v0 v1 v2 v3 v4 v5 v7 v8 v9 v10 v11 v12 v13 v14 v15 v16 v17 v18} :
    evE (callAll tab 31) degE fz (rhoL v0 v1 v2 v3 v4 v5 (some (.obj so)) v7 v8 v9 v10 v11 v12 v13 v14 v15 v16 v17 v18) st = some (.ilst ((fl.map fun q => dgP q.2).map .int), st) := by
  obtain ⟨f1, f2, f3⟩ := hfl
  rw [degE, evE_lcomp (L := fl) (enc := fun q => .obj q.1) (g := fun q => .int (dgP q.2)) (q := fun _ => true) (d := .obj so) (st1 := st) (eVar rfl) (items_lst f1) (by rw [lim_eq]; lia) (by
    intro q hq
    obtain ⟨q1, q2, q3⟩ := f3 q hq
    refine ⟨[none, some (.obj q.1), none], rfl, eTrue, fun _ => ?_⟩
    have h1 : evE (callAll tab 31) (.lcomp [none, none, none] [1] .plain (.var 1) .nil (.blt .sum (.cons (.var 1) .nil))) (fzOf (.obj so) fz) [none, some (.obj q.1), none] st = some (.ilst ((q.2.map fun e => e.1.sum).map .int), st) := by
      rw [evE_lcomp (L := q.2) (enc := fun e => pw e.1) (g := fun e => .int e.1.sum) (q := fun _ => true) (d := .obj q.1) (st1 := st) (eVar rfl) (items_po q1) (by rw [lim_eq]; lia) (by
        intro e he
        have hsum := bltD_sum e.1 st (by have := (q2.2 e he).1; lia)
        exact ⟨[none, some (pw e.1), none], rfl, eTrue, fun _ => eBlt (l1 (eVar rfl)) hsum⟩), filter_true, List.map_map]; rfl
    have h2 : evE (callAll tab 31) (.listI (.cons (.cst (.int 1)) .nil)) (fzOf (.obj so) fz) [none, some (.obj q.1), none] st = some (.ilst [.int 1], st) := eListI (l1 eCst) (by show 1 < lim; decide)
    have h3 : binD .add (.ilst [.int 1]) (.ilst ((q.2.map fun e => e.1.sum).map .int)) = some (.ilst (.int 1 :: (q.2.map fun e => e.1.sum).map .int)) := binD_ilst (by rw [List.length_map, List.length_map, lim_eq]; simp only [List.length_cons, List.length_nil]; lia)
    have h4 : bltD .max [.ilst (.int 1 :: (q.2.map fun e => e.1.sum).map .int)] st = some (.int (dgP q.2), st) := by
      have h1 : D.ints (.int 1 :: (q.2.map fun e => e.1.sum).map .int) = some (1 :: q.2.map fun e => e.1.sum) := ints_map (1 :: q.2.map fun (e : List Int × Int) => e.1.sum)
      rw [bMaxI, h1]; rfl
    exact eBlt (l1 (eBin h2 h1 h3)) h4), filter_true, List.map_map]
  rfl
theorem mem_ninD {x : List Int} {L : List (List Int)} : cmpD st .nin (pw x) (.ilst (L.map pw)) = some (!L.any fun y => decide (y = x)) := by
  have hk : ∀ L : List (List Int), keysOf (L.map pw) = some L := by
    intro L
    induction L with
    | nil => rfl
    | cons y r ih => rw [List.map_cons, keysOf, keyOf_pw, Option.bind_some, ih]; rfl
  show ninD (pw x) (L.map pw) = _
  rw [ninD, keyOf_pw, Option.bind_some, hk]; rfl
theorem eq_ilst {L M : List (List Int)} : eqD (.ilst (L.map pw)) (.ilst (M.map pw)) = some (decide (L = M)) := by
  have hk : ∀ L : List (List Int), keysOf (L.map pw) = some L := by
    intro L
    induction L with
    | nil => rfl
    | cons y r ih => rw [List.map_cons, keysOf, keyOf_pw, Option.bind_some, ih]; rfl
  show (if (L.map pw).length = (M.map pw).length then (keysOf (L.map pw)).bind fun x => (keysOf (M.map pw)).map fun y => decide (x = y) else some false) = _
  rw [List.length_map, List.length_map, hk, hk]
  split
  · rfl
  · rename_i h
    have : ¬ L = M := fun e => h (by rw [e])
    simp [this]
noncomputable def noneE : E := .lcomp [none, none, none, some 15, some 2, some 12] [1] .plain (.var 14) (.bop true (.cons (.cmp .nin (.var 1) (.var 3)) (.cons (.cmp .ne (.call 28 (.cons (.var 5) (.cons (.var 1) (.cons (.var 4) .nil)))) (.cst (.int 0))) .nil))) (.var 1)
theorem none_spec (hf : isForm p n) (hx : st[sh]? = some (.dic (toD X))) (hw : WOk p n X) {L : List (List Int)} (hval : ∀ x ∈ pts p n, x ∈ L ∨ ev x X % (p : Int) = 0) {v0 v1 v3 v4 v5 v6 v7 v8 v9 v10 v11 v13 v16 v17 v18} :
    evE (callAll tab 31) noneE fz (rhoL v0 v1 (some (.int (p : Nat))) v3 v4 v5 v6 v7 v8 v9 v10 v11 (some (.obj sh)) v13 (some (ptsD p n)) (some (.ilst (L.map pw))) v16 v17 v18) st = some (.ilst [], st) := by
  have hs := pts_small hf
  rw [noneE, evE_lcomp (L := pts p n) (enc := pw) (g := pw) (q := fun _ => false) (d := ptsD p n) (st1 := st) (eVar rfl) (items_plain_ilst _ _) (by rw [lim_eq]; lia) (by
    intro x hxm
    have h1 := worth_at hf (N := 31) (by lia) (fz := fzOf (ptsD p n) fz) hx hw hxm
    refine ⟨[none, some (pw x), none, some (.ilst (L.map pw)), some (.int (p : Nat)), some (.obj sh)], rfl, ?_, fun q => by cases q⟩
    have h2 := mem_ninD (st := st) (x := x) (L := L)
    rcases hval x hxm with q | q
    · have h3 : (L.any fun y => decide (y = x)) = true := by simpa using q
      rw [h3] at h2
      exact eBop (bStop (eCmp (eVar rfl) (eVar rfl) h2) (by decide))
    · rw [q] at h1
      cases h3 : (L.any fun y => decide (y = x)) <;> rw [h3] at h2
      · exact eBop (bGo (eCmp (eVar rfl) (eVar rfl) h2) (bLast (eCmp (eCall (l3 (eVar rfl) (eVar rfl) (eVar rfl)) h1) eCst rfl)))
      · exact eBop (bStop (eCmp (eVar rfl) (eVar rfl) h2) (by decide)))]
  simp
noncomputable def allE : E := .lcomp [none, none, some 2, some 6] [1] .plain (.var 14) (.cmp .eq (.lcomp [none, none, none, some 2, some 1] [1] .plain (.var 3) (.cmp .ne (.call 28 (.cons (.var 1) (.cons (.var 4) (.cons (.var 3) .nil)))) (.cst (.int 0))) (.var 1)) (.listI .nil)) (.var 1)
theorem all_spec (hf : isForm p n) (hfl : FlOk n so st fl) {v0 v1 v3 v4 v5 v7 v8 v9 v10 v11 v12 v13 v15 v16 v17 v18} :
    evE (callAll tab 31) allE fz (rhoL v0 v1 (some (.int (p : Nat))) v3 v4 v5 (some (.obj so)) v7 v8 v9 v10 v11 v12 v13 (some (ptsD p n)) v15 v16 v17 v18) st =
      some (.ilst (((pts p n).filter fun x => fl.all fun q => decide (ev x q.2 % (p : Int) = 0)).map pw), st) := by
  obtain ⟨f1, f2, f3⟩ := hfl
  have hs := pts_small hf
  rw [allE, evE_lcomp (L := pts p n) (enc := pw) (g := pw) (q := fun x => fl.all fun q => decide (ev x q.2 % (p : Int) = 0)) (d := ptsD p n) (st1 := st) (eVar rfl) (items_plain_ilst _ _) (by rw [lim_eq]; lia) (by
    intro x hxm
    refine ⟨[none, some (pw x), some (.int (p : Nat)), some (.obj so)], rfl, ?_, fun _ => eVar rfl⟩
    have h1 : evE (callAll tab 31) (.lcomp [none, none, none, some 2, some 1] [1] .plain (.var 3) (.cmp .ne (.call 28 (.cons (.var 1) (.cons (.var 4) (.cons (.var 3) .nil)))) (.cst (.int 0))) (.var 1)) (fzOf (ptsD p n) fz) [none, some (pw x), some (.int (p : Nat)), some (.obj so)] st = some (.ilst ((fl.filter fun q => !decide (ev x q.2 % (p : Int) = 0)).map fun q => .obj q.1), st) := by
      rw [evE_lcomp (L := fl) (enc := fun q => .obj q.1) (g := fun q => .obj q.1) (q := fun q => !decide (ev x q.2 % (p : Int) = 0)) (d := .obj so) (st1 := st) (eVar rfl) (items_lst f1) (by rw [lim_eq]; lia) (by
        intro q hq
        obtain ⟨q1, q2, q3⟩ := f3 q hq
        have h1 := worth_at hf (N := 31) (by lia) (fz := fzOf (.obj so) (fzOf (ptsD p n) fz)) q1 q2 hxm
        exact ⟨[none, some (.obj q.1), none, some (.int (p : Nat)), some (pw x)], rfl, eCmp (eCall (l3 (eVar rfl) (eVar rfl) (eVar rfl)) h1) eCst (cmpD_ne ..), fun _ => eVar rfl⟩)]
    have h2 : cmpD st .eq (.ilst ((fl.filter fun q => !decide (ev x q.2 % (p : Int) = 0)).map fun q => .obj q.1)) (.ilst []) = some (fl.all fun q => decide (ev x q.2 % (p : Int) = 0)) := by
      show (if ((fl.filter fun q => !decide (ev x q.2 % (p : Int) = 0)).map fun q => D.obj q.1).length = ([] : List D).length then _ else some false) = _
      rw [List.length_map]
      by_cases h : (fl.filter fun q => !decide (ev x q.2 % (p : Int) = 0)) = []
      · rw [h]
        have h3 : (fl.all fun q => decide (ev x q.2 % (p : Int) = 0)) = true := by
          rw [List.filter_eq_nil_iff] at h
          rw [List.all_eq_true]
          intro q hq
          simpa using h q hq
        rw [h3]; rfl
      · have h3 : (fl.all fun q => decide (ev x q.2 % (p : Int) = 0)) = false := by
          cases h4 : (fl.all fun q => decide (ev x q.2 % (p : Int) = 0)) with
          | false => rfl
          | true =>
            exfalso; apply h
            rw [List.filter_eq_nil_iff]
            intro q hq
            have := List.all_eq_true.mp h4 q hq
            simp only [this, Bool.not_true, Bool.false_eq_true, not_false_iff]
        rw [h3, if_neg]
        intro q
        exact h (List.length_eq_zero_iff.mp q)
    have h3 : evE (callAll tab 31) (.listI .nil) (fzOf (ptsD p n) fz) [none, some (pw x), some (.int (p : Nat)), some (.obj so)] st = some (.ilst [], st) := eListI lNil (by show 0 < lim; decide)
    exact eCmp h1 h3 h2)]
end
end Mine
end
section
open PySem
set_option maxRecDepth 100000
set_option linter.unusedVariables false
set_option linter.unusedSimpArgs false
set_option linter.unusedSectionVars false
namespace Mine
noncomputable def cwE : E := .bop true (.cons (.cmp .gt (.var 17) (.cst (.int 0))) (.cons (.bop false (.cons (.cmp .ne (.bin .mod (.blt .len (.cons (.var 15) .nil)) (.bin .pow (.var 2) (.bin .sub (.cst (.int 0)) (.bin .div (.bin .sub (.cst (.int 0)) (.var 17)) (.blt .max (.cons (.var 16) .nil)))))) (.cst (.int 0))) (.cons (.cmp2 .lt .lt (.cst (.int 0)) (.blt .len (.cons (.var 15) .nil)) (.bin .pow (.var 2) (.var 17))) .nil))) .nil))
theorem fdiv_ceil {l m : Nat} (hl : 1 ≤ l) (hl4 : l ≤ 4) (hm : 1 ≤ m) (hm2 : m ≤ 2) : Int.fdiv (0 - (l : Int)) (m : Int) = -(((l + m - 1) / m : Nat) : Int) := by
  have h1 : l = 1 ∨ l = 2 ∨ l = 3 ∨ l = 4 := by lia
  have h2 : m = 1 ∨ m = 2 := by lia
  rcases h1 with h | h | h | h <;> rcases h2 with h' | h' <;> subst h <;> subst h' <;> decide
@[simp] theorem cmpD_lt_int (st : St) (a b : Int) : cmpD st .lt (.int a) (.int b) = some (decide (a < b)) := rfl
theorem cw_false {fz : List Nat} {st : St} {p n s M : Nat} (hf : isForm p n) {L : List (List Int)} {ds : List Int} (hL : L.length ≤ 1000) (hM : maxInts ds = some (M : Int)) (hM1 : 1 ≤ M) (hM2 : M ≤ 2) (hs : 1 ≤ s) (hcw : CW p n s M L.length) {v0 v1 v3 v4 v5 v6 v7 v8 v9 v10 v11 v12 v13 v14 v18} :
    evE (callAll tab 31) cwE fz (rhoL v0 v1 (some (.int (p : Nat))) v3 v4 v5 v6 v7 v8 v9 v10 v11 v12 v13 v14 (some (.ilst (L.map pw))) (some (.ilst (ds.map .int))) (some (.int ((n : Int) - s))) v18) st = some (.bool false, st) := by
  have hp : 2 ≤ p ∧ p ≤ 3 ∧ n ≤ 5 := by rcases hf with h | h | h | h | h <;> lia
  have hlen := bltD_len_ilst (L.map pw) st (by rw [List.length_map, lim_eq]; lia)
  rw [List.length_map] at hlen
  by_cases hns : n ≤ s
  · have h0 : cmpD st .gt (.int ((n : Int) - s)) (.int 0) = some false := by
      show some (decide ((n : Int) - s > 0)) = _
      simp; lia
    exact eBop (bStop (eCmp (eVar rfl) eCst h0) (by decide))
  · have h0 : cmpD st .gt (.int ((n : Int) - s)) (.int 0) = some true := by
      show some (decide ((n : Int) - s > 0)) = _
      simp; lia
    obtain ⟨c1, c2⟩ := hcw.resolve_left hns
    generalize hl : n - s = l at c1 c2
    have hli : (n : Int) - s = (l : Nat) := by lia
    have hfd := fdiv_ceil (l := l) (m := M) (by lia) (by lia) hM1 hM2
    generalize he : (l + M - 1) / M = e at hfd c1
    have he64 : e ≤ 64 := by
      rw [← he]
      exact Nat.le_trans (Nat.div_le_self _ _) (by lia)
    have hmax : bltD .max [.ilst (ds.map .int)] st = some (.int (M : Int), st) := by
      rw [bMaxI, ints_map, Option.bind_some, hM]; rfl
    have hdiv : intBin .div (0 - (l : Int)) (M : Int) = some (-(e : Int)) := by
      show (if (M : Int) ≠ 0 ∧ (M : Int).natAbs < 2 ^ 64 then some (Int.fdiv (0 - (l : Int)) (M : Int)) else none) = _
      rw [if_pos ⟨by lia, by lia⟩, hfd]
    have hpe : intBin .pow (p : Int) (0 - -(e : Int)) = some ((p ^ e : Nat) : Int) := by
      rw [intBin_pow (by lia) (by lia) (by lia), show (0 - -(e : Int)).toNat = e by lia]
      congr 1
    have hpl : intBin .pow (p : Int) (l : Int) = some ((p ^ l : Nat) : Int) := by
      rw [intBin_pow (by lia) (by lia) (by lia), show ((l : Int)).toNat = l by lia]
      congr 1
    have hpos : 0 < p ^ e := Nat.pow_pos (by lia)
    have hmod : intBin .mod (L.length : Int) ((p ^ e : Nat) : Int) = some 0 := by
      show (if ((p ^ e : Nat) : Int) = 0 then none else some (Int.fmod (L.length : Int) ((p ^ e : Nat) : Int))) = _
      rw [if_neg (by intro q; have := Int.natCast_eq_zero.mp q; lia), Int.fmod_eq_emod_of_nonneg _ (Int.natCast_nonneg _), ← Int.natCast_emod, c1]; rfl
    rw [hli] at h0 ⊢
    have hlt : (0 < L.length ∧ L.length < p ^ l) → False := by
      rintro ⟨a, b⟩
      rcases c2 with c | c <;> lia
    have hA : evE (callAll tab 31) (.cmp .ne (.bin .mod (.blt .len (.cons (.var 15) .nil)) (.bin .pow (.var 2) (.bin .sub (.cst (.int 0)) (.bin .div (.bin .sub (.cst (.int 0)) (.var 17)) (.blt .max (.cons (.var 16) .nil)))))) (.cst (.int 0))) fz (rhoL v0 v1 (some (.int (p : Nat))) v3 v4 v5 v6 v7 v8 v9 v10 v11 v12 v13 v14 (some (.ilst (L.map pw))) (some (.ilst (ds.map .int))) (some (.int (l : Nat))) v18) st = some (.bool false, st) := by
      have i1 : binD .sub (.int 0) (.int (l : Nat)) = some (.int (0 - (l : Int))) := rfl
      have i2 : binD .div (.int (0 - (l : Int))) (.int (M : Nat)) = some (.int (-(e : Int))) := by rw [binD_int, hdiv]; rfl
      have i3 : binD .sub (.int 0) (.int (-(e : Int))) = some (.int (0 - -(e : Int))) := rfl
      have i4 : binD .pow (.int (p : Nat)) (.int (0 - -(e : Int))) = some (.int ((p ^ e : Nat) : Int)) := by rw [binD_int, hpe]; rfl
      have i5 : binD .mod (.int (L.length : Nat)) (.int ((p ^ e : Nat) : Int)) = some (.int 0) := by rw [binD_int, hmod]; rfl
      exact eCmp (eBin (eBlt (l1 (eVar rfl)) hlen) (eBin (eVar rfl) (eBin eCst (eBin (eBin eCst (eVar rfl) i1) (eBlt (l1 (eVar rfl)) hmax) i2) i3) i4) i5) eCst rfl
    have hB : evE (callAll tab 31) (.cmp2 .lt .lt (.cst (.int 0)) (.blt .len (.cons (.var 15) .nil)) (.bin .pow (.var 2) (.var 17))) fz (rhoL v0 v1 (some (.int (p : Nat))) v3 v4 v5 v6 v7 v8 v9 v10 v11 v12 v13 v14 (some (.ilst (L.map pw))) (some (.ilst (ds.map .int))) (some (.int (l : Nat))) v18) st = some (.bool false, st) := by
      have i6 : binD .pow (.int (p : Nat)) (.int (l : Nat)) = some (.int ((p ^ l : Nat) : Int)) := by rw [binD_int, hpl]; rfl
      by_cases hz : 0 < L.length
      · have h1 : decide ((0 : Int) < (L.length : Int)) = true := decide_eq_true (by lia)
        have h2 : decide ((L.length : Int) < ((p ^ l : Nat) : Int)) = false := decide_eq_false fun q => hlt ⟨hz, by lia⟩
        exact eCmp2T eCst (eBlt (l1 (eVar rfl)) hlen) (congrArg some h1) (eBin (eVar rfl) (eVar rfl) i6) (congrArg some h2)
      · have h1 : decide ((0 : Int) < (L.length : Int)) = false := decide_eq_false (by lia)
        exact eCmp2F eCst (eBlt (l1 (eVar rfl)) hlen) (congrArg some h1)
    exact eBop (bGo (eCmp (eVar rfl) eCst h0) (bLast (eBop (bGo hA (bLast hB)))))
end Mine
end
section
open PySem
set_option maxRecDepth 100000
set_option linter.unusedVariables false
set_option linter.unusedSimpArgs false
set_option linter.unusedSectionVars false
namespace Mine
theorem sum_cong {α : Type} {p : Int} (f g : α → Int) (L : List α) : (∀ x ∈ L, f x % p = g x % p) → ((L.map f).sum - (L.map g).sum) % p = 0 := by
  induction L with
  | nil =>
    intro _
    simp
  | cons x r ih =>
    intro h
    have h1 := h x List.mem_cons_self
    have h2 := ih fun y hy => h y (List.mem_cons_of_mem _ hy)
    have h3 := Int.emod_eq_emod_iff_emod_sub_eq_zero.mp h1
    obtain ⟨u, hu⟩ := Int.dvd_of_emod_eq_zero h2
    obtain ⟨v, hv⟩ := Int.dvd_of_emod_eq_zero h3
    rw [List.map_cons, List.map_cons, List.sum_cons, List.sum_cons]
    apply Int.emod_eq_zero_of_dvd
    refine ⟨u + v, ?_⟩
    rw [Int.mul_add, ← hu, ← hv]; lia
theorem sum_ind {α : Type} (Z : α → Bool) (L : List α) : (L.map fun x => if Z x = true then (1 : Int) else 0).sum = ((L.filter Z).length : Int) := by
  induction L with
  | nil =>
    exact rfl
  | cons x r ih =>
    rw [List.map_cons, List.sum_cons, ih, List.filter_cons]
    cases Z x <;> simp <;> lia
noncomputable def s9 : S := .assignT [11, 12] (.tup (.cons (.call 24 (.cons (.var 8) (.cons (.var 10) (.cons (.var 5) .nil)))) (.cons (.dict .nil) .nil)))
noncomputable def s14 : S := .assignT [17, 18] (.tup (.cons (.bin .sub (.var 3) (.blt .sum (.cons (.var 16) .nil))) (.cons (.idx (.meth .get (.var 12) (.cons (.bin .mul (.tup (.cons (.bin .sub (.var 2) (.cst (.int 1))) .nil)) (.var 3)) (.cons (.tup (.cons (.cst (.int 0)) (.cons (.cst (.int 1)) .nil))) .nil))) (.cst (.int 0))) .nil)))
noncomputable def s15 : S := .ife (.cmp .ne (.bin .mod (.bin .sub (.var 18) (.bin .mul (.bin .pow (.neg (.cst (.int 1))) (.var 3)) (.blt .len (.cons (.var 15) .nil)))) (.var 2)) (.cst (.int 0)))
 (.cons (.ret (.cst (.bool false)))
 .nil)
 .nil
noncomputable def s16 : S := .ife cwE (.cons (.ret (.cst (.bool false))) .nil) .nil
noncomputable def s17 : S := .ife (.cmp .ne noneE (.listI .nil)) (.cons (.ret (.cst (.bool false))) .nil) .nil
noncomputable def s18 : S := .ret (.cmp .eq (.var 15) allE)
noncomputable def lawTail : S := .cons (.assign 10 turnE) (.cons s9 (.cons (.fore [13] .plain (.var 11) shBody) (.cons (.assign 14 (.call 27 (.cons (.var 2) (.cons (.var 3) .nil)))) (.cons (.assign 15 metE) (.cons (.assign 16 degE) (.cons s14 (.cons s15 (.cons s16 (.cons s17 (.cons s18 .nil))))))))))
theorem s14_spec {fz : List Nat} {st : St} {p n sh : Nat} {X : Po} (hp : 1 ≤ p) (hn : n < 1000) {ds : List Int} (hds : ds.length < 1000) {s : Nat} (hsum : ds.sum = s) (hx : st[sh]? = some (.dic (toD X))) {v0 v1 v4 v5 v6 v7 v8 v9 v10 v11 v13 v14 v15 v17 v18} :
    exS (callAll tab 31) s14 fz (rhoL v0 v1 (some (.int (p : Nat))) (some (.int (n : Nat))) v4 v5 v6 v7 v8 v9 v10 v11 (some (.obj sh)) v13 v14 v15 (some (.ilst (ds.map .int))) v17 v18) st =
      some (.next, rhoL v0 v1 (some (.int (p : Nat))) (some (.int (n : Nat))) v4 v5 v6 v7 v8 v9 v10 v11 (some (.obj sh)) v13 v14 v15 (some (.ilst (ds.map .int))) (some (.int ((n : Int) - s))) (some (.int ((pget X (List.replicate n ((p : Int) - 1))).getD 0))), st) := by
  have h1 : bltD .sum [.ilst (ds.map .int)] st = some (.int (s : Int), st) := by
    rw [bSumI, ints_map, Option.bind_some, if_pos (lt_lim hds), hsum]
  have h2 : binD .mul (.tup [.int ((p : Int) - 1)]) (.int (n : Nat)) = some (pw (List.replicate n ((p : Int) - 1))) := binD_rep hn _
  have h3 : methD fz .get (.obj sh) [pw (List.replicate n ((p : Int) - 1)), .tup [.int 0, .int 1]] st = some (rt ((pget X (List.replicate n ((p : Int) - 1))).getD 0), st) := by
    rw [mGet, hx]
    show (keyOf (pw (List.replicate n ((p : Int) - 1)))).map _ = _
    rw [keyOf_pw, Option.map_some, dget_toD]
    cases pget X (List.replicate n ((p : Int) - 1)) <;> rfl
  exact xAssignT (eTup2 (eBin (eVar rfl) (eBlt (l1 (eVar rfl)) h1) rfl) (eIdx (eMeth (eVar rfl) (fitsM_get hx) (l2 (eBin (eTup1 (eBin (eVar rfl) eCst rfl)) (eVar rfl) h2) (eTup2 eCst eCst)) h3) eCst (subD_tup0 ..))) rfl
theorem s15_spec {fz : List Nat} {st : St} {p n : Nat} (hf : isForm p n) {L : List (List Int)} (hL : L.length ≤ 1000) {top : Int} (htop : (top - (-1) ^ n * (L.length : Int)) % (p : Int) = 0) {v0 v1 v4 v5 v6 v7 v8 v9 v10 v11 v12 v13 v14 v16 v17} :
    exS (callAll tab 31) s15 fz (rhoL v0 v1 (some (.int (p : Nat))) (some (.int (n : Nat))) v4 v5 v6 v7 v8 v9 v10 v11 v12 v13 v14 (some (.ilst (L.map pw))) v16 v17 (some (.int top))) st =
      some (.next, rhoL v0 v1 (some (.int (p : Nat))) (some (.int (n : Nat))) v4 v5 v6 v7 v8 v9 v10 v11 v12 v13 v14 (some (.ilst (L.map pw))) v16 v17 (some (.int top)), st) := by
  have hp : 2 ≤ p ∧ p ≤ 3 ∧ n ≤ 5 := by rcases hf with h | h | h | h | h <;> lia
  have hlen := bltD_len_ilst (L.map pw) st (by rw [List.length_map, lim_eq]; lia)
  rw [List.length_map] at hlen
  have h1 : binD .pow (.int (-1)) (.int (n : Nat)) = some (.int ((-1) ^ n)) := by
    rw [binD_int, intBin_pow (by lia) (by lia) (by decide)]; rfl
  have habs : ((-1 : Int) ^ n).natAbs = 1 := by rw [Int.natAbs_pow]; simp
  have h2 : binD .mul (.int ((-1) ^ n)) (.int (L.length : Nat)) = some (.int ((-1) ^ n * (L.length : Int))) := by
    rw [binD_int, intBin_mul (by lia) (by lia)]; rfl
  have h3 : binD .sub (.int top) (.int ((-1) ^ n * (L.length : Int))) = some (.int (top - (-1) ^ n * (L.length : Int))) := rfl
  have h4 : binD .mod (.int (top - (-1) ^ n * (L.length : Int))) (.int (p : Nat)) = some (.int 0) := by
    rw [binD_int]
    show Option.map D.int (if (p : Int) = 0 then none else some (Int.fmod _ _)) = _
    rw [if_neg (by lia), Int.fmod_eq_emod_of_nonneg _ (by lia), htop]; rfl
  exact xIfF (eCmp (eBin (eBin (eVar rfl) (eBin (eBin (eNeg eCst) (eVar rfl) h1) (eBlt (l1 (eVar rfl)) hlen) h2) h3) (eVar rfl) h4) eCst rfl) xNil
structure XF (p n : Nat) (fl : List (Nat × Po)) (X : Po) : Prop where
  evx : ∀ x ∈ pts p n, ev x X % (p : Int) = if (fl.all fun q => decide (ev x q.2 % (p : Int) = 0)) = true then 1 else 0
  W : WOk p n X
  met : metL p n X = (pts p n).filter fun x => fl.all fun q => decide (ev x q.2 % (p : Int) = 0)
  mlen : (metL p n X).length ≤ 1000
  top : ((pget X (List.replicate n ((p : Int) - 1))).getD 0 - (-1) ^ n * ((metL p n X).length : Int)) % (p : Int) = 0
theorem tail_facts {p n : Nat} (hf : isForm p n) (hp : 2 ≤ p ∧ p ≤ 3 ∧ n ≤ 5 ∧ 0 < n) {ord : Str} {fl : List (Nat × Po)} {T R X : Po} (hval : ∀ x ∈ pts p n, ev x T % (p : Int) = if (fl.all fun q => decide (ev x q.2 % (p : Int) = 0)) = true then 1 else 0)
    (I : DInv n p ord T [] R) (hRk : ∀ k ∈ keys R, k.length = n ∧ ∀ i ∈ k, 0 ≤ i ∧ i < p) (hX : pmod p R = X) : XF p n fl X := by
  have hps := pts_small hf
  have hXk : keys X = keys R := by rw [← hX, keys_pmod]
  have hXev : ∀ x ∈ pts p n, ev x X % (p : Int) = if (fl.all fun q => decide (ev x q.2 % (p : Int) = 0)) = true then 1 else 0 := by
    intro x hx
    have h1 := I.ev x hx
    rw [ev_nil, Int.add_zero] at h1
    rw [← hX, ev_pmod, Int.emod_eq_emod_iff_emod_sub_eq_zero.mpr h1]
    exact hval x hx
  have hW : WOk p n X := by
    refine ⟨by rw [hXk]; exact I.ndR, fun e he => ?_⟩
    obtain ⟨k1, k2⟩ := hRk e.1 (by rw [← hXk]; exact List.mem_map.mpr ⟨e, he, rfl⟩)
    refine ⟨k1, ?_, fun k hk => ⟨(k2 k hk).1, by have := (k2 k hk).2; lia⟩⟩
    rw [← hX] at he
    obtain ⟨y, _, rfl⟩ := List.mem_map.mp he
    have a := Int.emod_nonneg y.2 (b := (p : Int)) (by lia)
    have b := Int.emod_lt_of_pos y.2 (b := (p : Int)) (by lia)
    show (y.2 % (p : Int)).natAbs ≤ 100
    lia
  have hmet : metL p n X = (pts p n).filter fun x => fl.all fun q => decide (ev x q.2 % (p : Int) = 0) := by
    refine List.filter_congr fun x hx => ?_
    rw [hXev x hx]
    cases (fl.all fun q => decide (ev x q.2 % (p : Int) = 0)) <;> rfl
  have hmlen : (metL p n X).length ≤ 1000 := by
    have := List.length_filter_le (fun x => decide (ev x X % (p : Int) = 1)) (pts p n)
    unfold metL; lia
  have htop : ((pget X (List.replicate n ((p : Int) - 1))).getD 0 - (-1) ^ n * ((metL p n X).length : Int)) % (p : Int) = 0 := by
    have h1 := sum_ev hf (R := X) (by rw [hXk]; exact hRk) (by rw [hXk]; exact I.ndR)
    have h2 := sum_cong (p := (p : Int)) (fun x => ev x X) (fun x => if (fl.all fun q => decide (ev x q.2 % (p : Int) = 0)) = true then (1 : Int) else 0) (pts p n) (fun x hx => by
      rw [hXev x hx]
      split
      · rcases (by lia : p = 2 ∨ p = 3) with e | e <;> subst e <;> rfl
      · rcases (by lia : p = 2 ∨ p = 3) with e | e <;> subst e <;> rfl)
    rw [sum_ind, ← hmet] at h2
    generalize ((pts p n).map fun x => ev x X).sum = sm at h1 h2
    generalize (pget X (List.replicate n ((p : Int) - 1))).getD 0 = tp at h1 ⊢
    generalize ((metL p n X).length : Int) = z at h2 ⊢
    have hpow : ((-1 : Int) ^ n = 1) ∨ ((-1 : Int) ^ n = -1) := by
      rcases hf with h | h | h | h | h <;> obtain ⟨_, rfl⟩ := h <;> decide
    rcases (by lia : p = 2 ∨ p = 3) with e | e <;> subst e <;> rcases hpow with e | e <;> rw [e] at h1 ⊢ <;> lia
  exact ⟨hXev, hW, hmet, hmlen, htop⟩
theorem law_tail {p n so t : Nat} (hf : isForm p n) {ord : Str} (ho : isOrd ord) {st : St} {fl : List (Nat × Po)} {T : Po} (hfl : FlOk n so st fl) (ht : st[t]? = some (.dic (toD T))) (hT : Ok n 4 37 T)
    (hval : ∀ x ∈ pts p n, ev x T % (p : Int) = if (fl.all fun q => decide (ev x q.2 % (p : Int) = 0)) = true then 1 else 0) {M s : Nat} (hM : maxInts (fl.map fun q => dgP q.2) = some (M : Int)) (hM1 : 1 ≤ M) (hM2 : M ≤ 2) (hs : 1 ≤ s) (hsum : (fl.map fun q => dgP q.2).sum = s)
    (hcw : CW p n s M ((pts p n).filter fun x => fl.all fun q => decide (ev x q.2 % (p : Int) = 0)).length) {v0 v1 v4 v7 v9} :
    ∃ ρ' st', exS (callAll tab 31) lawTail [] (rhoL v0 v1 (some (.int (p : Nat))) (some (.int (n : Nat))) v4 (some (.str ord)) (some (.obj so)) v7 (some (.obj t)) v9 none none none none none none none none none) st = some (.ret (.bool true), ρ', st') := by
  have hp : 2 ≤ p ∧ p ≤ 3 ∧ n ≤ 5 ∧ 0 < n := by rcases hf with h | h | h | h | h <;> lia
  have hps := pts_small hf
  have e1 := turn_spec (fz := []) (st := st) hf (v0 := v0) (v1 := v1) (v4 := v4) (v5 := some (.str ord)) (v6 := some (.obj so)) (v7 := v7) (v8 := some (.obj t)) (v9 := v9) (v10 := none) (v11 := none) (v12 := none) (v13 := none) (v14 := none) (v15 := none) (v16 := none) (v17 := none) (v18 := none)
  generalize hst1 : st ++ (List.range n).map (fun i => Cont.dic (toD (turn n p i))) = st1 at e1
  have hl1 : st1.length = st.length + n := by rw [← hst1]; simp
  obtain ⟨st2, R, rr, e2, hrr, hrrl, I, hkeep⟩ := rest_of_spec (N := 31) (by lia) (n := n) (p := p) (ord := ord) (fz := []) hf ho (fun i => st.length + i) (P := T) (st := st1) (a := t) (by rw [← hst1]; exact get_old _ ht) hT (fun r hr => (by cases hr)) (fun i hi => by
    rw [← hst1, List.getElem?_append_right (by lia), show st.length + i - st.length = i by lia]; simp [hi])
  have hrr2 := lt_of_get hrr
  have hkeep2 : ∀ i < st.length, st2[i]? = st[i]? := by
    intro i hi
    rw [hkeep i (by lia), ← hst1, List.getElem?_append_left hi]
  have hRk : ∀ k ∈ keys R, k.length = n ∧ ∀ i ∈ k, 0 ≤ i ∧ i < p := fun k hk => ⟨(I.kkR k hk).1.len, fun i hi => ⟨(I.kkR k hk).1.pos i hi, (I.kkR k hk).2 i hi⟩⟩
  obtain ⟨v13, e3⟩ := shown_loop (fz := []) (st0 := st2) (p := p) (n := n) (rr := rr) (by lia) hp.2.2.2 hrr (fun r hr => (by cases hr)) I.ndR (by have := I.size; lia) hRk (v0 := v0) (v1 := v1) (v3 := some (.int (n : Nat))) (v4 := v4) (v5 := some (.str ord)) (v6 := some (.obj so)) (v7 := v7) (v8 := some (.obj t)) (v9 := v9) (v10 := some (tsD n fun i => st.length + i)) (v13 := none) (v14 := none) (v15 := none) (v16 := none) (v17 := none) (v18 := none)
  generalize hX : pmod p R = X at e3
  have XX := tail_facts hf hp hval I hRk hX
  generalize hst3 : st2 ++ [Cont.dic (toD X)] = st3 at e3
  have hsh : st3[st2.length]? = some (.dic (toD X)) := by rw [← hst3]; exact get_last _ _
  have hkeep3 : ∀ i < st.length, st3[i]? = st[i]? := by
    intro i hi
    rw [← hst3, List.getElem?_append_left (by lia)]
    exact hkeep2 i hi
  have hfl3 : FlOk n so st3 fl := by
    obtain ⟨f1, f2, f3⟩ := hfl
    refine ⟨by rw [hkeep3 so (lt_of_get f1)]; exact f1, f2, fun q hq => ?_⟩
    obtain ⟨q1, q2, q3⟩ := f3 q hq
    exact ⟨by rw [hkeep3 q.1 (lt_of_get q1)]; exact q1, q2, q3⟩
  have e4 := points_spec (N := 31) (by lia) (fz := []) (st := st3) hf
  have e5 := met_spec (fz := []) (st := st3) hf hsh XX.W (v0 := v0) (v1 := v1) (v3 := some (.int (n : Nat))) (v4 := v4) (v5 := some (.str ord)) (v6 := some (.obj so)) (v7 := v7) (v8 := some (.obj t)) (v9 := v9) (v10 := some (tsD n fun i => st.length + i)) (v11 := some (.obj rr)) (v13 := v13) (v15 := none) (v16 := none) (v17 := none) (v18 := none)
  have e6 := deg_spec (fz := []) (st := st3) hp.2.2.1 hfl3 (v0 := v0) (v1 := v1) (v2 := some (.int (p : Nat))) (v3 := some (.int (n : Nat))) (v4 := v4) (v5 := some (.str ord)) (v7 := v7) (v8 := some (.obj t)) (v9 := v9) (v10 := some (tsD n fun i => st.length + i)) (v11 := some (.obj rr)) (v12 := some (.obj st2.length)) (v13 := v13) (v14 := some (ptsD p n)) (v15 := some (.ilst ((metL p n X).map pw))) (v16 := none) (v17 := none) (v18 := none)
  have e7 := s14_spec (fz := []) (st := st3) (p := p) (n := n) (sh := st2.length) (X := X) (by lia) (by lia) (ds := fl.map fun q => dgP q.2) (by have := hfl.2.1; simp; lia) hsum hsh (v0 := v0) (v1 := v1) (v4 := v4) (v5 := some (.str ord)) (v6 := some (.obj so)) (v7 := v7) (v8 := some (.obj t)) (v9 := v9) (v10 := some (tsD n fun i => st.length + i)) (v11 := some (.obj rr)) (v13 := v13) (v14 := some (ptsD p n)) (v15 := some (.ilst ((metL p n X).map pw))) (v17 := none) (v18 := none)
  have e8 := s15_spec (fz := []) (st := st3) hf (L := metL p n X) XX.mlen XX.top (v0 := v0) (v1 := v1) (v4 := v4) (v5 := some (.str ord)) (v6 := some (.obj so)) (v7 := v7) (v8 := some (.obj t)) (v9 := v9) (v10 := some (tsD n fun i => st.length + i)) (v11 := some (.obj rr)) (v12 := some (.obj st2.length)) (v13 := v13) (v14 := some (ptsD p n)) (v16 := some (.ilst ((fl.map fun q => dgP q.2).map .int))) (v17 := some (.int ((n : Int) - s)))
  have e9 := cw_false (fz := []) (st := st3) hf (L := metL p n X) (ds := fl.map fun q => dgP q.2) XX.mlen hM hM1 hM2 hs (by rw [XX.met]; exact hcw) (v0 := v0) (v1 := v1) (v3 := some (.int (n : Nat))) (v4 := v4) (v5 := some (.str ord)) (v6 := some (.obj so)) (v7 := v7) (v8 := some (.obj t)) (v9 := v9) (v10 := some (tsD n fun i => st.length + i)) (v11 := some (.obj rr)) (v12 := some (.obj st2.length)) (v13 := v13) (v14 := some (ptsD p n)) (v18 := some (.int ((pget X (List.replicate n ((p : Int) - 1))).getD 0)))
  have e10 := none_spec (fz := []) (st := st3) hf hsh XX.W (L := metL p n X) (by
    intro x hx
    by_cases h : ev x X % (p : Int) = 1
    · left; exact List.mem_filter.mpr ⟨hx, decide_eq_true h⟩
    · right
      have := XX.evx x hx
      split at this
      · exact absurd this h
      · exact this) (v0 := v0) (v1 := v1) (v3 := some (.int (n : Nat))) (v4 := v4) (v5 := some (.str ord)) (v6 := some (.obj so)) (v7 := v7) (v8 := some (.obj t)) (v9 := v9) (v10 := some (tsD n fun i => st.length + i)) (v11 := some (.obj rr)) (v13 := v13) (v16 := some (.ilst ((fl.map fun q => dgP q.2).map .int))) (v17 := some (.int ((n : Int) - s))) (v18 := some (.int ((pget X (List.replicate n ((p : Int) - 1))).getD 0)))
  have e11 := all_spec (fz := []) (st := st3) hf hfl3 (v0 := v0) (v1 := v1) (v3 := some (.int (n : Nat))) (v4 := v4) (v5 := some (.str ord)) (v7 := v7) (v8 := some (.obj t)) (v9 := v9) (v10 := some (tsD n fun i => st.length + i)) (v11 := some (.obj rr)) (v12 := some (.obj st2.length)) (v13 := v13) (v15 := some (.ilst ((metL p n X).map pw))) (v16 := some (.ilst ((fl.map fun q => dgP q.2).map .int))) (v17 := some (.int ((n : Int) - s))) (v18 := some (.int ((pget X (List.replicate n ((p : Int) - 1))).getD 0)))
  rw [← XX.met] at e11
  refine ⟨rhoL v0 v1 (some (.int (p : Nat))) (some (.int (n : Nat))) v4 (some (.str ord)) (some (.obj so)) v7 (some (.obj t)) v9 (some (tsD n fun i => st.length + i)) (some (.obj rr)) (some (.obj st2.length)) v13 (some (ptsD p n)) (some (.ilst ((metL p n X).map pw))) (some (.ilst ((fl.map fun q => dgP q.2).map .int))) (some (.int ((n : Int) - s))) (some (.int ((pget X (List.replicate n ((p : Int) - 1))).getD 0))), st3, ?_⟩
  refine Eq.trans (exS_next (ρ' := rhoL v0 v1 (some (.int (p : Nat))) (some (.int (n : Nat))) v4 (some (.str ord)) (some (.obj so)) v7 (some (.obj t)) v9 (some (tsD n fun i => st.length + i)) none none none none none none none none) (st' := st1) ?_) ?_
  · exact mS e1
  refine Eq.trans (exS_next (ρ' := rhoL v0 v1 (some (.int (p : Nat))) (some (.int (n : Nat))) v4 (some (.str ord)) (some (.obj so)) v7 (some (.obj t)) v9 (some (tsD n fun i => st.length + i)) (some (.obj rr)) (some (.obj st2.length)) none none none none none none) (st' := st2 ++ [.dic []]) ?_) ?_
  · exact xAssignT (eTup2 (eCall (l3 (eVar rfl) (eVar rfl) (eVar rfl)) e2) eDict0) rfl
  refine Eq.trans (exS_next e3) ?_
  refine Eq.trans (exS_next (ρ' := rhoL v0 v1 (some (.int (p : Nat))) (some (.int (n : Nat))) v4 (some (.str ord)) (some (.obj so)) v7 (some (.obj t)) v9 (some (tsD n fun i => st.length + i)) (some (.obj rr)) (some (.obj st2.length)) v13 (some (ptsD p n)) none none none none) (st' := st3) ?_) ?_
  · exact xAssign (eCall (l2 (eVar rfl) (eVar rfl)) e4)
  refine Eq.trans (exS_next (ρ' := rhoL v0 v1 (some (.int (p : Nat))) (some (.int (n : Nat))) v4 (some (.str ord)) (some (.obj so)) v7 (some (.obj t)) v9 (some (tsD n fun i => st.length + i)) (some (.obj rr)) (some (.obj st2.length)) v13 (some (ptsD p n)) (some (.ilst ((metL p n X).map pw))) none none none) (st' := st3) ?_) ?_
  · exact mS e5
  refine Eq.trans (exS_next (ρ' := rhoL v0 v1 (some (.int (p : Nat))) (some (.int (n : Nat))) v4 (some (.str ord)) (some (.obj so)) v7 (some (.obj t)) v9 (some (tsD n fun i => st.length + i)) (some (.obj rr)) (some (.obj st2.length)) v13 (some (ptsD p n)) (some (.ilst ((metL p n X).map pw))) (some (.ilst ((fl.map fun q => dgP q.2).map .int))) none none) (st' := st3) ?_) ?_
  · exact mS e6
  refine Eq.trans (exS_next e7) ?_
  refine Eq.trans (exS_next e8) ?_
  refine Eq.trans (exS_next (ρ' := rhoL v0 v1 (some (.int (p : Nat))) (some (.int (n : Nat))) v4 (some (.str ord)) (some (.obj so)) v7 (some (.obj t)) v9 (some (tsD n fun i => st.length + i)) (some (.obj rr)) (some (.obj st2.length)) v13 (some (ptsD p n)) (some (.ilst ((metL p n X).map pw))) (some (.ilst ((fl.map fun q => dgP q.2).map .int))) (some (.int ((n : Int) - s))) (some (.int ((pget X (List.replicate n ((p : Int) - 1))).getD 0)))) (st' := st3) ?_) ?_
  · exact xIfF e9 xNil
  refine Eq.trans (exS_next (ρ' := rhoL v0 v1 (some (.int (p : Nat))) (some (.int (n : Nat))) v4 (some (.str ord)) (some (.obj so)) v7 (some (.obj t)) v9 (some (tsD n fun i => st.length + i)) (some (.obj rr)) (some (.obj st2.length)) v13 (some (ptsD p n)) (some (.ilst ((metL p n X).map pw))) (some (.ilst ((fl.map fun q => dgP q.2).map .int))) (some (.int ((n : Int) - s))) (some (.int ((pget X (List.replicate n ((p : Int) - 1))).getD 0)))) (st' := st3) ?_) (exS_ret ?_)
  · exact xIfF (eCmp e10 (eListI lNil (by show 0 < lim; decide)) rfl) xNil
  · have heq : cmpD st3 .eq (.ilst ((metL p n X).map pw)) (.ilst ((metL p n X).map pw)) = some true := by
      show eqD (.ilst ((metL p n X).map pw)) (.ilst ((metL p n X).map pw)) = _
      rw [eq_ilst, decide_eq_true rfl]
    exact xRet (eCmp (eVar rfl) e11 heq)
end Mine
end
section
open PySem
set_option maxRecDepth 100000
set_option linter.unusedVariables false
set_option linter.unusedSimpArgs false
set_option linter.unusedSectionVars false
namespace Mine
theorem sec_ok {p n : Nat} (hf : isForm p n) {i : Nat} (hi : i < n) (b : Bool) : Ok n 1 2 (secF n i b) := by
  have hne := lpow_ne_zero hf hi
  have hs := (turnOk_of hf hi).2.2.1
  have k1 : KK n 1 (lpow n [i]) := ⟨lpow_length _ _, lpow_pos _ _, by lia⟩
  have k2 : KK n 1 (List.replicate n 0) := ⟨by simp, fun j hj => by have := List.eq_of_mem_replicate hj; lia, by simp⟩
  cases b
  · refine ⟨by simp [secF, keys], fun e he => ?_, fun k hk => ?_, by simp [secF, L1]⟩
    · simp only [secF, List.mem_cons, Bool.false_eq_true, if_false, List.not_mem_nil, or_false] at he
      subst he; show (1 : Int) ≠ 0; decide
    · simp only [secF, keys, List.map_cons, Bool.false_eq_true, if_false, List.map_nil, List.mem_cons, List.not_mem_nil, or_false] at hk
      subst hk; exact k1
  · refine ⟨by simp [secF, keys, hne], fun e he => ?_, fun k hk => ?_, by simp [secF, L1]⟩
    · simp only [secF, List.mem_cons, if_true, List.not_mem_nil, or_false] at he
      rcases he with rfl | rfl <;> (show (1 : Int) ≠ 0; decide)
    · simp only [secF, keys, List.map_cons, if_true, List.map_nil, List.mem_cons, List.not_mem_nil, or_false] at hk
      rcases hk with rfl | rfl
      · exact k1
      · exact k2
theorem wok_of {n : Nat} {d : Int} {B : Nat} {P : Po} (h : Ok n d B P) (hd : d ≤ 4) (hB : B ≤ 100) : WOk 0 n P := by
  refine ⟨h.nodup, fun e he => ?_⟩
  have hk := h.kk e.1 (List.mem_map.mpr ⟨e, he, rfl⟩)
  refine ⟨hk.len, Nat.le_trans (h.abs he) hB, fun k hkk => ⟨hk.pos k hkk, ?_⟩⟩
  have := mem_le_sum hk.pos k hkk
  have := hk.deg
  lia
theorem dg_sec {p n : Nat} (hf : isForm p n) {i : Nat} (hi : i < n) (b : Bool) : dgP (secF n i b) = 1 := by
  have hs := (turnOk_of hf hi).2.2.1
  have h0 : (List.replicate n (0 : Int)).sum = 0 := by simp
  cases b <;> simp [dgP, secF, hs, dgL]
theorem dgT_bounds {p n : Nat} {T : Po} (hT : TOk p n T) : 1 ≤ dgT p T ∧ dgT p T ≤ 2 := by
  refine ⟨((dgL_le _ _).mp (Int.le_refl (dgT p T))).1, ?_⟩
  refine (dgL_le _ _).mpr ⟨by decide, fun y hy => ?_⟩
  obtain ⟨t, ht, rfl⟩ := List.mem_map.mp hy
  obtain ⟨⟨i, j, _, _, hij⟩, _⟩ := hT t (List.mem_filter.mp ht).1
  rw [hij]; exact lpow2_KK.deg
theorem three {α : Type} {T : List α} (h : T.length = 3) : ∃ a b c, T = [a, b, c] := by
  match T, h with
  | [a, b, c], _ => exact ⟨a, b, c, rfl⟩
theorem T_mem {p n : Nat} (hf : isForm p n) {T : Po} (hT : TOk p n T) {t : List Int × Int} (ht : t ∈ T) : t ∈ TL p n := by
  obtain ⟨⟨i, j, hi, hj, hij⟩, h1, h2⟩ := hT t ht
  exact mem_TL hf hi hj hij h1 h2
theorem cw_first {p n : Nat} (hf : isForm p n) {T : Po} (hT : TOk p n T) (hl : T.length = 3) : CW p n (dgT p T).toNat (dgT p T).toNat ((pts p n).filter fun x => [(0, P1 p T)].all fun (q : Nat × Po) => decide (ev x q.2 % (p : Int) = 0)).length := by
  obtain ⟨a, b, c, rfl⟩ := three hl
  have h := cw_one hf a (T_mem hf hT (by simp)) b (T_mem hf hT (by simp)) c (T_mem hf hT (by simp))
  unfold QQ zeros at h
  rw [Nat.add_zero] at h
  rw [filter_len_congr (g := fun x => true && decide (ev x [a, b, c] % (p : Int) = 0))]
  · exact h
  · intro x _
    simp only [List.all_cons, List.all_nil, Bool.and_true, Bool.true_and, ev_P1]
theorem cw_second {T : Po} (hT : TOk 2 4 T) (hl : T.length = 3) {i : Nat} (hi : i < 4) (b : Bool) : CW 2 4 ((dgT 2 T).toNat + 1) (dgT 2 T).toNat ((pts 2 4).filter fun x => [(0, P1 2 T), (0, secF 4 i b)].all fun (q : Nat × Po) => decide (ev x q.2 % ((2 : Nat) : Int) = 0)).length := by
  have hf : isForm 2 4 := .inr (.inr (.inr (.inl ⟨rfl, rfl⟩)))
  obtain ⟨a, b', c, rfl⟩ := three hl
  have h := cw_two hi b a (T_mem hf hT (by simp)) b' (T_mem hf hT (by simp)) c (T_mem hf hT (by simp))
  unfold QQ zeros at h
  rw [filter_len_congr (g := fun x => sval (i, b) x && decide (ev x [a, b', c] % ((2 : Nat) : Int) = 0))]
  · exact h
  · intro x _
    simp only [List.all_cons, List.all_nil, Bool.and_true, ev_P1, sval]
    rw [Bool.and_comm]; rfl
theorem all_fst {α : Type} (x : List Int) (p : Nat) (P : Po) (o : Nat) : ([(o, P)].all fun (q : Nat × Po) => decide (ev x q.2 % (p : Int) = 0)) = decide (ev x P % (p : Int) = 0) := by simp
/-- the state after the draws -/
structure After (p n lots : Nat) (st : St) (so : Nat) (fl : List (Nat × Po)) : Prop where
  ok : FlOk n so st fl
  one : ∃ d B, ∀ q ∈ fl, Ok n d B q.2 ∧ 0 ≤ d ∧ B ≤ 6
noncomputable def s5 : S := .ife (.cmp .eq (.var 4) (.cst (.int 2)))
 (.cons (.expr (.meth .append (.var 6) (.cons (.call 30 (.cons (.var 1) (.cons (.var 3) .nil))) .nil)))
 .nil)
 .nil
noncomputable def s6 : S := .assignT [7, 8] (.tup (.cons (.call 13 (.cons (.tup (.cons (.cst (.int 1)) (.cons (.cst (.int 1)) .nil))) (.cons (.var 3) .nil))) (.cons (.call 13 (.cons (.tup (.cons (.cst (.int 1)) (.cons (.cst (.int 1)) .nil))) (.cons (.var 3) .nil))) .nil)))
noncomputable def s7 : S := .fore [9] .plain (.var 6) (.cons toldS .nil)
noncomputable def lawMid : S := .cons s6 (.cons s7 lawTail)
theorem mid {p n so : Nat} (hf : isForm p n) {ord : Str} (ho : isOrd ord) {st : St} {fl : List (Nat × Po)} (hfl : FlOk n so st fl) {P : Po} {a : Nat} (hP : Ok n 2 (3 * (p - 1)) P)
    (hshape : fl = [(a, P)] ∨ ∃ b Q, p = 2 ∧ fl = [(a, P), (b, Q)] ∧ Ok n 1 2 Q)
    {M s : Nat} (hM : maxInts (fl.map fun q => dgP q.2) = some (M : Int)) (hM1 : 1 ≤ M) (hM2 : M ≤ 2) (hs : 1 ≤ s) (hsum : (fl.map fun q => dgP q.2).sum = s)
    (hcw : CW p n s M ((pts p n).filter fun x => fl.all fun q => decide (ev x q.2 % (p : Int) = 0)).length) {v0 v1 v4 v7 v8} :
    ∃ ρ' st', exS (callAll tab 31) lawMid [] (rhoL v0 v1 (some (.int (p : Nat))) (some (.int (n : Nat))) v4 (some (.str ord)) (some (.obj so)) v7 v8 none none none none none none none none none none) st = some (.ret (.bool true), ρ', st') := by
  have hp : (p = 2 ∨ p = 3) ∧ n ≤ 5 := by rcases hf with h | h | h | h | h <;> lia
  have h1 := mvnumber_spec (N := 31) (by lia) [] (n := n) (by lia) (c := 1) (by decide) st
  have h2 := mvnumber_spec (N := 31) (by lia) [] (n := n) (by lia) (c := 1) (by decide) (st ++ [.dic (toD [(List.replicate n 0, 1)])])
  generalize hst1 : st ++ [Cont.dic (toD [(List.replicate n 0, 1)])] ++ [.dic (toD [(List.replicate n 0, 1)])] = st1 at h2
  have hsl : (st ++ [Cont.dic (toD [(List.replicate n 0, 1)])]).length = st.length + 1 := by simp
  rw [hsl] at h2
  have hx1 : Ext st st1 := by rw [← hst1]; exact (Ext.one _ _).trans (Ext.one _ _)
  have ho1 : st1[st.length]? = some (.dic (toD (pnum n))) := by rw [← hst1]; exact get_old _ (get_last _ _)
  have ht1 : st1[st.length + 1]? = some (.dic (toD (pnum n))) := by rw [← hst1, ← hsl]; exact get_last _ _
  obtain ⟨f1, f2, f3⟩ := hfl
  have hfl' : ∀ st', Ext st st' → FlOk n so st' fl := fun st' hx => ⟨hx.get f1, f2, fun q hq => ⟨hx.get (f3 q hq).1, (f3 q hq).2⟩⟩
  have sA : ∀ v4, exS (callAll tab 31) s6 [] (rhoL v0 v1 (some (.int (p : Nat))) (some (.int (n : Nat))) v4 (some (.str ord)) (some (.obj so)) v7 v8 none none none none none none none none none none) st =
      some (.next, rhoL v0 v1 (some (.int (p : Nat))) (some (.int (n : Nat))) v4 (some (.str ord)) (some (.obj so)) (some (.obj st.length)) (some (.obj (st.length + 1))) none none none none none none none none none none, st1) := by
    intro v4
    exact xAssignT (eTup2 (eCall (l2 (eTup2 eCst eCst) (eVar rfl)) h1) (eCall (l2 (eTup2 eCst eCst) (eVar rfl)) h2)) rfl
  have hso1 := lt_of_get f1
  have hle1 := hx1.le
  have hPB : 3 * (p - 1) ≤ 6 := by lia
  rcases hshape with e | ⟨b, Q, hp2, e, hQ⟩
  · subst e
    have fa := (f3 (a, P) (by simp)).1
    obtain ⟨t', st2, g1, g2, g3⟩ := told_step (fz := [so]) (st := st1) hp.1 hp.2 ho1 ht1 (hx1.get fa) (Ok.num n 0 (by decide)) hP (by decide) hPB (by decide) (fun r hr => by simp at hr; lia) (v0 := v0) (v1 := v1) (v4 := v4) (v5 := some (.str ord)) (v6 := some (.obj so)) (v10 := none) (v11 := none) (v12 := none) (v13 := none) (v14 := none) (v15 := none) (v16 := none) (v17 := none) (v18 := none)
    have hfac := fac_ok (n := n) hp.1 (by decide) hP
    have hTok := ((Ok.num n 0 (by decide)).pmul hfac).mono' (e := 4) (C := 37) (by split <;> decide) (by
      rcases hp.1 with e | e <;> subst e <;> decide)
    obtain ⟨ρ', st', hh⟩ := law_tail hf ho (hfl' st2 (hx1.trans g3)) g2 hTok (by
      intro x hx
      rw [all_fst (α := Nat), ev_pmul x (Ok.num n 0 (by decide)).kk hfac.kk, ev_num, Int.one_mul, ev_fac x hp.1 hP]
      simp only [decide_eq_true_eq]) hM hM1 hM2 hs hsum hcw (v0 := v0) (v1 := v1) (v4 := v4) (v7 := some (.obj st.length)) (v9 := some (.obj a))
    refine ⟨ρ', st', Eq.trans (exS_next (sA v4)) (Eq.trans (exS_next (exS_for (d := .obj so) (its := [.obj a]) (st1 := st1) ?_ (items_lst (hx1.get f1)) ?_)) hh)⟩
    · exact eVar rfl
    · exact forL_next (bindX rfl (Eq.trans (exS_next (ss := .nil) g1) rfl)) rfl
  · subst e
    have fa := (f3 (a, P) (by simp)).1
    have fb := (f3 (b, Q) (by simp)).1
    obtain ⟨t', st2, g1, g2, g3⟩ := told_step (fz := [so]) (st := st1) hp.1 hp.2 ho1 ht1 (hx1.get fa) (Ok.num n 0 (by decide)) hP (by decide) hPB (by decide) (fun r hr => by simp at hr; lia) (v0 := v0) (v1 := v1) (v4 := v4) (v5 := some (.str ord)) (v6 := some (.obj so)) (v10 := none) (v11 := none) (v12 := none) (v13 := none) (v14 := none) (v15 := none) (v16 := none) (v17 := none) (v18 := none)
    have hfac := fac_ok (n := n) hp.1 (by decide) hP
    have hTok := (Ok.num n 0 (by decide)).pmul hfac
    have hle2 := g3.le
    obtain ⟨t2, st3, k1, k2, k3⟩ := told_step (fz := [so]) (st := st2) hp.1 hp.2 (g3.get ho1) g2 (g3.get (hx1.get fb)) hTok hQ (by decide) (by decide) (by subst hp2; decide) (fun r hr => by simp at hr; lia) (v0 := v0) (v1 := v1) (v4 := v4) (v5 := some (.str ord)) (v6 := some (.obj so)) (v10 := none) (v11 := none) (v12 := none) (v13 := none) (v14 := none) (v15 := none) (v16 := none) (v17 := none) (v18 := none)
    have hfac2 := fac_ok (n := n) hp.1 (by decide) hQ
    have hTok2 := (hTok.pmul hfac2).mono' (e := 4) (C := 37) (by subst hp2; decide) (by subst hp2; decide)
    obtain ⟨ρ', st', hh⟩ := law_tail hf ho (hfl' st3 ((hx1.trans g3).trans k3)) k2 hTok2 (by
      intro x hx
      rw [ev_pmul x hTok.kk hfac2.kk, ev_pmul x (Ok.num n 0 (by decide)).kk hfac.kk, ev_num, Int.one_mul, Int.mul_emod, ev_fac x hp.1 hP, ev_fac x hp.1 hQ]
      simp only [List.all_cons, List.all_nil, Bool.and_true, Bool.and_eq_true, decide_eq_true_eq]
      subst hp2
      generalize ev x P % ((2 : Nat) : Int) = u
      generalize ev x Q % ((2 : Nat) : Int) = w
      by_cases h1 : u = 0 <;> by_cases h2 : w = 0 <;> simp [h1, h2]) hM hM1 hM2 hs hsum hcw (v0 := v0) (v1 := v1) (v4 := v4) (v7 := some (.obj st.length)) (v9 := some (.obj b))
    refine ⟨ρ', st', Eq.trans (exS_next (sA v4)) (Eq.trans (exS_next (exS_for (d := .obj so) (its := [.obj a, .obj b]) (st1 := st1) ?_ (items_lst (hx1.get f1)) ?_)) hh)⟩
    · exact eVar rfl
    · exact forL_next (bindX rfl (Eq.trans (exS_next (ss := .nil) g1) rfl)) (forL_next (bindX rfl (Eq.trans (exS_next (ss := .nil) k1) rfl)) rfl)
end Mine
end
section
open PySem
set_option maxRecDepth 100000
set_option linter.unusedVariables false
set_option linter.unusedSimpArgs false
set_option linter.unusedSectionVars false
namespace Mine
noncomputable def poolE : E := .lcomp [none, none, none] [1] .plain (.head (.var 0) 13) .nil (.blt .int (.cons (.var 1) .nil))
theorem poolE_spec {script : List Int} (h : script.length ≤ 63) : evE (callAll tab 31) poolE [] (rhoL (some (.ilst (script.map .int))) none none none none none none none none none none none none none none none none none none) [] = some (.ilst ((script.take 13).map .int), []) := by
  have h0 : evE (callAll tab 31) (.head (.var 0) 13) [] (rhoL (some (.ilst (script.map .int))) none none none none none none none none none none none none none none none none none none) [] = some (.ilst ((script.take 13).map .int), []) := by
    rw [List.map_take]
    exact eHead (eVar rfl) (by rw [List.length_map]; exact lt_lim (by lia))
  rw [poolE, evE_lcomp (L := script.take 13) (enc := .int) (g := .int) (q := fun _ => true) h0 (items_plain_ilst _ _) (by rw [lim_eq]; simp; lia) (by
    intro x _
    exact ⟨_, rfl, eTrue, fun _ => eBlt (l1 (eVar rfl)) (rfl : bltD .int [.int x] [] = some (.int x, []))⟩), filter_true]
noncomputable def formE : E := (.tup (.cons (.tup (.cons (.cst (.int 3)) (.cons (.cst (.int 2)) (.cons (.cst (.int 1)) .nil)))) (.cons (.tup (.cons (.cst (.int 2)) (.cons (.cst (.int 3)) (.cons (.cst (.int 1)) .nil)))) (.cons (.tup (.cons (.cst (.int 3)) (.cons (.cst (.int 3)) (.cons (.cst (.int 1)) .nil)))) (.cons (.tup (.cons (.cst (.int 2)) (.cons (.cst (.int 4)) (.cons (.cst (.int 2)) .nil)))) (.cons (.tup (.cons (.cst (.int 2)) (.cons (.cst (.int 4)) (.cons (.cst (.int 1)) .nil)))) (.cons (.tup (.cons (.cst (.int 2)) (.cons (.cst (.int 5)) (.cons (.cst (.int 1)) .nil)))) .nil)))))))
noncomputable def t3 (p n l : Int) : D := .tup [.int p, .int n, .int l]
noncomputable def formD : D := .tup [t3 3 2 1, t3 2 3 1, t3 3 3 1, t3 2 4 2, t3 2 4 1, t3 2 5 1]
theorem formE_spec (ρ : Rho) (st : St) : evE (callAll tab 31) formE [] ρ st = some (formD, st) := by
  exact eTup (lCons (eTup3 eCst eCst eCst) (lCons (eTup3 eCst eCst eCst) (lCons (eTup3 eCst eCst eCst) (l3 (eTup3 eCst eCst eCst) (eTup3 eCst eCst eCst) (eTup3 eCst eCst eCst))))) (by show 6 < lim; decide)
theorem form_pick {v : Nat} (hv : v < 6) (st : St) : ∃ p n l : Nat, isForm p n ∧ (l = 1 ∨ (l = 2 ∧ p = 2 ∧ n = 4)) ∧ subD st formD (.int (v : Nat)) = some (t3 p n l) := by
  rw [formD, subD_tup (by lia)]
  rcases (by lia : v = 0 ∨ v = 1 ∨ v = 2 ∨ v = 3 ∨ v = 4 ∨ v = 5) with h | h | h | h | h | h <;> subst h
  · exact ⟨3, 2, 1, .inl ⟨rfl, rfl⟩, .inl rfl, rfl⟩
  · exact ⟨2, 3, 1, .inr (.inl ⟨rfl, rfl⟩), .inl rfl, rfl⟩
  · exact ⟨3, 3, 1, .inr (.inr (.inl ⟨rfl, rfl⟩)), .inl rfl, rfl⟩
  · exact ⟨2, 4, 2, .inr (.inr (.inr (.inl ⟨rfl, rfl⟩))), .inr ⟨rfl, rfl, rfl⟩, rfl⟩
  · exact ⟨2, 4, 1, .inr (.inr (.inr (.inl ⟨rfl, rfl⟩))), .inl rfl, rfl⟩
  · exact ⟨2, 5, 1, .inr (.inr (.inr (.inr ⟨rfl, rfl⟩))), .inl rfl, rfl⟩
noncomputable def ordE : E := (.tup (.cons (.cst (.str "grevlex")) (.cons (.cst (.str "lex")) (.cons (.cst (.str "grlex")) .nil))))
theorem ord_pick {v : Nat} (hv : v < 3) (st : St) : ∃ ord, isOrd ord ∧ subD st (.tup [.str "grevlex", .str "lex", .str "grlex"]) (.int (v : Nat)) = some (.str ord) := by
  rw [subD_tup (by lia)]
  rcases (by lia : v = 0 ∨ v = 1 ∨ v = 2) with h | h | h <;> subst h
  · exact ⟨_, .inl rfl, rfl⟩
  · exact ⟨_, .inr (.inl rfl), rfl⟩
  · exact ⟨_, .inr (.inr rfl), rfl⟩
theorem law_true (script : List Int) (hlen : script.length ≤ 63) : ∃ st', callAll tab 32 [] 31 [.ilst (script.map .int)] [] = some (.bool true, st') := by
  have hc : (script.take 13).length ≤ 100 := by simp; lia
  generalize hcells : script.take 13 = cells at hc
  have e1 := poolE_spec hlen
  rw [hcells] at e1
  obtain ⟨v, hv, d1⟩ := draw_spec (N := 31) (by lia) (fz := []) (st := [poolC cells 0]) (r := 0) (s := 0) (cells := cells) rfl (by simp) (by lia) hc (m := 6) (by lia)
  obtain ⟨o, ho, d2⟩ := draw_spec (N := 31) (by lia) (fz := []) (st := [poolC cells 1]) (r := 0) (s := 1) (cells := cells) rfl (by simp) (by lia) hc (m := 3) (by lia)
  change _ = some (_, [poolC cells 1]) at d1
  change _ = some (_, [poolC cells 2]) at d2
  obtain ⟨p, n, l, hf, hl, g1⟩ := form_pick hv [poolC cells 1]
  obtain ⟨ord, hord, g2⟩ := ord_pick ho [poolC cells 2]
  have hp : 2 ≤ p ∧ p ≤ 3 ∧ n ≤ 5 := by rcases hf with h | h | h | h | h <;> lia
  obtain ⟨T, hT3, hTok, e4⟩ := first_of_spec (N := 31) (by lia) (fz := []) (st := [poolC cells 2]) (r := 0) (s := 2) (n := n) (p := p) (cells := cells) rfl (fun q hq => (by cases hq)) (by lia) hc hp.1 hp.2.2
  change _ = some (D.obj 2, [poolC cells 11, Cont.dic (toI (fstF p T)), Cont.dic (toD (P1 p T))]) at e4
  obtain ⟨hPok, hPc⟩ := P1_ok hp.1 hTok hT3
  have hPB : 3 * (p - 1) ≤ 6 := by lia
  obtain ⟨db1, db2⟩ := dgT_bounds hTok
  have hdM : ((dgT p T).toNat : Int) = dgT p T := Int.toNat_of_nonneg (by lia)
  have hd1 : exS (callAll tab 31) (.assign 1 (.listM (.cons poolE (.cons (.cst (.int 0)) .nil)))) [] (rhoL (some (.ilst (script.map .int))) none none none none none none none none none none none none none none none none none none) [] =
      some (.next, rhoL (some (.ilst (script.map .int))) (some (.obj 0)) none none none none none none none none none none none none none none none none none, [poolC cells 0]) := by
    exact xAssign (eListM (l2 e1 eCst) (by show 2 < lim; decide))
  have hd2 : exS (callAll tab 31) (.assignT [2, 3, 4] (.idx formE (.call 25 (.cons (.var 1) (.cons (.cst (.int 6)) .nil))))) [] (rhoL (some (.ilst (script.map .int))) (some (.obj 0)) none none none none none none none none none none none none none none none none none) [poolC cells 0] =
      some (.next, rhoL (some (.ilst (script.map .int))) (some (.obj 0)) (some (.int (p : Nat))) (some (.int (n : Nat))) (some (.int (l : Nat))) none none none none none none none none none none none none none none, [poolC cells 1]) := by
    have h6 : callAll tab 31 [] 25 [.obj 0, .int 6] [poolC cells 0] = some (.int (v : Nat), [poolC cells 1]) := d1
    exact xAssignT (eIdx (formE_spec _ _) (eCall (l2 (eVar rfl) eCst) h6) g1) rfl
  have hd3 : exS (callAll tab 31) (.assign 5 (.idx ordE (.call 25 (.cons (.var 1) (.cons (.cst (.int 3)) .nil))))) [] (rhoL (some (.ilst (script.map .int))) (some (.obj 0)) (some (.int (p : Nat))) (some (.int (n : Nat))) (some (.int (l : Nat))) none none none none none none none none none none none none none none) [poolC cells 1] =
      some (.next, rhoL (some (.ilst (script.map .int))) (some (.obj 0)) (some (.int (p : Nat))) (some (.int (n : Nat))) (some (.int (l : Nat))) (some (.str ord)) none none none none none none none none none none none none none, [poolC cells 2]) := by
    have h3 : callAll tab 31 [] 25 [.obj 0, .int 3] [poolC cells 1] = some (.int (o : Nat), [poolC cells 2]) := d2
    exact xAssign (eIdx (eTup3 eCst eCst eCst) (eCall (l2 (eVar rfl) eCst) h3) g2)
  have hd4 : exS (callAll tab 31) (.assign 6 (.listM (.cons (.call 29 (.cons (.var 1) (.cons (.var 2) (.cons (.var 3) .nil)))) .nil))) [] (rhoL (some (.ilst (script.map .int))) (some (.obj 0)) (some (.int (p : Nat))) (some (.int (n : Nat))) (some (.int (l : Nat))) (some (.str ord)) none none none none none none none none none none none none none) [poolC cells 2] =
      some (.next, rhoL (some (.ilst (script.map .int))) (some (.obj 0)) (some (.int (p : Nat))) (some (.int (n : Nat))) (some (.int (l : Nat))) (some (.str ord)) (some (.obj 3)) none none none none none none none none none none none none, [poolC cells 11, .dic (toI (fstF p T)), .dic (toD (P1 p T)), .lst [.obj 2]]) := by
    exact xAssign (eListM (l1 (eCall (l3 (eVar rfl) (eVar rfl) (eVar rfl)) e4)) (by show 1 < lim; decide))
  rw [callAll_at (fn := f_law) rfl 32 (by lia)]
  rcases hl with hl1 | ⟨hl2, hp2, hn4⟩
  · subst hl1
    have hd5 : exS (callAll tab 31) s5 [] (rhoL (some (.ilst (script.map .int))) (some (.obj 0)) (some (.int (p : Nat))) (some (.int (n : Nat))) (some (.int ((1 : Nat) : Int))) (some (.str ord)) (some (.obj 3)) none none none none none none none none none none none none) [poolC cells 11, .dic (toI (fstF p T)), .dic (toD (P1 p T)), .lst [.obj 2]] =
        some (.next, rhoL (some (.ilst (script.map .int))) (some (.obj 0)) (some (.int (p : Nat))) (some (.int (n : Nat))) (some (.int ((1 : Nat) : Int))) (some (.str ord)) (some (.obj 3)) none none none none none none none none none none none none, [poolC cells 11, .dic (toI (fstF p T)), .dic (toD (P1 p T)), .lst [.obj 2]]) := by
      have hne : ∀ st, cmpD st .eq (.int ((1 : Nat) : Int)) (.int 2) = some false := fun st => rfl
      exact xIfF (eCmp (eVar rfl) eCst (hne _)) xNil
    obtain ⟨ρ', st', hm⟩ := mid hf hord (st := [poolC cells 11, .dic (toI (fstF p T)), .dic (toD (P1 p T)), .lst [.obj 2]]) (so := 3) (fl := [(2, P1 p T)]) ⟨rfl, by simp, fun q hq => by
        simp only [List.mem_singleton] at hq
        subst hq
        exact ⟨rfl, wok_of hPok (by decide) (by lia), by have := hPok.len; show (P1 p T).length ≤ 1000; lia⟩⟩ hPok (.inl rfl)
      (M := (dgT p T).toNat) (s := (dgT p T).toNat) (by simp only [List.map_cons, List.map_nil, maxInts, List.foldl_nil, dgP_P1, hdM]) (by lia) (by lia) (by lia) (by simp only [List.map_cons, List.map_nil, List.sum_cons, List.sum_nil, dgP_P1, hdM]; lia) (cw_first hf hTok hT3)
      (v0 := some (.ilst (script.map .int))) (v1 := some (.obj 0)) (v4 := some (.int ((1 : Nat) : Int))) (v7 := none) (v8 := none)
    refine ⟨st', runFn_ret rfl (ρ' := ρ') ?_⟩
    exact Eq.trans (exS_next hd1) (Eq.trans (exS_next hd2) (Eq.trans (exS_next hd3) (Eq.trans (exS_next hd4) (Eq.trans (exS_next hd5) hm))))
  · subst hl2; subst hp2; subst hn4
    obtain ⟨i, b, hi, e5⟩ := second_of_spec (N := 31) (by lia) (fz := []) (st := [poolC cells 11, .dic (toI (fstF 2 T)), .dic (toD (P1 2 T)), .lst [.obj 2]]) (r := 0) (s := 11) (cells := cells) hf rfl (fun q hq => (by cases hq)) (by lia) hc
    change _ = some (D.obj 4, [poolC cells 13, Cont.dic (toI (fstF 2 T)), Cont.dic (toD (P1 2 T)), Cont.lst [.obj 2], Cont.dic (toD (secF 4 i b))]) at e5
    have hSok := sec_ok hf hi b
    have hd5 : exS (callAll tab 31) s5 [] (rhoL (some (.ilst (script.map .int))) (some (.obj 0)) (some (.int ((2 : Nat) : Int))) (some (.int ((4 : Nat) : Int))) (some (.int ((2 : Nat) : Int))) (some (.str ord)) (some (.obj 3)) none none none none none none none none none none none none) [poolC cells 11, .dic (toI (fstF 2 T)), .dic (toD (P1 2 T)), .lst [.obj 2]] =
        some (.next, rhoL (some (.ilst (script.map .int))) (some (.obj 0)) (some (.int ((2 : Nat) : Int))) (some (.int ((4 : Nat) : Int))) (some (.int ((2 : Nat) : Int))) (some (.str ord)) (some (.obj 3)) none none none none none none none none none none none none, [poolC cells 13, .dic (toI (fstF 2 T)), .dic (toD (P1 2 T)), .lst [.obj 2, .obj 4], .dic (toD (secF 4 i b))]) := by
      have heq : ∀ st, cmpD st .eq (.int ((2 : Nat) : Int)) (.int 2) = some true := fun st => rfl
      have hfit : fitsM .append (.obj 3) [poolC cells 11, .dic (toI (fstF 2 T)), .dic (toD (P1 2 T)), .lst [.obj 2]] = true := rfl
      have happ : methD [] .append (.obj 3) [.obj 4] [poolC cells 13, .dic (toI (fstF 2 T)), .dic (toD (P1 2 T)), .lst [.obj 2], .dic (toD (secF 4 i b))] = some (.none, [poolC cells 13, .dic (toI (fstF 2 T)), .dic (toD (P1 2 T)), .lst [.obj 2, .obj 4], .dic (toD (secF 4 i b))]) := by
        rw [mApp, if_neg (List.not_mem_nil)]
        show (if 1 < lim then _ else none) = _
        rw [if_pos (by decide)]; rfl
      exact xIfT (eCmp (eVar rfl) eCst (heq _)) (exS_next (ss := .nil) (xExpr (eMeth (eVar rfl) hfit (l1 (eCall (l2 (eVar rfl) (eVar rfl)) e5)) happ)))
    have hds : dgP (secF 4 i b) = 1 := dg_sec hf hi b
    obtain ⟨ρ', st', hm⟩ := mid hf hord (st := [poolC cells 13, .dic (toI (fstF 2 T)), .dic (toD (P1 2 T)), .lst [.obj 2, .obj 4], .dic (toD (secF 4 i b))]) (so := 3) (fl := [(2, P1 2 T), (4, secF 4 i b)]) ⟨rfl, by simp, fun q hq => by
        simp only [List.mem_cons, List.not_mem_nil, or_false] at hq
        rcases hq with rfl | rfl
        · exact ⟨rfl, wok_of hPok (by decide) (by lia), by have := hPok.len; show (P1 2 T).length ≤ 1000; lia⟩
        · exact ⟨rfl, wok_of hSok (by decide) (by decide), by have := hSok.len; show (secF 4 i b).length ≤ 1000; lia⟩⟩ hPok (.inr ⟨4, secF 4 i b, rfl, rfl, hSok⟩)
      (M := (dgT 2 T).toNat) (s := (dgT 2 T).toNat + 1) (by
        simp only [List.map_cons, List.map_nil, maxInts, List.foldl_cons, List.foldl_nil, dgP_P1, hds]
        rw [if_neg (by lia), hdM]) (by lia) (by lia) (by lia) (by simp only [List.map_cons, List.map_nil, List.sum_cons, List.sum_nil, dgP_P1, hds]; lia) (cw_second hTok hT3 hi b)
      (v0 := some (.ilst (script.map .int))) (v1 := some (.obj 0)) (v4 := some (.int ((2 : Nat) : Int))) (v7 := none) (v8 := none)
    refine ⟨st', runFn_ret rfl (ρ' := ρ') ?_⟩
    exact Eq.trans (exS_next hd1) (Eq.trans (exS_next hd2) (Eq.trans (exS_next hd3) (Eq.trans (exS_next hd4) (Eq.trans (exS_next hd5) hm))))
end Mine
end
section
open PySem PySem.W PyProof.Rows
set_option linter.unusedVariables false
set_option maxRecDepth 100000
set_option maxHeartbeats 0
theorem PySem.Challenge.cw_tk0020_01_holds : PySem.Challenge.rw_tk0020_01.Holds := by
  w_on; o_law; o_head Mine.hookX; (case hw => w_witness2)
  w_strict (
    intro w s₀ s₁ mg mb G Y fa o pm cd doc dV kV ho hd hcd hD hmg hg args vals as hpre hlay hrd hwl hlo
    refine Ground.open G ?_
    intro T B D TE TW
    wrow_args hpre hlay hrd hwl hlo
    all_goals refine enter_call ?_
    all_goals try refine codeAny_mono ?_ (fun _ _ g => GoodW.toG g)
    all_goals clear hcd hD ho hd
    rename_i hL hI hr hlen _
    refine Mine.law_enter (by decide +kernel) (by decide +kernel) T Y hmg (by assumption) (by assumption) (Mine.law_true _ (by omega)) fun s' hk ho hgn => ?_
    refine ⟨.inl ⟨.bool true, .bool true, [], rfl, ?_, ?_, ?_, ?_⟩, hk, ho, hgn.trans hg⟩
    · intro cls; rfl
    · exact .bool true
    · first | with_unfolding_all rfl | kernel_rfl | (simp [ofPy]; done) | (exact (of_decide_eq_true rfl))
    · exact unshared_nil)
end
