import PyProof.Rows.All
import OpenK.AllK
import KE.KBytesCut
import KE.BytesMake
import KE.BytesMulAny
import PyProof.NeKinds
import Open.Line
import Open.Pieces
import KE.KNestM
import Wide.All
import Wide.FinOn
import Lean
import PySem.Challenge.RW_nz0433_01

set_option Elab.async false
set_option linter.all false
set_option maxHeartbeats 4000000

section
set_option linter.all false
namespace Mine.Lin
open Int.Internal.Linear

inductive Fs where
  | nil | le (z : Nat) (a b : Int.Internal.Linear.Expr) (r : Fs)
def Fs.sum : Fs → Int.Internal.Linear.Expr
  | .nil => .num 0
  | .le z a b r => .add (.mulL (.ofNat z) (.sub a b)) r.sum
def isPos : Poly → Bool
  | .num (.ofNat (_ + 1)) => true
  | _ => false
noncomputable def chain (ctx : Context) (g : Prop) : Fs → Prop
  | .nil => g
  | .le _ a b r => a.denote ctx ≤ b.denote ctx → chain ctx g r
theorem chain_of {ctx : Context} {g : Prop} (fs : Fs) (h : fs.sum.denote ctx ≤ 0 → g) : chain ctx g fs := by
  suffices ∀ c : Int, c ≤ 0 → (c + fs.sum.denote ctx ≤ 0 → g) → chain ctx g fs from this 0 (Int.le_refl 0) (fun q => h (by rwa [Int.zero_add] at q))
  clear h
  induction fs with
  | nil => exact fun c hc h => h (by rw [show Fs.nil.sum.denote ctx = 0 from rfl, Int.add_zero]; exact hc)
  | le z a b r ih =>
    intro c hc h hab
    have := Int.mul_le_mul_of_nonneg_left (Int.sub_nonpos_of_le hab) (Int.natCast_nonneg z)
    rw [Int.mul_zero] at this
    refine ih (c + (z : Int) * (a.denote ctx - b.denote ctx)) (Int.add_nonpos hc this) fun q => h ?_
    show c + ((z : Int) * (a.denote ctx - b.denote ctx) + r.sum.denote ctx) ≤ 0
    rw [← Int.add_assoc]; exact q
theorem pos_of (ctx : Context) (fs : Fs) (e : isPos fs.sum.norm = true) (h : fs.sum.denote ctx ≤ 0) : False := by
  rw [← Int.Internal.Linear.Expr.denote_norm] at h
  cases q : fs.sum.norm with
  | num k =>
    rw [q] at e h
    cases k with
    | ofNat n => cases n with
      | zero => cases e
      | succ n => exact absurd h (Int.not_le.mpr (Int.natCast_pos.mpr (Nat.succ_pos n)))
    | negSucc n => cases e
  | add => rw [q] at e; cases e
theorem no (ctx : Context) (fs : Fs) (e : isPos fs.sum.norm = true) : chain ctx False fs := chain_of fs (pos_of ctx fs e)
theorem yes (ctx : Context) (z : Nat) (a b : Int.Internal.Linear.Expr) (fs : Fs) (e : isPos (Fs.le z (.add b (.num 1)) a fs).sum.norm = true) : chain ctx (a.denote ctx ≤ b.denote ctx) fs :=
  chain_of fs fun h => Int.not_lt.mp fun q => pos_of ctx _ e (Int.add_nonpos (by
    have := Int.mul_le_mul_of_nonneg_left (Int.sub_nonpos_of_le (Int.add_one_le_of_lt q)) (Int.natCast_nonneg z)
    rw [Int.mul_zero] at this; exact this) h)

theorem cle {m n : Nat} (h : m ≤ n) : (m : Int) ≤ n := Int.ofNat_le.mpr h
theorem ceq {m n : Nat} (h : m = n) : (m : Int) ≤ n := h ▸ Int.le_refl _
theorem cge {m n : Nat} (h : m = n) : (n : Int) ≤ m := h ▸ Int.le_refl _
theorem ieq {m n : Int} (h : m = n) : m ≤ n := h ▸ Int.le_refl _
theorem ige {m n : Int} (h : m = n) : n ≤ m := h ▸ Int.le_refl _
theorem nle {m n : Int} (h : ¬ m ≤ n) : n + 1 ≤ m := Int.not_le.mp h
theorem nlt {m n : Int} (h : ¬ m < n) : n ≤ m := Int.not_lt.mp h
theorem cnle {m n : Nat} (h : ¬ m ≤ n) : (n : Int) + 1 ≤ m := Int.ofNat_lt.mpr (Nat.not_le.mp h)
theorem cnlt {m n : Nat} (h : ¬ m < n) : (n : Int) ≤ m := Int.ofNat_le.mpr (Nat.not_lt.mp h)
theorem gle {m n : Nat} (h : (m : Int) ≤ n) : m ≤ n := Int.ofNat_le.mp h
theorem geq {m n : Nat} (h : (m : Int) ≤ n) (h' : (n : Int) ≤ m) : m = n := Nat.le_antisymm (gle h) (gle h')
theorem spn {C : Prop} {m n : Nat} (h : ¬ m = n) (f : (m : Int) + 1 ≤ n → C) (g : (n : Int) + 1 ≤ m → C) : C := (Nat.lt_or_gt_of_ne h).elim (fun q => f (Int.ofNat_lt.mpr q)) fun q => g (Int.ofNat_lt.mpr q)
theorem spi {C : Prop} {m n : Int} (h : ¬ m = n) (f : m + 1 ≤ n → C) (g : n + 1 ≤ m → C) : C := (Int.lt_or_gt_of_ne h).elim f g
theorem sps {C : Prop} (m n : Nat) (f : (n : Int) ≤ m → ((m - n : Nat) : Int) = m - n → C) (g : (m : Int) ≤ n → ((m - n : Nat) : Int) = 0 → C) : C :=
  (Nat.le_total n m).elim (fun q => f (Int.ofNat_le.mpr q) (Int.ofNat_sub q)) fun q => g (Int.ofNat_le.mpr q) (by rw [Nat.sub_eq_zero_of_le q]; rfl)
theorem spt {C : Prop} (x : Int) (f : 0 ≤ x → (x.toNat : Int) = x → C) (g : x ≤ 0 → (x.toNat : Int) = 0 → C) : C :=
  (Int.le_total 0 x).elim (fun q => f q (Int.toNat_of_nonneg q)) fun q => g q (by rw [Int.toNat_of_nonpos q]; rfl)
theorem spm {C : Prop} (x y : Int) (f : x ≤ y → min x y = x → C) (g : y ≤ x → min x y = y → C) : C := (Int.le_total x y).elim (fun q => f q (Int.min_eq_left q)) fun q => g q (Int.min_eq_right q)
theorem spx {C : Prop} (x y : Int) (f : x ≤ y → max x y = y → C) (g : y ≤ x → max x y = x → C) : C := (Int.le_total x y).elim (fun q => f q (Int.max_eq_right q)) fun q => g q (Int.max_eq_left q)
theorem spa {C : Prop} (x : Int) (f : 0 ≤ x → (x.natAbs : Int) = x → C) (g : x ≤ 0 → (x.natAbs : Int) = -x → C) : C :=
  (Int.le_total 0 x).elim (fun q => f q (Int.natAbs_of_nonneg q)) fun q => g q (Int.ofNat_natAbs_of_nonpos q)
theorem spmN {C : Prop} (x y : Nat) (f : (x : Int) ≤ y → ((min x y : Nat) : Int) = x → C) (g : (y : Int) ≤ x → ((min x y : Nat) : Int) = y → C) : C := (Nat.le_total x y).elim (fun q => f (Int.ofNat_le.mpr q) (by rw [Nat.min_eq_left q])) fun q => g (Int.ofNat_le.mpr q) (by rw [Nat.min_eq_right q])
theorem spxN {C : Prop} (x y : Nat) (f : (x : Int) ≤ y → ((max x y : Nat) : Int) = y → C) (g : (y : Int) ≤ x → ((max x y : Nat) : Int) = x → C) : C := (Nat.le_total x y).elim (fun q => f (Int.ofNat_le.mpr q) (by rw [Nat.max_eq_right q])) fun q => g (Int.ofNat_le.mpr q) (by rw [Nat.max_eq_left q])
theorem nor1 {a b : Prop} (h : ¬ (a ∨ b)) : ¬ a := fun q => h (.inl q)
theorem nor2 {a b : Prop} (h : ¬ (a ∨ b)) : ¬ b := fun q => h (.inr q)
theorem nand {a b : Prop} (h : ¬ (a ∧ b)) : ¬ a ∨ ¬ b := (Classical.em a).elim (fun x => .inr fun y => h ⟨x, y⟩) .inl
theorem nnot {a : Prop} (h : ¬ ¬ a) : a := Classical.not_not.mp h
end Mine.Lin
end

section
open Lean Meta Elab Tactic
namespace Mine.Lin

/-- atoms; facts: proof, the two sides, their sum (`left - right`, the number first) -/
structure OS where
  atoms : Array Lean.Expr := #[]
  facts : Array (Lean.Expr × Lean.Expr × Lean.Expr × Array Int) := #[]
  nes : Array (Bool × Lean.Expr × Lean.Expr × Lean.Expr) := #[]
  ors : Array (Lean.Expr × Lean.Expr × Lean.Expr) := #[]
abbrev OM := StateRefT OS MetaM

def cc (n : Lean.Name) (as : Array Lean.Expr) : Lean.Expr := mkAppN (mkConst n) as
def li (z : Int) : Lean.Expr := match z with
  | .ofNat n => mkApp (mkConst ``Int.ofNat) (mkRawNatLit n)
  | .negSucc n => mkApp (mkConst ``Int.negSucc) (mkRawNatLit n)
def vadd (z : Int) (a b : Array Int) : Array Int := (Array.range (max a.size b.size)).map fun i => a.getD i 0 + z * b.getD i 0
def kE (z : Int) : Lean.Expr × Array Int := (cc ``Int.Internal.Linear.Expr.num #[li z], #[z])
def aE (x y : Lean.Expr × Array Int) : Lean.Expr × Array Int := (cc ``Int.Internal.Linear.Expr.add #[x.1, y.1], vadd 1 x.2 y.2)
def mE (z : Int) (left : Bool) (x : Lean.Expr × Array Int) : Lean.Expr × Array Int := (if left then cc ``Int.Internal.Linear.Expr.mulL #[li z, x.1] else cc ``Int.Internal.Linear.Expr.mulR #[x.1, li z], x.2.map (z * ·))
def castI (n : Lean.Expr) : Lean.Expr := mkApp3 (mkConst ``Nat.cast [0]) (mkConst ``Int) (mkConst ``instNatCastInt) n
def atomE (e : Lean.Expr) : OM (Lean.Expr × Array Int) := do
  let as := (← get).atoms
  let mut i := as.size
  for j in [0:as.size] do
    if i == as.size then
      if as[j]! == e then i := j
  if i == as.size then modify fun s => { s with atoms := s.atoms.push e }
  return (cc ``Int.Internal.Linear.Expr.var #[mkRawNatLit i], (Array.replicate (i + 2) 0).set! (i + 1) 1)
/-- the arguments, where this is the head -/
def on (e : Lean.Expr) (c : Lean.Name) (n : Nat) (k : Array Lean.Expr → OM α) (d : OM α) : OM α := if e.isAppOfArity c n then k e.getAppArgs else d
def reN : Nat → Lean.Expr → OM (Lean.Expr × Array Int)
  | 0, e => atomE (castI e)
  | n + 1, e => do
  if e.nat?.isSome then return kE (e.nat?.getD 0)
  on e ``HAdd.hAdd 6 (fun x => return aE (← reN n x[4]!) (← reN n x[5]!)) <|
  on e ``Nat.succ 1 (fun x => return aE (← reN n x[0]!) (kE 1)) <|
  on e ``HMul.hMul 6 (fun x => do
    if x[4]!.nat?.isSome then return mE (x[4]!.nat?.getD 0) true (← reN n x[5]!)
    if x[5]!.nat?.isSome then return mE (x[5]!.nat?.getD 0) false (← reN n x[4]!)
    atomE (castI e)) <|
  on e ``HPow.hPow 6 (fun x => do
    if x[4]!.nat?.isSome && x[5]!.nat?.isSome && x[5]!.nat?.getD 0 ≤ 100 then return kE ((x[4]!.nat?.getD 0 ^ x[5]!.nat?.getD 0 : Nat) : Int)
    atomE (castI e)) <|
  if e.isRawNatLit then return kE (e.rawNatLit?.getD 0) else atomE (castI e)
def reI : Nat → Lean.Expr → OM (Lean.Expr × Array Int)
  | 0, e => atomE e
  | n + 1, e => do
  if e.int?.isSome then return kE (e.int?.getD 0)
  on e ``HAdd.hAdd 6 (fun x => return aE (← reI n x[4]!) (← reI n x[5]!)) <|
  on e ``HSub.hSub 6 (fun x => do
    let a ← reI n x[4]!
    let b ← reI n x[5]!
    return (cc ``Int.Internal.Linear.Expr.sub #[a.1, b.1], vadd (-1) a.2 b.2)) <|
  on e ``Neg.neg 3 (fun x => do
    let a ← reI n x[2]!
    return (cc ``Int.Internal.Linear.Expr.neg #[a.1], a.2.map (- ·))) <|
  on e ``HMul.hMul 6 (fun x => do
    if x[4]!.int?.isSome then return mE (x[4]!.int?.getD 0) true (← reI n x[5]!)
    if x[5]!.int?.isSome then return mE (x[5]!.int?.getD 0) false (← reI n x[4]!)
    atomE e) <|
  on e ``Nat.cast 3 (fun x => reN n x[2]!) <|
  on e ``HPow.hPow 6 (fun x => do
    if x[4]!.int?.isSome && x[5]!.nat?.isSome && x[5]!.nat?.getD 0 ≤ 100 then return kE (x[4]!.int?.getD 0 ^ x[5]!.nat?.getD 0)
    atomE e) <|
  atomE e
def push (p : Lean.Expr) (a b : Lean.Expr × Array Int) : OM Unit := modify fun s => { s with facts := s.facts.push (p, a.1, b.1, vadd (-1) a.2 b.2) }
def re (I : Bool) (e : Lean.Expr) : OM (Lean.Expr × Array Int) := if I then reI 100 e else reN 100 e
def one (x : Lean.Expr × Array Int) : Lean.Expr × Array Int := aE x (kE 1)
def isI (T : Lean.Expr) : Option Bool := if T.isConstOf ``Int then some true else if T.isConstOf ``Nat then some false else none
def succN (a : Lean.Expr) : Lean.Expr := mkNatAdd a (mkNatLit 1)
/-- a fact taken in -/
def fact : Nat → Lean.Expr → Lean.Expr → OM Unit
  | 0, _, _ => return
  | n + 1, p, t => do
  let t := (← instantiateMVars t).consumeMData
  let neg := t.isAppOfArity ``Not 1
  let q := if neg then t.appArg! else t
  -- over the numbers: which, the two sides
  let num (c : Lean.Name) (ix : Nat) (k : Bool → Lean.Expr → Lean.Expr → OM Unit) (d : OM Unit) : OM Unit := on q c (ix + 2) (fun x => if (isI x[0]!).isSome then k ((isI x[0]!).getD true) x[ix]! x[ix + 1]! else return) d
  let turn (c d : Lean.Name) (r : OM Unit) : OM Unit := on q c 4 (fun x =>
    let e := mkApp4 (mkConst d [0]) x[0]! x[1]! x[3]! x[2]!
    fact n p (if neg then mkNot e else e)) r
  turn ``GE.ge ``LE.le <|
  turn ``GT.gt ``LT.lt <|
  if neg then
    num ``LE.le 2 (fun I a b => do push (cc (if I then ``nle else ``cnle) #[a, b, p]) (one (← re I b)) (← re I a)) <|
    num ``LT.lt 2 (fun I a b => do push (cc (if I then ``nlt else ``cnlt) #[a, b, p]) (← re I b) (← re I a)) <|
    num ``Eq 1 (fun I a b => modify fun s => { s with nes := s.nes.push (I, a, b, p) }) <|
    on q ``Or 2 (fun x => do fact n (cc ``nor1 #[x[0]!, x[1]!, p]) (mkNot x[0]!); fact n (cc ``nor2 #[x[0]!, x[1]!, p]) (mkNot x[1]!)) <|
    on q ``And 2 (fun x => modify fun s => { s with ors := s.ors.push (mkNot x[0]!, mkNot x[1]!, cc ``nand #[x[0]!, x[1]!, p]) }) <|
    on q ``Not 1 (fun x => fact n (cc ``nnot #[x[0]!, p]) x[0]!) <|
    return
  else
    num ``LE.le 2 (fun I a b => do push (if I then p else cc ``cle #[a, b, p]) (← re I a) (← re I b)) <|
    num ``LT.lt 2 (fun I a b => do push (if I then p else cc ``cle #[succN a, b, p]) (one (← re I a)) (← re I b)) <|
    num ``Eq 1 (fun I a b => do
      let x ← re I a
      let y ← re I b
      push (cc (if I then ``ieq else ``ceq) #[a, b, p]) x y
      push (cc (if I then ``ige else ``cge) #[a, b, p]) y x) <|
    num ``Ne 1 (fun I a b => modify fun s => { s with nes := s.nes.push (I, a, b, p) }) <|
    on q ``And 2 (fun x => do fact n (.proj ``And 0 p) x[0]!; fact n (.proj ``And 1 p) x[1]!) <|
    on q ``Or 2 (fun x => modify fun s => { s with ors := s.ors.push (x[0]!, x[1]!, p) }) <|
    return

/-- sums that cannot all be at most 0: how many of each -/
def fmGo : Nat → Nat → Array (Array Int × Array Nat) → Option (Array Nat)
  | 0, _, _ => none
  | n + 1, sz, cs =>
    match cs.find? fun c => c.1.getD 0 0 > 0 && (List.range sz).all fun i => c.1.getD (i + 1) 0 == 0 with
    | some c => some c.2
    | none =>
      let cnt (i : Nat) : Nat × Nat := cs.foldl (fun (p, q) c => let z : Int := c.1.getD (i + 1) 0; (if z > 0 then p + 1 else p, if z < 0 then q + 1 else q)) (0, 0)
      let best := (List.range sz).foldl (fun (b : Option (Nat × Nat)) i =>
        let (p, q) := cnt i
        if p + q == 0 then b else match b with
          | none => some (i, p * q)
          | some (_, w) => if p * q < w then some (i, p * q) else b) none
      match best with
      | none => none
      | some (i, w) =>
        if w + cs.size > 600 then none else
        let z (c : Array Int × Array Nat) : Int := c.1.getD (i + 1) 0
        let ps := cs.filter (z · > 0)
        let qs := cs.filter (z · < 0)
        let rest := cs.filter (z · == 0)
        fmGo n sz (ps.foldl (fun a p => qs.foldl (fun a q =>
          let g := Nat.gcd (z p).natAbs (z q).natAbs
          let (x, y) := ((z q).natAbs / g, (z p).natAbs / g)
          a.push (vadd y (p.1.map ((x : Int) * ·)) q.1, (Array.range (max p.2.size q.2.size)).map fun k => x * p.2.getD k 0 + y * q.2.getD k 0)) a) rest)
def fm (sz : Nat) (ls : Array (Array Int)) : Option (Array Nat) := fmGo 60 sz (ls.mapIdx fun i l => (l, (Array.replicate (i + 1) 0).set! i 1))

def rtrue : Lean.Expr := mkApp2 (mkConst ``Eq.refl [1]) (mkConst ``Bool) (mkConst ``Bool.true)
/-- False, or `a ≤ b`, from the facts -/
def close (goal : Option ((Lean.Expr × Array Int) × (Lean.Expr × Array Int))) : OM (Option Lean.Expr) := do
  let s ← get
  -- what is a number of Nat is not less than 0
  let mut fs := s.facts
  for i in [0:s.atoms.size] do
    if s.atoms[i]!.isAppOfArity ``Nat.cast 3 then
      fs := fs.push (cc ``Int.natCast_nonneg #[s.atoms[i]!.appArg!], (kE 0).1, cc ``Int.Internal.Linear.Expr.var #[mkRawNatLit i], (Array.replicate (i + 2) 0).set! (i + 1) (-1))
  let ls := fs.map (·.2.2.2)
  let ls := match goal with
    | some (a, b) => #[vadd (-1) (one b).2 a.2] ++ ls
    | none => ls
  let some ms := fm s.atoms.size ls | return none
  let off := if goal.isSome then 1 else 0
  let mut F := mkConst ``Fs.nil
  let mut hs := #[]
  for k in [0:fs.size] do
    let i := fs.size - 1 - k
    let m := ms.getD (i + off) 0
    if m != 0 then
      F := cc ``Fs.le #[mkRawNatLit m, fs[i]!.2.1, fs[i]!.2.2.1, F]
      hs := hs.push fs[i]!.1
  let ctx ← if h : 0 < s.atoms.size then (RArray.ofArray s.atoms h).toExpr (mkConst ``Int) id else pure (mkApp2 (mkConst ``RArray.leaf [0]) (mkConst ``Int) (li 0))
  let pr := match goal with
    | some (a, b) => cc ``yes #[ctx, mkRawNatLit (ms.getD 0 0), a.1, b.1, F, rtrue]
    | none => cc ``no #[ctx, F, rtrue]
  return some (mkAppN pr hs.reverse)
/-- parts by cases -/
def split : Nat → Lean.Expr → OM (Option Lean.Expr) → OM (Option Lean.Expr)
  | 0, _, k => k
  | n + 1, C, k => do
  let s0 ← get
  if let some r ← k then return some r
  set s0
  let two (t1 : Array Lean.Expr) (t2 : Array Lean.Expr) (mk : Lean.Expr → Lean.Expr → Lean.Expr) : OM (Option Lean.Expr) := do
    let s ← get
    let br (ts : Array Lean.Expr) : OM (Option Lean.Expr) := do
      set s
      withLocalDeclsD (ts.map fun t => (`h, fun _ => pure t)) fun hs => do
        for (h, t) in hs.zip ts do fact 100 h t
        match ← split n C k with
        | some r => return some (← mkLambdaFVars hs r)
        | none => return none
    let some a ← br t1 | return none
    let some b ← br t2 | return none
    return some (mk a b)
  let I := mkConst ``Int
  let le (a b : Lean.Expr) := mkApp4 (mkConst ``LE.le [0]) I (mkConst ``Int.instLEInt) a b
  let eq (a b : Lean.Expr) := mkApp3 (mkConst ``Eq [1]) I a b
  for j in [0:s0.nes.size] do
    let (isI, a, b, p) := s0.nes[j]!
    modify fun s => { s with nes := s.nes.eraseIdxIfInBounds j }
    let up (e : Lean.Expr) := if isI then e else castI e
    let p1 (e : Lean.Expr) := mkIntAdd (up e) (mkIntLit 1)
    return ← two #[le (p1 a) (up b)] #[le (p1 b) (up a)] fun f g => cc (if isI then ``spi else ``spn) #[C, a, b, p, f, g]
  for j in [0:s0.ors.size] do
    let (a, b, p) := s0.ors[j]!
    modify fun s => { s with ors := s.ors.eraseIdxIfInBounds j }
    return ← two #[a] #[b] fun f g => mkAppN (mkConst ``Or.elim) #[a, b, C, p, f, g]
  let z := mkIntLit 0
  for e in s0.atoms do
    if (s0.facts.any fun f => f.1 == e) then continue
    let done : OM Unit := modify fun s => { s with facts := s.facts.push (e, e, e, #[0]) }
    let cast := e.isAppOfArity ``Nat.cast 3
    let q := if cast then e.appArg! else e
    let x := q.getAppArgs
    let hd (c : Lean.Name) (n : Nat) : Bool := q.isAppOfArity c n
    if cast then
      if hd ``HSub.hSub 6 then done; return ← two #[le (castI x[5]!) (castI x[4]!), eq e (mkIntSub (castI x[4]!) (castI x[5]!))] #[le (castI x[4]!) (castI x[5]!), eq e z] fun f g => cc ``sps #[C, x[4]!, x[5]!, f, g]
      if hd ``Int.natAbs 1 then done; return ← two #[le z x[0]!, eq e x[0]!] #[le x[0]! z, eq e (mkApp3 (mkConst ``Neg.neg [0]) I (mkConst ``Int.instNegInt) x[0]!)] fun f g => cc ``spa #[C, x[0]!, f, g]
      if hd ``Int.toNat 1 then done; return ← two #[le z x[0]!, eq e x[0]!] #[le x[0]! z, eq e z] fun f g => cc ``spt #[C, x[0]!, f, g]
    let up (a : Lean.Expr) : Lean.Expr := if cast then castI a else a
    if hd ``Min.min 4 then done; return ← two #[le (up x[2]!) (up x[3]!), eq e (up x[2]!)] #[le (up x[3]!) (up x[2]!), eq e (up x[3]!)] fun f g => cc (if cast then ``spmN else ``spm) #[C, x[2]!, x[3]!, f, g]
    if hd ``Max.max 4 then done; return ← two #[le (up x[2]!) (up x[3]!), eq e (up x[3]!)] #[le (up x[3]!) (up x[2]!), eq e (up x[2]!)] fun f g => cc (if cast then ``spxN else ``spx) #[C, x[2]!, x[3]!, f, g]
  return none

/-- the proof of a goal from these facts -/
def goal : Nat → Array Lean.Expr → Lean.Expr → MetaM (Option Lean.Expr)
  | 0, _, _ => return none
  | depth + 1, ps, t => do
  let t := (← instantiateMVars t).consumeMData
  let start : OM Unit := do for p in ps do fact 100 p (← inferType p)
  let run (C : Lean.Expr) (pre : OM Unit) (k : OM (Option Lean.Expr)) : MetaM (Option Lean.Expr) := do
    let (r, _) ← (do start; pre; split 6 C k : OM (Option Lean.Expr)).run {}
    return r
  let leG (I : Bool) (a b : Lean.Expr) (plus : Bool) : MetaM (Option Lean.Expr) := do
    let up (e : Lean.Expr) := if I then e else castI e
    let a' := if plus then mkIntAdd (up a) (mkIntLit 1) else up a
    run (mkApp4 (mkConst ``LE.le [0]) (mkConst ``Int) (mkConst ``Int.instLEInt) a' (up b)) (do let _ ← re I a; let _ ← re I b) do
      let x ← re I a
      close (some ((if plus then one x else x), ← re I b))
  let no (q : Lean.Expr) : MetaM (Option Lean.Expr) := withLocalDeclD `h q fun h => do
    let (r, _) ← (do start; fact 100 h q; split 6 (mkConst ``False) (close none) : OM (Option Lean.Expr)).run {}
    match r with
    | some r => return some (← mkLambdaFVars #[h] r)
    | none => return none
  if t.isArrow then
    return ← withLocalDeclD `h t.bindingDomain! fun h => do
      match ← goal depth (ps.push h) t.bindingBody! with
      | some r => return some (← mkLambdaFVars #[h] r)
      | none => return none
  let x := t.getAppArgs
  let hd (c : Lean.Name) (n : Nat) : Bool := t.isAppOfArity c n
  let le (T a b : Lean.Expr) (plus : Bool) : MetaM (Option Lean.Expr) := do
    unless (isI T).isSome do return none
    let I := (isI T).getD true
    let some p ← leG I a b plus | return none
    return some (if I then p else cc ``gle #[if plus then succN a else a, b, p])
  if hd ``And 2 then
    let some p ← goal depth ps x[0]! | return none
    let some q ← goal depth ps x[1]! | return none
    return some (cc ``And.intro #[x[0]!, x[1]!, p, q])
  if hd ``False 0 then return ← run t (pure ()) (close none)
  if hd ``Or 2 then
    let some r ← no (mkNot t) | return none
    return some (mkApp2 (mkConst ``Classical.byContradiction) t r)
  if hd ``LE.le 4 then return ← le x[0]! x[2]! x[3]! false
  if hd ``GE.ge 4 then return ← le x[0]! x[3]! x[2]! false
  if hd ``LT.lt 4 then return ← le x[0]! x[2]! x[3]! true
  if hd ``GT.gt 4 then return ← le x[0]! x[3]! x[2]! true
  if hd ``Eq 3 then
    unless (isI x[0]!).isSome do return none
    let I := (isI x[0]!).getD true
    let some p ← leG I x[1]! x[2]! false | return none
    let some q ← leG I x[2]! x[1]! false | return none
    return some (if I then cc ``Int.le_antisymm #[x[1]!, x[2]!, p, q] else cc ``geq #[x[1]!, x[2]!, p, q])
  if hd ``Not 1 then return ← no x[0]!
  if hd ``Ne 3 then return ← no (mkApp3 (mkConst ``Eq [1]) x[0]! x[1]! x[2]!)
  return none

/-- omega's facts, then a small proof -/
def om : TacticM Unit := do
  let g ← getMainGoal
  g.withContext do
    let t ← instantiateMVars (← g.getType)
    let g' ← mkFreshExprSyntheticOpaqueMVar t
    if let some g2 ← g'.mvarId!.falseOrByContra then
      g2.withContext do Lean.Elab.Tactic.Omega.omega (← getLocalHyps).toList g2 {}
    let pf ← instantiateMVars g'
    let mut ps := #[]
    for f in (collectFVars {} pf).fvarIds do
      if ← isProof (mkFVar f) then ps := ps.push (mkFVar f)
    match ← goal 20 ps t with
    | some r => g.assign r
    | none =>
      IO.eprintln s!"om: left: {← ppExpr t}"
      g.assign (← mkAuxTheorem t pf (zetaDelta := true))
  replaceMainGoal []
end Mine.Lin
end

section
set_option linter.all false
open Lean Meta Elab Tactic
namespace Mine
theorem noSome {α : Type u} {a : α} {C : Prop} (h : none = some a) : C := nomatch h
theorem noNone {α : Type u} {a : α} {C : Prop} (h : some a = none) : C := nomatch h
theorem noTrue {C : Prop} (h : false = true) : C := nomatch h
theorem noFalse {C : Prop} (h : true = false) : C := nomatch h

/-- what a stuck match waits for; or the reduct -/
def stuckAt : Nat → Lean.Expr → MetaM (Lean.Expr ⊕ Lean.Expr)
  | 0, e => return .inl e
  | n + 1, e => do
  let e := (← whnfCore (← instantiateMVars e)).headBeta.consumeMData
  let .const c ls := e.getAppFn | return .inl e
  let i ← getConstInfo c
  if (← getMatcherInfo? c).isSome || ((match c with | .str _ s => s.startsWith "_sparseCasesOn" | _ => false)) then
    match (if i.hasValue then some ((i.instantiateValueLevelParams! ls).beta e.getAppArgs) else none) with
    | some e' => match ← stuckAt n e'.headBeta with
      | .inr m => return .inr m
      | .inl r =>
        if (match r.getAppFn with | .const (.str _ s) _ => s == "rec" | _ => false) then return .inl e else return .inl r
    | none => return .inl e
  else if let .recInfo i := i then
    let k := i.getMajorIdx
    let args := e.getAppArgs
    if k < args.size then
      let m := args[k]!
      let m' ← whnfCore m
      match ← stuckAt n m' with
      | .inr x => return .inr x
      | .inl m' =>
        if (← isConstructorApp? m').isSome || m'.isRawNatLit then
          return .inl (← whnfCore (mkAppN e.getAppFn (args.set! k m')))
        else return .inr m'
    else return .inl e
  else return .inl e

def redM : Nat → Lean.Expr → MetaM Lean.Expr
  | 0, e => return e
  | n + 1, e => do
  match ← reduceMatcher? e.headBeta with
  | .reduced e' => redM n e'
  | _ => return e.headBeta
/-- the same with the side of an equation -/
def focus (t : Lean.Expr) : Lean.Expr × (Lean.Expr → Lean.Expr) := if t.isAppOfArity ``Eq 3 then (t.appFn!.appArg!, fun e => mkApp (mkApp t.appFn!.appFn! e) t.appArg!) else (t, id)

/-- a hypothesis that says what a match gives: the cases that cannot be are closed -/
def invGo (gen : Bool) : Nat → MVarId → FVarId → MetaM (List (MVarId × FVarId))
  | 0, g, h => return [(g, h)]
  | n + 1, g, h => g.withContext do
    let t := (← instantiateMVars (← h.getType)).consumeMData
    let (e, back) := focus t
    match ← stuckAt 100 e with
    | .inl e' =>
      let t' := back e'
      let G ← g.getType
      let H := mkFVar h
      if e'.isConstOf ``False then g.assign (mkApp2 (mkConst ``False.elim [← getLevel G]) G H); return []
      if let some (T, l, r) := t'.eq? then
        let close (c : Name) (as : Array Lean.Expr) (ls : List Level) : MetaM (List (MVarId × FVarId)) := do
          g.assign (mkAppN (mkConst c ls) (as ++ #[G, H])); return []
        if T.isAppOf ``Option then
          let u := T.getAppFn.constLevels!.head!
          if l.isAppOf ``Option.none && r.isAppOf ``Option.some then return ← close ``noSome #[T.appArg!, r.appArg!] [u]
          if l.isAppOf ``Option.some && r.isAppOf ``Option.none then return ← close ``noNone #[T.appArg!, l.appArg!] [u]
        if l.isConstOf ``Bool.false && r.isConstOf ``Bool.true then return ← close ``noTrue #[] []
        if l.isConstOf ``Bool.true && r.isConstOf ``Bool.false then return ← close ``noFalse #[] []
      let g ← g.replaceLocalDeclDefEq h (back (← redM 20 e))
      return [(g, h)]
    | .inr m =>
      -- a part of a variable: the variable
      let rec base : Nat → Lean.Expr → MetaM Lean.Expr
        | 0, m => return m
        | k + 1, m => do
          if let .proj _ _ b := m then return ← base k b
          if let .const c _ := m.getAppFn then
            if let some i ← getProjectionFnInfo? c then
              if m.getAppNumArgs == i.numParams + 1 then return ← base k m.appArg!
          return m
      let b ← base 20 m
      let p ← if gen then (match m with
        | .proj S i b => do
          let some info := getStructureInfo? (← getEnv) S | pure m
          mkProjection b info.fieldNames[i]!
        | _ => pure m) else pure m
      let g ← if gen then g.replaceLocalDeclDefEq h (back (← redM 20 e)) else pure g
      let told ← if gen then g.withContext (do return (← kabstract (← instantiateMVars (← h.getType)) p).hasLooseBVars) else pure false
      let m := if told then p else b
      if m.isFVar then
        let ss ← g.cases m.fvarId!
        let mut r := []
        for s in ss do
          let h' := (s.subst.get h).fvarId!
          r := r ++ (← invGo gen n s.mvarId h')
        return r
      else
        let ty ← whnf (← inferType m)
        if gen && !ty.isAppOf ``Decidable then
          let (sb, fs, g) ← g.withContext (g.generalizeHyp #[{ expr := m, xName? := some `v, hName? := some `q }] #[h])
          let h := (sb.get h).fvarId!
          unless (← g.withContext (do instantiateMVars (← h.getType))).containsFVar fs[0]! do throwError "inv: {m} is not told"
          let ss ← g.cases fs[0]!
          let mut r := []
          for s in ss do
            let h' := (s.subst.get h).fvarId!
            r := r ++ (← invGo gen n s.mvarId h')
          return r
        else return [(← g.replaceLocalDeclDefEq h (back (← redM 20 e)), h)]

def invT (h : Name) : TacticM Unit := do
  let g ← getMainGoal
  let d ← g.withContext (getLocalDeclFromUserName h)
  let r ← invGo false 200 g d.fvarId
  replaceMainGoal (r.map (·.1))
/-- the same; what is no variable is named first, and what it is stays told -/
def invE (h : Name) : TacticM Unit := do
  let g ← getMainGoal
  let d ← g.withContext (getLocalDeclFromUserName h)
  let r ← invGo true 200 g d.fvarId
  replaceMainGoal (r.map (·.1))
end Mine
end

section
open PySem PySem.W PyProof.Rows
namespace Mine

/-! a small semantics of my own: values without tokens, a store of objects, a weakest precondition by fuel -/

noncomputable def er : Value → Value
  | .int i _ => .int i 0
  | .float b _ => .float b 0
  | .str s _ => .str s 0
  | .bytes b _ => .bytes b 0
  | v => v

noncomputable abbrev vI (i : Int) : Value := .int i 0
noncomputable abbrev vS (s : Str) : Value := .str s 0
noncomputable abbrev vB (b : Array UInt8) : Value := .bytes b 0

inductive O where
  | list (vs : List Value)
  | rlist (vs : List Value)
  | tup (vs : List Value)
  | dict (es : List (Str × Value))
  | inst (C dx : Addr)
  | exc (C : Addr) (dx : Option Addr) (new : Bool)
  | barr (b : Array UInt8)
  | rng (lo hi : Int)
  | cell (v : Option Value)
  | fn (fd : FuncData)
  | code (q : Str)
  | tab (ps : Array Value) (q : Str)

noncomputable abbrev Store := Addr → Option O
noncomputable def Store.set (σ : Store) (a : Addr) (o : O) : Store := fun b => if b = a then some o else σ b
noncomputable def Fresh (σ : Store) (a : Addr) : Prop := ∀ b, a ≤ b → σ b = none
noncomputable abbrev Loc := Str → Option Value
noncomputable def Loc.put (l : Loc) (x : Str) (v : Value) : Loc := fun y => if y = x then some v else l y
noncomputable def Loc.nil : Loc := fun _ => none

noncomputable abbrev KV := Value → Store → Prop
noncomputable abbrev KX := Addr → Store → Prop
noncomputable abbrev KS := Flow → Loc → Store → Prop
noncomputable abbrev KXL := Addr → Loc → Store → Prop
noncomputable abbrev CallF := Value → List Value → Store → KV → KX → Prop

noncomputable def LIM : Nat := 65536

noncomputable def alloc (o : O) (σ : Store) (K : KV) : Prop := ∀ a, Fresh σ a → K (.ref a) (σ.set a o)

noncomputable def dput : List (Str × Value) → Str → Value → List (Str × Value)
  | [], x, v => [(x, v)]
  | (y, u) :: r, x, v => if x = y then (y, v) :: r else (y, u) :: dput r x v

noncomputable def isFlat : Value → Bool
  | .ref _ => false
  | .none | .bool _ | .int .. | .str .. | .bytes .. => true
  | _ => false

/-- reading an item -/
noncomputable def getItemH (v i : Value) (σ : Store) (K : Value → Prop) : Prop := match v, i with
  | .ref a, .int k _ => (match σ a with
      | some (.list vs) | some (.rlist vs) | some (.tup vs) => 0 ≤ k ∧ ∃ x, vs[k.toNat]? = some x ∧ K x
      | some (.barr b) => 0 ≤ k ∧ ∃ x, b[k.toNat]? = some x ∧ K (vI (x.toNat : Int))
      | _ => False)
  | .ref a, .str s _ => (match σ a with
      | some (.dict es) => ∃ x, es.lookup s = some x ∧ K x
      | _ => False)
  | .bytes b _, .int k _ => b.size ≤ LIM ∧ 0 ≤ k ∧ ∃ x, b[k.toNat]? = some x ∧ K (vI (x.toNat : Int))
  | _, _ => False

noncomputable def cutL {α : Type} (vs : List α) (lo hi : Option Int) : List α :=
  ((match hi with | some h => vs.take h.toNat | none => vs)).drop (match lo with | some l => l.toNat | none => 0)
noncomputable def partOk : Value → Option (Option Int)
  | .none => some none
  | .int i _ => if 0 ≤ i then some (some i) else none
  | _ => none

noncomputable def getSliceH (v l u : Value) (σ : Store) (K : KV) : Prop := ∃ lo hi, partOk l = some lo ∧ partOk u = some hi ∧ (match v with
  | .ref a => (match σ a with
      | some (.list vs) | some (.rlist vs) => alloc (.list (cutL vs lo hi)) σ K
      | some (.barr b) => alloc (.barr (cutL b.toList lo hi).toArray) σ K
      | _ => False)
  | .bytes b _ => b.size ≤ LIM ∧ K (vB (cutL b.toList lo hi).toArray) σ
  | _ => False)

noncomputable def setItemH (v i x : Value) (σ : Store) (K : Store → Prop) : Prop := match v, i with
  | .ref a, .int k _ => ∃ vs, σ a = some (.list vs) ∧ 0 ≤ k ∧ k < vs.length ∧ K (σ.set a (.list (vs.set k.toNat x)))
  | .ref a, .str s _ => ∃ es, σ a = some (.dict es) ∧ es.length ≤ 100 ∧ K (σ.set a (.dict (dput es s x)))
  | _, _ => False

noncomputable def small (i : Int) : Prop := i.natAbs < 2 ^ 4000

/-- the few kinds of a value that the rules ask for -/
inductive VK where
  | int (i : Int)
  | str (s : Str)
  | bytes (b : Array UInt8)
  | none
  | ref (a : Addr)
  | other
noncomputable def vk : Value → VK
  | .int i _ => .int i
  | .str s _ => .str s
  | .bytes b _ => .bytes b
  | .none => .none
  | .ref a => .ref a
  | _ => .other

noncomputable def intsV (x y : VK) (P : Int → Int → Prop) : Prop := match x with
  | .int i => (match y with
      | .int j => P i j
      | _ => False)
  | _ => False
noncomputable def addV (x y : VK) (σ : Store) (K : KV) : Prop := match x with
  | .int i => (match y with
      | .int j => K (vI (i + j)) σ
      | _ => False)
  | .ref p => (match y with
      | .ref q => ∃ xs ys, σ p = some (.list xs) ∧ σ q = some (.list ys) ∧ xs.length + ys.length ≤ LIM ∧ alloc (.list (xs ++ ys)) σ K
      | _ => False)
  | _ => False
noncomputable def mulV (x y : VK) (σ : Store) (K : KV) : Prop := match y with
  | .int j => (match x with
      | .int i => small i ∧ small j ∧ K (vI (i * j)) σ
      | .ref p => ∃ xs, σ p = some (.list xs) ∧ 0 ≤ j ∧ j < 4096 ∧ xs.length ≤ 16 ∧ alloc (.list ((List.replicate j.toNat xs).flatten)) σ K
      | .bytes p => 0 ≤ j ∧ j < 4096 ∧ p.size ≤ 16 ∧ 0 < p.size ∧ K (vB ((List.replicate j.toNat p.toList).flatten).toArray) σ
      | _ => False)
  | _ => False
noncomputable def binH (op : Operator) (a b : Value) (σ : Store) (K : KV) : Prop := match op with
  | .Add => addV (vk a) (vk b) σ K
  | .Sub => intsV (vk a) (vk b) fun i j => K (vI (i - j)) σ
  | .Mult => mulV (vk a) (vk b) σ K
  | .FloorDiv => intsV (vk a) (vk b) fun i j => 0 < j ∧ small j ∧ K (vI (i / j)) σ
  | .Mod => intsV (vk a) (vk b) fun i j => 0 < j ∧ K (vI (i % j)) σ
  | .Pow => intsV (vk a) (vk b) fun i j => i = 10 ∧ j = 30 ∧ K (vI (10 ^ 30)) σ
  | .LShift => intsV (vk a) (vk b) fun i j => i = 1 ∧ j = 32 ∧ K (vI 4294967296) σ
  | _ => False

/-- two objects compared; n: for unlikeness -/
noncomputable def eqRef (n : Bool) (p q : Addr) (σ : Store) (K : Bool → Prop) : Prop := match σ p, σ q with
  | some (.tup xs), some (.tup ys) => (xs = ys ∧ xs.all isFlat = true ∧ K (!n)) ∨ (xs.length ≠ ys.length ∧ (xs = [] ∨ ys = []) ∧ K n)
  | some (.list xs), some (.list ys) => (xs = [] ∨ ys = []) ∧ K (match n with | true => !(xs.isEmpty && ys.isEmpty) | false => xs.isEmpty && ys.isEmpty)
  | _, _ => False
noncomputable def eqV (n : Bool) (x y : VK) (σ : Store) (K : Bool → Prop) : Prop := match x with
  | .int i => (match y with
      | .int j => K (match n with | true => decide (i ≠ j) | false => decide (i = j))
      | _ => False)
  | .str i => (match y with
      | .str j => K (match n with | true => decide (i ≠ j) | false => decide (i = j))
      | _ => False)
  | .bytes i => (match y with
      | .bytes j => K (match n with | true => decide (i ≠ j) | false => decide (i = j))
      | _ => False)
  | .ref p => (match y with
      | .ref q => eqRef n p q σ K
      | _ => False)
  | _ => False
noncomputable def isV (n : Bool) (x y : VK) (K : Bool → Prop) : Prop := match y with
  | .none => (match x with
      | .none => K (!n)
      | .int _ => K n
      | .ref _ => K n
      | _ => False)
  | _ => False
noncomputable def cmpH (op : CmpOp) (a b : Value) (σ : Store) (K : Bool → Prop) : Prop := match op with
  | .Eq => eqV false (vk a) (vk b) σ K
  | .NotEq => eqV true (vk a) (vk b) σ K
  | .Lt => intsV (vk a) (vk b) fun i j => K (decide (i < j))
  | .LtE => intsV (vk a) (vk b) fun i j => K (decide (i ≤ j))
  | .Gt => intsV (vk a) (vk b) fun i j => K (decide (i > j))
  | .GtE => intsV (vk a) (vk b) fun i j => K (decide (i ≥ j))
  | .Is => isV false (vk a) (vk b) K
  | .IsNot => isV true (vk a) (vk b) K
  | _ => False

/-- what the class says of a name -/
noncomputable def methOf (F : Frag) (C : Addr) (name : Str) : Option Addr := match findIn F (.ref C) name with
  | some (some (.ref f)) => some f
  | _ => none
noncomputable def bareOf (F : Frag) (C : Addr) (name : Str) : Bool := match findIn F (.ref C) name with
  | some none => true
  | _ => false
/-- a class whose objects keep their attributes in a dict, and whose attribute roads are plain -/
noncomputable def instOk (F : Frag) (C : Addr) : Bool := plainGet F C "" && hasDictIn F C && plainOver F C && findIn F (.ref C) "__setattr__" == some (some (.builtin "object.__setattr__"))
noncomputable def excTail : List Value → Bool
  | .ref _ :: r => excTail r
  | l => l == [.type "ValueError", .type "Exception", .type "BaseException", .type "object"]
/-- so for an exception -/
noncomputable def excOk (F : Frag) (C : Addr) : Bool := findIn F (.ref C) "__getattribute__" == some (some (.builtin "BaseException.__getattribute__")) && findIn F (.ref C) "__getattr__" == some none && hasDictIn F C && findIn F (.ref C) "__setattr__" == some (some (.builtin "object.__setattr__")) && (clsIn F C).any fun cd => excTail cd.mro

noncomputable def getAttrH (F : Frag) (v : Value) (name : Str) (σ : Store) (K : Value → Prop) : Prop := match v with
  | .ref x => (match σ x with
      | some (.inst C dx) => ∃ es u, σ dx = some (.dict es) ∧ instOk F C = true ∧ bareOf F C name = true ∧ es.lookup name = some u ∧ handedIn u = true ∧ K u
      | some (.exc C (some dx) _) => ∃ es u, σ dx = some (.dict es) ∧ excOk F C = true ∧ bareOf F C name = true ∧ es.lookup name = some u ∧ handedIn u = true ∧ K u
      | _ => False)
  | _ => False

noncomputable def setAttrH (F : Frag) (v : Value) (name : Str) (u : Value) (σ : Store) (K : Store → Prop) : Prop := match v with
  | .ref x => (match σ x with
      | some (.inst C dx) => ∃ es, σ dx = some (.dict es) ∧ instOk F C = true ∧ bareOf F C name = true ∧ es.length ≤ 100 ∧ K (σ.set dx (.dict (dput es name u)))
      | some (.exc C (some dx) _) => ∃ es, σ dx = some (.dict es) ∧ excOk F C = true ∧ bareOf F C name = true ∧ es.length ≤ 100 ∧ K (σ.set dx (.dict (dput es name u)))
      | some (.exc C none n) => excOk F C = true ∧ bareOf F C name = true ∧ ∀ dx, Fresh σ dx → K (((σ.set dx (.dict [])).set x (.exc C (some dx) n)).set dx (.dict [(name, u)]))
      | _ => False)
  | _ => False

noncomputable def lookB (G : Str → Option Value) (env : Env) (x : Str) (loc : Loc) (σ : Store) (K : Value → Prop) : Prop := match env.scope.names.lookup x with
  | some .local => (match loc x with
      | some v => K v
      | none => False)
  | some .cell => (match env.cells.lookup x with
      | some c => (match σ c with
          | some (.cell (some v)) => K v
          | _ => False)
      | none => False)
  | some .free => (match env.cells.lookup x, x == ("__classdict__" : Str) with
      | some c, false => (match σ c with
          | some (.cell (some v)) => K v
          | _ => False)
      | _, _ => False)
  | some .globalImplicit => (match G x with
      | some v => K v
      | none => False)
  | _ => False

noncomputable def lookH (G : Str → Option Value) (env : Env) (x : Str) (loc : Loc) (σ : Store) (K : Value → Prop) : Prop := match x == ("__debug__" : Str) with
  | true => False
  | false => lookB G env x loc σ K

noncomputable def storeH (env : Env) (x : Str) (v : Value) (loc : Loc) (σ : Store) (K : Loc → Store → Prop) : Prop := match env.scope.names.lookup x with
  | some .local => K (loc.put x v) σ
  | some .cell => (match env.cells.lookup x with
      | some c => ∃ u, σ c = some (.cell u) ∧ K loc (σ.set c (.cell (some v)))
      | none => False)
  | _ => False

/-- a text of a field of an f-string -/
noncomputable def fieldH (v : Value) (K : Str → Prop) : Prop := match v with
  | .int i _ => i.natAbs < 10 ^ 12 ∧ K (Str.ofString (toString i))
  | .str s _ => s.length ≤ 100 ∧ K s
  | _ => False

end Mine
end

section
open PySem PySem.W PyProof.Rows
namespace Mine

structure Ev where
  E : Env → PySem.Expr → Loc → Store → KV → KX → Prop
  T : Env → PySem.Expr → Loc → Store → (Bool → Store → Prop) → KX → Prop
  As : Env → PySem.Expr → Value → Loc → Store → (Loc → Store → Prop) → KX → Prop
  S : Env → Stmt → Loc → Store → KS → KXL → Prop

noncomputable def Ev.zero : Ev := ⟨fun _ _ _ _ _ _ => False, fun _ _ _ _ _ _ => False, fun _ _ _ _ _ _ _ => False, fun _ _ _ _ _ _ => False⟩

noncomputable def Ev.Es (r : Ev) (env : Env) (loc : Loc) (X : KX) : List PySem.Expr → Store → (List Value → Store → Prop) → Prop
  | [], σ, K => K [] σ
  | e :: es, σ, K => r.E env e loc σ (fun v σ => r.Es env loc X es σ fun vs σ => K (v :: vs) σ) X

noncomputable def Ev.Ss (r : Ev) (env : Env) : List Stmt → Loc → Store → KS → KXL → Prop
  | [], loc, σ, K, _ => K .next loc σ
  | s :: ss, loc, σ, K, X => r.S env s loc σ (fun fl loc σ => match fl with | .next => r.Ss env ss loc σ K X | fl => K fl loc σ) X

/-- each target one value, in order -/
noncomputable def Ev.AsAll (r : Ev) (env : Env) (X : KX) : List PySem.Expr → List Value → Loc → Store → (Loc → Store → Prop) → Prop
  | t :: ts, v :: vs, loc, σ, K => r.As env t v loc σ (fun loc σ => r.AsAll env X ts vs loc σ K) X
  | [], [], loc, σ, K => K loc σ
  | _, _, _, _, _ => False

noncomputable def storeAll (env : Env) : List Str → List Value → Loc → Store → (Loc → Store → Prop) → Prop
  | x :: xs, v :: vs, loc, σ, K => storeH env x v loc σ fun loc σ => storeAll env xs vs loc σ K
  | [], [], loc, σ, K => K loc σ
  | _, _, _, _, _ => False

noncomputable def seqH (v : Value) (σ : Store) (K : List Value → Prop) : Prop := match v with
  | .ref a => (match σ a with
      | some (.tup vs) => K vs
      | _ => False)
  | _ => False

noncomputable def rangeItems (lo hi : Int) : List Value := (List.range (hi - lo).toNat).map fun (i : Nat) => vI (lo + (i : Int))

noncomputable def iterH (v : Value) (σ : Store) (K : List Value → (Store → Prop) → Prop) : Prop := match v with
  | .ref a => (match σ a with
      | some (.list vs) => K vs (fun σ => σ a = some (.list vs))
      | some (.rng lo hi) => K (rangeItems lo hi) (fun _ => True)
      | _ => False)
  | _ => False

noncomputable def forH (g : Store → Prop) (bind : Value → Loc → Store → (Loc → Store → Prop) → Prop) (body : Loc → Store → KS → Prop) : List Value → Loc → Store → KS → Prop
  | [], loc, σ, K => g σ ∧ K .next loc σ
  | x :: xs, loc, σ, K => g σ ∧ bind x loc σ fun loc σ => body loc σ fun fl loc σ => match fl with
      | .next | .cont => forH g bind body xs loc σ K
      | .brk => K .next loc σ
      | .ret v => K (.ret v) loc σ

noncomputable def compH (g : Store → Prop) (bind : Value → Loc → Store → (Loc → Store → Prop) → Prop) (test : Loc → Store → (Bool → Store → Prop) → Prop) (elt : Loc → Store → KV → Prop) (acc : Addr) : List Value → Loc → Store → (Store → Prop) → Prop
  | [], _, σ, K => g σ ∧ K σ
  | x :: xs, loc, σ, K => g σ ∧ bind x loc σ fun loc σ => test loc σ fun b σ => match b with
      | true => elt loc σ fun v σ => ∃ vs, σ acc = some (.list vs) ∧ vs.length < LIM ∧ compH g bind test elt acc xs loc (σ.set acc (.list (vs ++ [v]))) K
      | false => compH g bind test elt acc xs loc σ K

noncomputable def cstH (c : Const) (K : Value → Prop) : Prop := match c with
  | .none => K .none
  | .bool b => K (.bool b)
  | .int i => K (vI i)
  | .str s => K (vS s)
  | .bytes b => K (vB b.toArray)
  | _ => False

noncomputable def cellsOfH (env : Env) (scope : Scope) : List (Str × Addr) :=
  scope.names.foldl (fun cs x => match x.2, env.cells.lookup x.1 with
    | .free, some a => (x.1, a) :: cs
    | _, _ => cs) []
noncomputable def cellsThere (env : Env) (scope : Scope) : Bool := scope.names.all fun x => match x.2 with
  | .free => (env.cells.lookup x.1).isSome
  | .cell => false
  | _ => true

noncomputable def compEnv (scope : Scope) (env : Env) (L : Addr) : Env :=
  let own (n : Str) (k : NameKind) := k == .free && env.scope.kind == .function && env.kindOf n == some .cell
  { scope := { scope with names := scope.names.map fun (n, k) => if own n k then (n, .cell) else (n, k) }, locals := L, globals := env.globals, cells := cellsOfH env scope, qual := env.qual, func := none, code := env.code, frame := env.frame, builtins := builtinsNs }

noncomputable def codeFields : Option Obj → Option (Array Value)
  | some ⟨.type t, _, .fields vs, _⟩ => (match t == "code" with
      | true => some vs
      | false => none)
  | _ => none
/-- the code's own table of codes -/
noncomputable def tabIn (F : Frag) (code : Value) : Option Addr := match code with
  | .ref c => (match codeFields (F.lookup c) with
      | some vs => (match (vs[11]? : Option Value), vs.getD 18 Value.none, vs.getD 7 Value.none, vs.getD 9 Value.none, vs.getD 10 Value.none with
          | some (.ref P), .str _ _, .int _ _, .bool _, .int _ _ => if c = P then none else some P
          | _, _, _, _, _ => none)
      | none => none)
  | _ => none

/-- the few kinds of an expression that the rules ask for -/
noncomputable def tagE : PySem.Expr → Nat
  | .Call .. => 1
  | .Starred .. => 2
  | .ListComp .. => 3
  | .SetComp .. => 3
  | .DictComp .. => 3
  | .Set .. => 4
  | .Tuple .. => 5
  | _ => 0
noncomputable def notCall (e : PySem.Expr) : Bool := !Nat.beq (tagE e) 1
noncomputable def noStar (e : PySem.Expr) : Bool := !Nat.beq (tagE e) 2
noncomputable def namesOnce (scope : Scope) : Bool := scope.kind == .function && scope.names.all fun x => x.2 != .local || scope.names.lookup x.1 == some .local
noncomputable def notComp (e : PySem.Expr) : Bool := !Nat.beq (tagE e) 3
noncomputable def notSet (e : PySem.Expr) : Bool := !Nat.beq (tagE e) 4
noncomputable def testsH (r : Ev) (env : Env) (ifs : List PySem.Expr) (loc : Loc) (σ : Store) (K : Bool → Store → Prop) : Prop := match ifs with
  | [] => K true σ
  | [t] => r.T env t loc σ K fun _ _ => False
  | _ => False
/-- a part of a slice, that may be left out -/
noncomputable def optE (r : Ev) (env : Env) (loc : Loc) : Option PySem.Expr → Store → KV → KX → Prop
  | some l, σ => r.E env l loc σ
  | none, σ => fun K _ => K .none σ
noncomputable def listCompH (r : Ev) (elt tgt it : PySem.Expr) (ifs : List PySem.Expr) (scope : Scope) (env : Env) (loc : Loc) (σ : Store) (K : KV) (X : KX) : Prop :=
  (cellsThere env scope && namesOnce scope && notSet it) = true ∧ r.E env it loc σ (fun v σ => iterH v σ fun items g =>
      ∀ acc, Fresh σ acc → ∀ L, Fresh (σ.set acc (.list [])) L →
        compH g (fun x loc σ K => r.As (compEnv scope env L) tgt x loc σ K fun _ _ => False)
          (fun loc σ K => testsH r (compEnv scope env L) ifs loc σ K)
          (fun loc σ K => r.E (compEnv scope env L) elt loc σ K fun _ _ => False) acc items Loc.nil (σ.set acc (.list [])) fun σ => K (.ref acc) σ) X
noncomputable def noDefaults : Arguments → Bool
  | ⟨[], [], none, [], [], none, []⟩ => true
  | _ => false
noncomputable def opOk (op : CmpOp) : Bool := match op with
  | .In | .NotIn => false
  | _ => true

noncomputable def methH (F : Frag) (ov : Value) (name : Str) (σ : Store) (K : Value → List Value → Prop) : Prop := match ov with
  | .type T => T = "ValueError" ∧ name = "__init__" ∧ K (.builtin "ValueError.__init__") []
  | .ref a => (match clsIn F a, findCls F (.ref a) (.type "type") name with
          | some _, some (.val (.ref f)) => readsIn F a (.type "type") = true ∧ K (.ref f) []
          | _, _ => False) ∨ (match σ a with
      | some (.inst C dx) => ∃ es, σ dx = some (.dict es) ∧ es.lookup name = none ∧ instOk F C = true ∧ (match methOf F C name with
          | some f => isFn F (.ref f) = true ∧ K (.ref f) [ov]
          | none => False)
      | some (.list _) => name = "append" ∧ K (.builtin "list.append") [ov]
      | some (.barr _) => (name = "append" ∧ K (.builtin "bytearray.append") [ov]) ∨ (name = "extend" ∧ K (.builtin "bytearray.extend") [ov])
      | _ => False)
  | _ => False

noncomputable def simpE (F : Frag) (G : Str → Option Value) (env : Env) (e : PySem.Expr) (loc : Loc) (σ : Store) (K : Value → Prop) : Prop := match e with
  | .Constant c _ _ => cstH c K
  | .Attribute (.Name x _) a _ => lookH G env x loc σ fun v => getAttrH F v a σ K
  | _ => False
noncomputable def simpEs (F : Frag) (G : Str → Option Value) (env : Env) (loc : Loc) (σ : Store) : List PySem.Expr → (List Value → Prop) → Prop
  | [], K => K []
  | e :: es, K => simpE F G env e loc σ fun v => simpEs F G env loc σ es fun vs => K (v :: vs)

noncomputable def subOf (F : Frag) (C : Addr) (D : Value) : Bool := match F.lookup C with
  | some ⟨_, _, .cls cd, _⟩ => cd.mro.contains D
  | _ => false
/-- whether a clause of the class D takes an exception of the class C -/
noncomputable def matchIn (F : Frag) (C D : Addr) : Option Bool := if (instIn F (.ref D) (.type "tuple") == some false && (clsIn F D).isSome && subIn F (.ref D) (.type "BaseException") == some true) = true then subIn F (.ref C) (.ref D) else none
noncomputable def raiseOk (F : Frag) (C : Addr) : Bool := subIn F (.ref C) (.type "BaseException") == some true && typeIn F (.ref C) == some (.type "type")

/-- the clauses of a try: one name each, a body that returns a tuple of plain parts -/
noncomputable def handStep (F : Frag) (G : Str → Option Value) (env : Env) (x C : Addr) (loc : Loc) (σ : Store) (K : KS) (hd : ExceptHandler) (rest : Prop) : Prop := match hd with
  | .ExceptHandler (some (.Name cn _)) name [.Return (some (.Tuple elts _ _)) _] _ => (match env.scope.names.lookup cn, G cn with
      | some .globalImplicit, some (.ref D) => (match matchIn F C D with
          | some true => (match name with
              | none => simpEs F G env loc σ elts fun vs => vs.length ≤ 1000 ∧ alloc (.tup vs) σ fun v σ => K (.ret v) loc σ
              | some n => storeH env n (.ref x) loc σ fun loc σ => env.scope.names.lookup n = some .local ∧ simpEs F G env loc σ elts fun vs => vs.length ≤ 1000 ∧ alloc (.tup vs) σ fun v σ => ∀ u, K (.ret v) (fun y => if y = n then u else loc y) σ)
          | some false => rest
          | none => False)
      | _, _ => False)
  | _ => False
noncomputable def handH (F : Frag) (G : Str → Option Value) (env : Env) (x C : Addr) (loc : Loc) (σ : Store) (K : KS) : List ExceptHandler → Prop
  | [] => False
  | hd :: rest => handStep F G env x C loc σ K hd (handH F G env x C loc σ K rest)

noncomputable def joinStep (r : Ev) (env : Env) (loc : Loc) (X : KX) (e : PySem.Expr) (k : Store → (Str → Store → Prop) → Prop) (σ : Store) (K : Str → Store → Prop) : Prop := match e with
  | .Constant (.str s) _ _ => s.length ≤ 100 ∧ k σ fun t σ => K (s ++ t) σ
  | .FormattedValue e conv none _ => conv = -1 ∧ r.E env e loc σ (fun v σ => fieldH v fun s => k σ fun t σ => K (s ++ t) σ) X
  | _ => False
noncomputable def joinH (r : Ev) (env : Env) (loc : Loc) (X : KX) : List PySem.Expr → Store → (Str → Store → Prop) → Prop
  | [], σ, K => K Str.empty σ
  | e :: es, σ, K => joinStep r env loc X e (joinH r env loc X es) σ K

noncomputable def strOf : Option PySem.Expr → Option Str
  | some (.Constant (.str s) _ _) => some s
  | _ => none
noncomputable def pairsH (r : Ev) (env : Env) (loc : Loc) (X : KX) : List (Option PySem.Expr) → List PySem.Expr → Store → (List (Str × Value) → Store → Prop) → Prop
  | [], [], σ, K => K [] σ
  | k :: ks, e :: es, σ, K => (match strOf k with
      | some s => r.E env e loc σ (fun v σ => pairsH r env loc X ks es σ fun ps σ => K ((s, v) :: ps) σ) X
      | none => False)
  | _, _, _, _ => False

section
variable (F : Frag) (G : Str → Option Value) (cf : CallF)

noncomputable def cmpE (r : Ev) (env : Env) (l : PySem.Expr) (ops : List CmpOp) (qs : List PySem.Expr) (loc : Loc) (σ : Store) (K : KV) (X : KX) : Prop := match ops, qs with
  | [op], [q] => opOk op = true ∧ r.E env l loc σ (fun a σ => r.E env q loc σ (fun b σ => cmpH op a b σ fun t => K (.bool t) σ) X) X
  | _, _ => False
noncomputable def sliceOf : PySem.Expr → Option (Option PySem.Expr × Option PySem.Expr × Option PySem.Expr)
  | .Slice l u st _ => some (l, u, st)
  | _ => none
noncomputable def subE (r : Ev) (env : Env) (v i : PySem.Expr) (loc : Loc) (σ : Store) (K : KV) (X : KX) : Prop := match sliceOf i with
  | some (l, u, none) => r.E env v loc σ (fun a σ => optE r env loc l σ (fun lo σ => optE r env loc u σ (fun hi σ => getSliceH a lo hi σ K) X) X) X
  | some (_, _, some _) => False
  | none => r.E env v loc σ (fun a σ => r.E env i loc σ (fun b σ => getItemH a b σ fun u => K u σ) X) X
noncomputable def callE (r : Ev) (env : Env) (f : PySem.Expr) (args : List PySem.Expr) (pos : Pos) (loc : Loc) (σ : Store) (K : KV) (X : KX) : Prop := match f with
  | .Attribute o name apos => (notCall o && apos.endLine == pos.line && decide (args.length < 30) && args.all noStar) = true ∧ r.E env o loc σ (fun ov σ => methH F ov name σ fun f first => r.Es env loc X args σ fun vs σ => cf f (first ++ vs) σ K X) X
  | .Name x p => args.all noStar = true ∧ r.E env (.Name x p) loc σ (fun f σ => r.Es env loc X args σ fun vs σ => cf f vs σ K X) X
  | _ => False
noncomputable def compG (K : PySem.Expr → PySem.Expr → List PySem.Expr → Prop) : List Comprehension → Prop
  | [⟨tgt, it, ifs, n⟩] => (match n == 0 with
      | true => K tgt it ifs
      | false => False)
  | _ => False

noncomputable def stepE (r : Ev) (env : Env) (e : PySem.Expr) (loc : Loc) (σ : Store) (K : KV) (X : KX) : Prop := match e with
  | .Constant c _ _ => cstH c fun v => K v σ
  | .Name x _ => lookH G env x loc σ fun v => K v σ
  | .BinOp l op q _ => r.E env l loc σ (fun a σ => r.E env q loc σ (fun b σ => binH op a b σ K) X) X
  | .Compare l ops qs _ => cmpE r env l ops qs loc σ K X
  | .IfExp t a b _ => r.T env t loc σ (fun q σ => match q with | true => r.E env a loc σ K X | false => r.E env b loc σ K X) X
  | .Attribute o a _ => notCall o = true ∧ r.E env o loc σ (fun v σ => getAttrH F v a σ fun u => K u σ) X
  | .Subscript v i _ => subE r env v i loc σ K X
  | .Tuple es _ _ => es.length ≤ 1000 ∧ r.Es env loc X es σ fun vs σ => alloc (.tup vs) σ K
  | .List es _ => es.length ≤ 1000 ∧ r.Es env loc X es σ fun vs σ => alloc (.list vs) σ K
  | .Dict ks vs _ => (ks.all (·.isSome) && ks.length == vs.length && decide (ks.length ≤ 15) && !ks.isEmpty) = true ∧ ∀ d, Fresh σ d → pairsH r env loc X ks vs (σ.set d (.dict [])) fun ps σ => σ d = some (.dict []) ∧ (ps.map (·.1)).Nodup ∧ K (.ref d) (σ.set d (.dict ps))
  | .JoinedStr es _ => (decide (2 ≤ es.length) && decide (es.length ≤ 20)) = true ∧ joinH r env loc X es σ fun s σ => K (vS s) σ
  | .Lambda args body scope _ => (cellsThere env scope && noDefaults args) = true ∧ (match tabIn F env.code with
      | some P => ∃ ps q, σ P = some (.tab ps q) ∧ q = env.qual ++ "<lambda>" ∧ ∀ (σ' : Store) (f : Addr) (fd : FuncData), (∀ b o, σ b = some o → σ' b = some o) → σ f = none → F.lookup f = none → σ' f = some (.fn fd) →
          fd.params = args → fd.body = .expr body → fd.scope = scope → fd.closure = cellsOfH env scope → fd.qualname = q → fd.globals = mainGlobals → fd.builtins = builtinsNs → fd.defaults = .none → K (.ref f) σ'
      | none => False)
  | .ListComp elt gens scope _ => compG (fun tgt it ifs => listCompH r elt tgt it ifs scope env loc σ K X) gens
  | .Call f args kws pos => (match kws with
      | [] => callE F cf r env f args pos loc σ K X
      | _ :: _ => False)
  | _ => False

noncomputable def boolT (r : Ev) (env : Env) (op : BoolOp) (xs : List PySem.Expr) (loc : Loc) (σ : Store) (K : Bool → Store → Prop) (X : KX) : Prop := match op, xs with
  | .And, [a, b] => r.T env a loc σ (fun q σ => match q with | true => r.T env b loc σ K X | false => K false σ) X
  | .Or, [a, b] => r.T env a loc σ (fun q σ => match q with | true => K true σ | false => r.T env b loc σ K X) X
  | .Or, [a, b, c] => r.T env a loc σ (fun q σ => match q with | true => K true σ | false => r.T env b loc σ (fun q σ => match q with | true => K true σ | false => r.T env c loc σ K X) X) X
  | _, _ => False
noncomputable def cmpT (r : Ev) (env : Env) (l : PySem.Expr) (ops : List CmpOp) (qs : List PySem.Expr) (loc : Loc) (σ : Store) (K : Bool → Store → Prop) (X : KX) : Prop := match ops, qs with
  | [op], [q] => opOk op = true ∧ r.E env l loc σ (fun a σ => r.E env q loc σ (fun b σ => cmpH op a b σ fun t => K t σ) X) X
  | [op, op'], [q, q'] => (opOk op && opOk op') = true ∧ r.E env l loc σ (fun a σ => r.E env q loc σ (fun b σ => cmpH op a b σ fun t => match t with
      | true => r.E env q' loc σ (fun c σ => cmpH op' b c σ fun t => K t σ) X
      | false => K false σ) X) X
  | _, _ => False
noncomputable def stepT (r : Ev) (env : Env) (e : PySem.Expr) (loc : Loc) (σ : Store) (K : Bool → Store → Prop) (X : KX) : Prop := match e with
  | .UnaryOp op x _ => (match op with
      | .Not => r.T env x loc σ (fun b σ => K (!b) σ) X
      | _ => False)
  | .BoolOp op xs _ => boolT r env op xs loc σ K X
  | .Compare l ops qs _ => cmpT r env l ops qs loc σ K X
  | .Name x p => r.E env (.Name x p) loc σ (fun v σ => match v with | .bool b => K b σ | _ => False) X
  | _ => False

noncomputable def stepA (r : Ev) (env : Env) (t : PySem.Expr) (v : Value) (loc : Loc) (σ : Store) (K : Loc → Store → Prop) (X : KX) : Prop := match t with
  | .Name x _ => storeH env x v loc σ K
  | .Attribute o a _ => r.E env o loc σ (fun ov σ => setAttrH F ov a v σ fun σ => K loc σ) X
  | .Subscript o i _ => r.E env o loc σ (fun ov σ => r.E env i loc σ (fun iv σ => setItemH ov iv v σ fun σ => K loc σ) X) X
  | .Tuple ts _ _ => ts.all noStar = true ∧ seqH v σ fun vs => vs.length = ts.length ∧ r.AsAll env X ts vs loc σ K
  | _ => False

noncomputable def compOf : PySem.Expr → Option (PySem.Expr × List Comprehension × Scope)
  | .ListComp elt gens scope _ => some (elt, gens, scope)
  | _ => none
noncomputable def assignS (r : Ev) (env : Env) (t e : PySem.Expr) (loc : Loc) (σ : Store) (K : KS) (X : KXL) : Prop := match compOf e with
  | some (elt, gens, scope) => compG (fun tgt it ifs => noStar t = true ∧ listCompH r elt tgt it ifs scope env loc σ (fun v σ => r.As env t v loc σ (fun loc σ => K .next loc σ) fun _ _ => False) fun x σ => X x loc σ) gens
  | none => notComp e = true ∧ noStar t = true ∧ r.E env e loc σ (fun v σ => (match swappedStores [t] e env with
      | .pure (some xs) => seqH v σ fun vs => vs.length = xs.length ∧ storeAll env xs.reverse vs.reverse loc σ fun loc σ => K .next loc σ
      | .pure none => r.As env t v loc σ (fun loc σ => K .next loc σ) fun _ _ => False
      | _ => False)) (fun x σ => X x loc σ)
noncomputable def stepS (r : Ev) (env : Env) (s : Stmt) (loc : Loc) (σ : Store) (K : KS) (X : KXL) : Prop := match s with
  | .Expr e _ => (match e with
      | .Call f as ks p => r.E env (.Call f as ks p) loc σ (fun _ σ => K .next loc σ) (fun x σ => X x loc σ)
      | _ => False)
  | .Pass _ => K .next loc σ
  | .Return v _ => (match v with
      | some e => r.E env e loc σ (fun v σ => K (.ret v) loc σ) (fun x σ => X x loc σ)
      | none => K (.ret .none) loc σ)
  | .Assign ts e _ => (match ts with
      | [t] => assignS r env t e loc σ K X
      | _ => False)
  | .AugAssign t op e _ => (match t, op with
      | .Name x _, .Add => lookH G env x loc σ fun a => r.E env e loc σ (fun b σ => (match a, b with
          | .int i _, .int j _ => storeH env x (vI (i + j)) loc σ fun loc σ => K .next loc σ
          | _, _ => False)) (fun x σ => X x loc σ)
      | _, _ => False)
  | .If t a b _ => r.T env t loc σ (fun q σ => match q with | true => r.Ss env a loc σ K X | false => r.Ss env b loc σ K X) (fun x σ => X x loc σ)
  | .Raise e c _ => (match e, c with
      | some e, none => r.E env e loc σ (fun v σ => (match v with
          | .ref x => (match σ x with
              | some (.exc C dx true) => raiseOk F C = true ∧ X x loc (σ.set x (.exc C dx false))
              | _ => False)
          | _ => False)) (fun x σ => X x loc σ)
      | _, _ => False)
  | .For t it body els _ => (match els with
      | [] => notSet it = true ∧ r.E env it loc σ (fun v σ => iterH v σ fun items g => forH g (fun x loc σ K => r.As env t x loc σ K fun _ _ => False) (fun loc σ K => r.Ss env body loc σ K X) items loc σ K) (fun x σ => X x loc σ)
      | _ :: _ => False)
  | .Try body hs els fin _ => (match hs, els, fin with
      | h :: hs, [], [] => r.Ss env body loc σ (fun fl loc σ => match fl with
          | .ret v => K (.ret v) loc σ
          | _ => False) (fun x loc σ => (match σ x with
              | some (.exc C _ _) => handH F G env x C loc σ K (h :: hs)
              | _ => False))
      | _, _, _ => False)
  | _ => False

noncomputable def ev : Nat → Ev
  | 0 => Ev.zero
  | n + 1 => ⟨stepE F G cf (ev n), stepT (ev n), stepA F (ev n), stepS F G (ev n)⟩
end

noncomputable def isIE (e : PySem.Expr) : Bool := Nat.beq (tagE e) 1 || Nat.beq (tagE e) 5
noncomputable def isIS : Stmt → Bool
  | .Assign _ (.ListComp ..) _ => false
  | .Expr .. | .Assign .. | .If .. | .Return .. | .For .. | .Try .. => true
  | _ => false

/-- where buffers are written: calls by cfI -/
noncomputable def evI (F : Frag) (G : Str → Option Value) (cf cfI : CallF) : Nat → Ev
  | 0 => Ev.zero
  | n + 1 => ⟨fun env e loc σ K X => match isIE e with
      | true => stepE F G cfI (evI F G cf cfI n) env e loc σ K X
      | false => stepE F G cf (ev F G cf n) env e loc σ K X, stepT (ev F G cf n), stepA F (ev F G cf n), fun env t loc σ K X => match isIS t with
      | true => stepS F G (evI F G cf cfI n) env t loc σ K X
      | false => stepS F G (ev F G cf n) env t loc σ K X⟩
end Mine
end

section
open PySem PySem.W PyProof.Rows
namespace Mine

noncomputable def defaultsOfF (F : Frag) (fd : FuncData) : Option (List Value) := match fd.defaults with
  | .none => some []
  | .ref t => (match F.lookup t with
      | some ⟨.type "tuple", _, .seq vs _, _⟩ => some (vs.toList.map er)
      | _ => none)
  | _ => none

/-- the parameters bound, as the model binds them -/
noncomputable def bindBy (names : List Str) (ds args : List Value) : Option (List (Str × Value)) :=
  if args.length ≤ names.length then
    let ds := ds.drop (ds.length - names.length)
    let first := names.length - ds.length
    if ((names.take first).filter fun n => ((names.zip args).lookup n).isNone).isEmpty then
      let slots := ((names.drop first).zip ds).foldl (fun sl p => if (sl.lookup p.1).isNone then sl ++ [p] else sl) (names.zip args)
      some (names.filterMap fun n => (slots.lookup n).map (n, ·))
    else none
  else none
noncomputable def bindF (F : Frag) (fd : FuncData) (args : List Value) : Option (List (Str × Value)) :=
  match fd.params with
  | ⟨[], as, none, [], [], none, _⟩ => (match defaultsOfF F fd with
      | some ds => bindBy (as.map (·.arg)) ds args
      | none => none)
  | _ => none

noncomputable def kindIn (scope : Scope) (x : Str) : Option NameKind := scope.names.lookup x
noncomputable def cellStore (scope : Scope) (binds : List (Str × Value)) : List (Str × Addr) → Store → Store
  | [], σ => σ
  | (x, c) :: r, σ => (cellStore scope binds r σ).set c (.cell (bindC (kindIn scope) binds (fun _ => none) x))

noncomputable def locOf (scope : Scope) (binds : List (Str × Value)) : Loc := bindL (kindIn scope) binds fun _ => none

/-- no two cells of one name -/
noncomputable def cellsOnce (scope : Scope) : Bool := decide (((cellsFrom 0 scope.names []).map (·.1)).Nodup)

noncomputable def bindsOk (scope : Scope) (binds : List (Str × Value)) : Bool := binds.all fun b => match scope.names.lookup b.1 with
  | some .local => true
  | some .cell => ((cellsFrom 0 scope.names []).lookup b.1).isSome
  | _ => false

noncomputable def envH (fd : FuncData) (f L : Addr) (cells : List (Str × Addr)) : Env :=
  { scope := fd.scope, locals := L, globals := mainGlobals, cells := cells, qual := fd.qualname ++ ".<locals>.", func := some f, code := fd.code, frame := some L, builtins := builtinsNs }

noncomputable def plainScope (s : Scope) : Bool := s.kind == .function && !s.isGenerator && !s.isCoroutine

/-- the code of a function, where it stands -/
noncomputable def codeIn (F : Frag) (fd : FuncData) : Bool := match fd.code with
  | .ref c => (match F.lookup c with
      | some ⟨_, _, .fields vs, _⟩ => (match (vs[1]? : Option Value) with
          | some (.str q _) => q == fd.qualname
          | _ => false)
      | _ => false)
  | _ => false

noncomputable def bodyH (F : Frag) (r : Ev) (fd : FuncData) (f : Addr) (args : List Value) (σ : Store) (K : KV) (X : KX) : Prop :=
  (plainScope fd.scope && fd.globals == mainGlobals && fd.builtins == builtinsNs && fd.closure.isEmpty && codeIn F fd) = true ∧ (match fd.body, bindF F fd args with
    | .stmts body, some binds => (bindsOk fd.scope binds && cellsOnce fd.scope) = true ∧ ∀ L, Fresh σ L →
        r.Ss (envH fd f L (cellsFrom (L + 1) fd.scope.names [])) body (locOf fd.scope binds) (cellStore fd.scope binds (cellsFrom (L + 1) fd.scope.names []) σ)
          (fun fl _ σ => K (match fl with | .ret v => v | _ => .none) σ) (fun x _ σ => X x σ)
    | _, _ => False)

noncomputable def lamH (r : Ev) (fd : FuncData) (f : Addr) (args : List Value) (σ : Store) (K : KV) (X : KX) : Prop :=
  (plainScope fd.scope && noDefaults fd.params && fd.globals == mainGlobals && fd.builtins == builtinsNs && fd.defaults == .none) = true ∧ args = [] ∧ (match fd.body with
    | .expr e => (fd.scope.names.all fun x => x.2 != .cell) = true ∧ ∀ L, Fresh σ L → r.E (envH fd f L fd.closure) e Loc.nil σ K X
    | _ => False)

/-- an object of an own class made -/
noncomputable def makeH (F : Frag) (a : Addr) (cf : CallF) (args : List Value) (σ : Store) (K : KV) (X : KX) : Prop := match methOf F a "__init__" with
  | some fI => (makesIn F a && isFn F (.ref fI)) = true ∧ ∀ dx, Fresh σ dx → ∀ x, Fresh (σ.set dx (.dict [])) x → cf (.ref fI) (.ref x :: args) ((σ.set dx (.dict [])).set x (.inst a dx)) (fun v σ => v = .none ∧ K (.ref x) σ) X
  | none => False
/-- an exception class of one's own, above ValueError -/
noncomputable def isNewVE : Option Value → Bool
  | some (.builtin b) => b == "ValueError.__new__"
  | _ => false
noncomputable def slotsVE : List (Option Value) → Bool
  | [_, _, _, _, v, _] => isNewVE v
  | _ => false
noncomputable def makesExcIn (F : Frag) (C : Addr) : Bool := match F.lookup C with
  | some ⟨.type t, _, .cls ⟨_, _, .ref C' :: bm, _, _, _, _, _, ab, _, false⟩, sl⟩ => t == "type" && C' == C && bm.contains (.type "ValueError") && !bm.contains (.type "AttributeError") && !bm.contains (.type "NameError") &&
      slotsVE sl.toList && specialIn F (.ref C) "__call__" == some (some (.builtin "type.__call__")) && instIn F (.ref C) (.type "type") == some true
  | _ => false
noncomputable def makeExcH (F : Frag) (a : Addr) (cf : CallF) (args : List Value) (σ : Store) (K : KV) (X : KX) : Prop := match methOf F a "__init__" with
  | some fI => (makesExcIn F a && isFn F (.ref fI) && decide (args.length ≤ 100)) = true ∧ ∀ x, Fresh σ x → cf (.ref fI) (.ref x :: args) (σ.set x (.exc a none true)) (fun v σ => v = .none ∧ K (.ref x) σ) X
  | none => False

noncomputable def isExcIn (F : Frag) (C : Addr) : Bool := subOf F C (.type "ValueError")


noncomputable def intsOf : List Value → Option (List Int)
  | [] => some []
  | .int i _ :: r => (intsOf r).map (i :: ·)
  | _ => none

noncomputable def arg1 (args : List Value) (P : Value → Prop) : Prop := match args with
  | [v] => P v
  | _ => False
noncomputable def arg2 (args : List Value) (P : Value → Value → Prop) : Prop := match args with
  | [u, v] => P u v
  | _ => False
noncomputable def refV (x : VK) (P : Addr → Prop) : Prop := match x with
  | .ref a => P a
  | _ => False
noncomputable def lenA (a : Addr) (σ : Store) (K : KV) : Prop := match σ a with
  | some (.list vs) => K (vI (vs.length : Nat)) σ
  | some (.rlist vs) => K (vI (vs.length : Nat)) σ
  | some (.tup vs) => K (vI (vs.length : Nat)) σ
  | some (.barr b) => K (vI (b.size : Nat)) σ
  | _ => False
noncomputable def lenV (x : VK) (σ : Store) (K : KV) : Prop := match x with
  | .ref a => lenA a σ K
  | .bytes b => b.size ≤ LIM ∧ K (vI (b.size : Nat)) σ
  | _ => False
noncomputable def absV (x : VK) (σ : Store) (K : KV) : Prop := match x with
  | .int i => K (vI (i.natAbs : Nat)) σ
  | _ => False
noncomputable def strV (x : VK) (P : Prop) : Prop := match x with
  | .str _ => P
  | _ => False
noncomputable def builtinH (F : Frag) (id : String) (args : List Value) (σ : Store) (K : KV) : Prop := match id with
  | "len" => arg1 args fun v => lenV (vk v) σ K
  | "abs" => arg1 args fun v => absV (vk v) σ K
  | "min" => arg2 args fun u v => intsV (vk u) (vk v) fun i j => K (vI (min i j)) σ
  | "max" => arg2 args fun u v => intsV (vk u) (vk v) fun i j => K (vI (max i j)) σ
  | "list.append" => arg2 args fun u v => refV (vk u) fun a => ∃ vs, σ a = some (.list vs) ∧ vs.length < LIM ∧ K .none (σ.set a (.list (vs ++ [v])))
  | "ValueError.__init__" => arg2 args fun u v => refV (vk u) fun x => strV (vk v) (∃ C dx n, σ x = some (.exc C dx n) ∧ excOk F C = true ∧ K .none σ)
  | _ => False

noncomputable def intT (v : Value) (σ : Store) (K : KV) : Prop := match v with
  | .bool b => K (vI (if b then 1 else 0)) σ
  | _ => False
noncomputable def range1 (x : VK) (σ : Store) (K : KV) : Prop := match x with
  | .int n => -(2 ^ 30) < n ∧ n < 2 ^ 30 ∧ alloc (.rng 0 n) σ K
  | _ => False
noncomputable def rangeT (args : List Value) (σ : Store) (K : KV) : Prop := match args with
  | [] => False
  | v :: vs => (match vs with
      | [] => range1 (vk v) σ K
      | u :: us => (match us with
          | [] => intsV (vk v) (vk u) fun m n => -(2 ^ 30) < m ∧ m < 2 ^ 30 ∧ -(2 ^ 30) < n ∧ n < 2 ^ 30 ∧ alloc (.rng m n) σ K
          | _ :: _ => False))
noncomputable def bytesA (a : Addr) (σ : Store) (K : KV) : Prop := match σ a with
  | some (.list vs) => ∃ ns, intsOf vs = some ns ∧ (∀ n ∈ ns, 0 ≤ n ∧ n < 256) ∧ K (vB (ns.map fun n => n.toNat.toUInt8).toArray) σ
  | some (.barr b) => K (vB b) σ
  | _ => False
noncomputable def bytesV (x : VK) (σ : Store) (K : KV) : Prop := match x with
  | .ref a => bytesA a σ K
  | .bytes b => K (vB b) σ
  | _ => False
noncomputable def typeH (T : String) (args : List Value) (σ : Store) (K : KV) : Prop := match T with
  | "int" => arg1 args fun v => intT v σ K
  | "range" => rangeT args σ K
  | "bytes" => arg1 args fun v => bytesV (vk v) σ K
  | "tuple" => arg1 args fun v => refV (vk v) fun a => ∃ vs, σ a = some (.list vs) ∧ alloc (.tup vs) σ K
  | _ => False

noncomputable def callStep (F : Frag) (G : Str → Option Value) (cf : CallF) : CallF := fun f args σ K X => match f with
  | .builtin id => builtinH F id args σ K
  | .type T => typeH T args σ K
  | .ref a => (match F.lookup a with
      | some ⟨_, _, .func fd, _⟩ => bodyH F (ev F G cf 40) fd a args σ K X
      | some ⟨_, _, .cls _, _⟩ => keepIn F (.ref a) = true ∧ (match isExcIn F a with
          | true => makeExcH F a cf args σ K X
          | false => makeH F a cf args σ K X)
      | none => (match σ a with
          | some (.fn fd) => lamH (ev F G cf 40) fd a args σ K X
          | _ => False)
      | _ => False)
  | _ => False

noncomputable def callD (F : Frag) (G : Str → Option Value) : Nat → CallF
  | 0 => fun _ _ _ _ _ => False
  | d + 1 => callStep F G (callD F G d)

noncomputable def bappH (args : List Value) (σ : Store) (K : KV) : Prop := match args with
  | [.ref a, .int i _] => ∃ b, σ a = some (.barr b) ∧ 0 ≤ i ∧ i < 256 ∧ b.size < LIM ∧ K .none (σ.set a (.barr (b.push i.toNat.toUInt8)))
  | _ => False
noncomputable def bextH (args : List Value) (σ : Store) (K : KV) : Prop := match args with
  | [.ref a, .bytes c _] => ∃ b, σ a = some (.barr b) ∧ b.size + c.size ≤ LIM ∧ K .none (σ.set a (.barr (b ++ c)))
  | _ => False
/-- where buffers are written: the functions and classes of the list -/
noncomputable def callStepI (F : Frag) (G : Str → Option Value) (own : List Addr) (cf cfI : CallF) : CallF := fun f args σ K X => match f with
  | .builtin "bytearray.append" => bappH args σ K
  | .builtin "bytearray.extend" => bextH args σ K
  | .type "bytearray" => args = [] ∧ alloc (.barr #[]) σ K
  | .ref a => (match F.lookup a, own.contains a with
      | some ⟨_, _, .func fd, _⟩, true => bodyH F (evI F G cf cfI 40) fd a args σ K X
      | some ⟨_, _, .cls _, _⟩, true => keepIn F (.ref a) = true ∧ makeH F a cfI args σ K X
      | none, _ => (match σ a with
          | some (.fn fd) => lamH (evI F G cf cfI 40) fd a args σ K X
          | _ => False)
      | _, _ => callStep F G cf f args σ K X)
  | f => callStep F G cf f args σ K X

noncomputable def callI (F : Frag) (G : Str → Option Value) (own : List Addr) : Nat → CallF
  | 0 => fun _ _ _ _ _ => False
  | d + 1 => callStepI F G own (callD F G d) (callI F G own d)

end Mine
end

section
open PySem PySem.W
namespace Mine
theorem nePar : Nonempty Params := ⟨{ strHash := fun _ => 0, shareClass := fun _ => 0, mergeTok := id, idOf := fun _ => 0, idOfShared := fun _ _ => 0, followText := fun _ => false, idOfImm := fun _ => 0 }⟩
theorem neWorld : Nonempty World := nePar.elim fun p => ⟨⟨fun _ _ => 0, p⟩⟩
theorem neProg : Nonempty Program := ⟨default⟩
theorem neShared : Nonempty Shared := ⟨(start default).1⟩
theorem neAround : Nonempty Around := ⟨{ depth := 1, frames := some [], guards := some [], units := 4 }⟩
theorem neO : Nonempty O := ⟨.list []⟩
theorem neModel : Nonempty Model := neWorld.elim fun w => ⟨⟨fun _ => pure (.done .next), (Classical.choice neProg), w⟩⟩
theorem neEv : Nonempty Ev := ⟨Ev.zero⟩
end Mine
open Lean Meta Elab Tactic
namespace Mine

/-! proofs made smaller: a variable that a proof goes under becomes a constant (Hilbert's choice of a counterexample); all that is told of it is then a closed term, and the same term everywhere -/

/-- a choice: the number stands first, so that two of them part at once where the kernel compares -/
structure Hen (k : Nat) {T : Sort u} (G : T → Prop) : Sort (max 1 u) where
  x : T
  h : G x → ∀ y, G y
theorem henNe (k : Nat) {T : Sort u} (i : Nonempty T) (G : T → Prop) : Nonempty (Hen k G) := by
  by_cases q : ∀ y, G y
  · exact i.elim fun t => ⟨⟨t, fun _ => q⟩⟩
  · obtain ⟨y, hy⟩ := Classical.not_forall.mp q
    exact ⟨⟨y, fun h => absurd h hy⟩⟩


noncomputable def Hx {T : Type} (i : Nonempty T) (k : Nat) (G : T → Prop) : T := (Classical.choice (henNe k i G)).x
theorem Hh {T : Type} (i : Nonempty T) (k : Nat) (G : T → Prop) (h : G (Hx i k G)) (y : T) : G y := (Classical.choice (henNe k i G)).h h y
theorem nePair {A B : Type} (a : Nonempty A) (b : Nonempty B) : Nonempty (A × B) := a.elim fun a => b.elim fun b => ⟨(a, b)⟩

noncomputable def X2 {T0 T1 : Type} (i0 : Nonempty T0) (i1 : Nonempty T1) (k : Nat) (G : T0 → T1 → Prop) : T0 × T1 := Hx (nePair i0 i1) k fun p => G p.1 p.2
theorem H2 {T0 T1 : Type} (i0 : Nonempty T0) (i1 : Nonempty T1) (k : Nat) (G : T0 → T1 → Prop) (h : G (X2 i0 i1 k G).1 (X2 i0 i1 k G).2) (y0 : T0) (y1 : T1) : G y0 y1 := Hh (nePair i0 i1) k (fun p => G p.1 p.2) h (y0, y1)
noncomputable def X3 {T0 T1 T2 : Type} (i0 : Nonempty T0) (i1 : Nonempty T1) (i2 : Nonempty T2) (k : Nat) (G : T0 → T1 → T2 → Prop) : T0 × T1 × T2 := Hx (nePair i0 (nePair i1 i2)) k fun p => G p.1 p.2.1 p.2.2
theorem H3 {T0 T1 T2 : Type} (i0 : Nonempty T0) (i1 : Nonempty T1) (i2 : Nonempty T2) (k : Nat) (G : T0 → T1 → T2 → Prop) (h : G (X3 i0 i1 i2 k G).1 (X3 i0 i1 i2 k G).2.1 (X3 i0 i1 i2 k G).2.2) (y0 : T0) (y1 : T1) (y2 : T2) : G y0 y1 y2 := Hh (nePair i0 (nePair i1 i2)) k (fun p => G p.1 p.2.1 p.2.2) h (y0, y1, y2)
noncomputable def X4 {T0 T1 T2 T3 : Type} (i0 : Nonempty T0) (i1 : Nonempty T1) (i2 : Nonempty T2) (i3 : Nonempty T3) (k : Nat) (G : T0 → T1 → T2 → T3 → Prop) : T0 × T1 × T2 × T3 := Hx (nePair i0 (nePair i1 (nePair i2 i3))) k fun p => G p.1 p.2.1 p.2.2.1 p.2.2.2
theorem H4 {T0 T1 T2 T3 : Type} (i0 : Nonempty T0) (i1 : Nonempty T1) (i2 : Nonempty T2) (i3 : Nonempty T3) (k : Nat) (G : T0 → T1 → T2 → T3 → Prop) (h : G (X4 i0 i1 i2 i3 k G).1 (X4 i0 i1 i2 i3 k G).2.1 (X4 i0 i1 i2 i3 k G).2.2.1 (X4 i0 i1 i2 i3 k G).2.2.2) (y0 : T0) (y1 : T1) (y2 : T2) (y3 : T3) : G y0 y1 y2 y3 := Hh (nePair i0 (nePair i1 (nePair i2 i3))) k (fun p => G p.1 p.2.1 p.2.2.1 p.2.2.2) h (y0, y1, y2, y3)
noncomputable def X5 {T0 T1 T2 T3 T4 : Type} (i0 : Nonempty T0) (i1 : Nonempty T1) (i2 : Nonempty T2) (i3 : Nonempty T3) (i4 : Nonempty T4) (k : Nat) (G : T0 → T1 → T2 → T3 → T4 → Prop) : T0 × T1 × T2 × T3 × T4 := Hx (nePair i0 (nePair i1 (nePair i2 (nePair i3 i4)))) k fun p => G p.1 p.2.1 p.2.2.1 p.2.2.2.1 p.2.2.2.2
theorem H5 {T0 T1 T2 T3 T4 : Type} (i0 : Nonempty T0) (i1 : Nonempty T1) (i2 : Nonempty T2) (i3 : Nonempty T3) (i4 : Nonempty T4) (k : Nat) (G : T0 → T1 → T2 → T3 → T4 → Prop) (h : G (X5 i0 i1 i2 i3 i4 k G).1 (X5 i0 i1 i2 i3 i4 k G).2.1 (X5 i0 i1 i2 i3 i4 k G).2.2.1 (X5 i0 i1 i2 i3 i4 k G).2.2.2.1 (X5 i0 i1 i2 i3 i4 k G).2.2.2.2) (y0 : T0) (y1 : T1) (y2 : T2) (y3 : T3) (y4 : T4) : G y0 y1 y2 y3 y4 := Hh (nePair i0 (nePair i1 (nePair i2 (nePair i3 i4)))) k (fun p => G p.1 p.2.1 p.2.2.1 p.2.2.2.1 p.2.2.2.2) h (y0, y1, y2, y3, y4)
noncomputable def X6 {T0 T1 T2 T3 T4 T5 : Type} (i0 : Nonempty T0) (i1 : Nonempty T1) (i2 : Nonempty T2) (i3 : Nonempty T3) (i4 : Nonempty T4) (i5 : Nonempty T5) (k : Nat) (G : T0 → T1 → T2 → T3 → T4 → T5 → Prop) : T0 × T1 × T2 × T3 × T4 × T5 := Hx (nePair i0 (nePair i1 (nePair i2 (nePair i3 (nePair i4 i5))))) k fun p => G p.1 p.2.1 p.2.2.1 p.2.2.2.1 p.2.2.2.2.1 p.2.2.2.2.2
theorem H6 {T0 T1 T2 T3 T4 T5 : Type} (i0 : Nonempty T0) (i1 : Nonempty T1) (i2 : Nonempty T2) (i3 : Nonempty T3) (i4 : Nonempty T4) (i5 : Nonempty T5) (k : Nat) (G : T0 → T1 → T2 → T3 → T4 → T5 → Prop) (h : G (X6 i0 i1 i2 i3 i4 i5 k G).1 (X6 i0 i1 i2 i3 i4 i5 k G).2.1 (X6 i0 i1 i2 i3 i4 i5 k G).2.2.1 (X6 i0 i1 i2 i3 i4 i5 k G).2.2.2.1 (X6 i0 i1 i2 i3 i4 i5 k G).2.2.2.2.1 (X6 i0 i1 i2 i3 i4 i5 k G).2.2.2.2.2) (y0 : T0) (y1 : T1) (y2 : T2) (y3 : T3) (y4 : T4) (y5 : T5) : G y0 y1 y2 y3 y4 y5 := Hh (nePair i0 (nePair i1 (nePair i2 (nePair i3 (nePair i4 i5))))) k (fun p => G p.1 p.2.1 p.2.2.1 p.2.2.2.1 p.2.2.2.2.1 p.2.2.2.2.2) h (y0, y1, y2, y3, y4, y5)
noncomputable def X7 {T0 T1 T2 T3 T4 T5 T6 : Type} (i0 : Nonempty T0) (i1 : Nonempty T1) (i2 : Nonempty T2) (i3 : Nonempty T3) (i4 : Nonempty T4) (i5 : Nonempty T5) (i6 : Nonempty T6) (k : Nat) (G : T0 → T1 → T2 → T3 → T4 → T5 → T6 → Prop) : T0 × T1 × T2 × T3 × T4 × T5 × T6 := Hx (nePair i0 (nePair i1 (nePair i2 (nePair i3 (nePair i4 (nePair i5 i6)))))) k fun p => G p.1 p.2.1 p.2.2.1 p.2.2.2.1 p.2.2.2.2.1 p.2.2.2.2.2.1 p.2.2.2.2.2.2
theorem H7 {T0 T1 T2 T3 T4 T5 T6 : Type} (i0 : Nonempty T0) (i1 : Nonempty T1) (i2 : Nonempty T2) (i3 : Nonempty T3) (i4 : Nonempty T4) (i5 : Nonempty T5) (i6 : Nonempty T6) (k : Nat) (G : T0 → T1 → T2 → T3 → T4 → T5 → T6 → Prop) (h : G (X7 i0 i1 i2 i3 i4 i5 i6 k G).1 (X7 i0 i1 i2 i3 i4 i5 i6 k G).2.1 (X7 i0 i1 i2 i3 i4 i5 i6 k G).2.2.1 (X7 i0 i1 i2 i3 i4 i5 i6 k G).2.2.2.1 (X7 i0 i1 i2 i3 i4 i5 i6 k G).2.2.2.2.1 (X7 i0 i1 i2 i3 i4 i5 i6 k G).2.2.2.2.2.1 (X7 i0 i1 i2 i3 i4 i5 i6 k G).2.2.2.2.2.2) (y0 : T0) (y1 : T1) (y2 : T2) (y3 : T3) (y4 : T4) (y5 : T5) (y6 : T6) : G y0 y1 y2 y3 y4 y5 y6 := Hh (nePair i0 (nePair i1 (nePair i2 (nePair i3 (nePair i4 (nePair i5 i6)))))) k (fun p => G p.1 p.2.1 p.2.2.1 p.2.2.2.1 p.2.2.2.2.1 p.2.2.2.2.2.1 p.2.2.2.2.2.2) h (y0, y1, y2, y3, y4, y5, y6)
noncomputable def X8 {T0 T1 T2 T3 T4 T5 T6 T7 : Type} (i0 : Nonempty T0) (i1 : Nonempty T1) (i2 : Nonempty T2) (i3 : Nonempty T3) (i4 : Nonempty T4) (i5 : Nonempty T5) (i6 : Nonempty T6) (i7 : Nonempty T7) (k : Nat) (G : T0 → T1 → T2 → T3 → T4 → T5 → T6 → T7 → Prop) : T0 × T1 × T2 × T3 × T4 × T5 × T6 × T7 := Hx (nePair i0 (nePair i1 (nePair i2 (nePair i3 (nePair i4 (nePair i5 (nePair i6 i7))))))) k fun p => G p.1 p.2.1 p.2.2.1 p.2.2.2.1 p.2.2.2.2.1 p.2.2.2.2.2.1 p.2.2.2.2.2.2.1 p.2.2.2.2.2.2.2
theorem H8 {T0 T1 T2 T3 T4 T5 T6 T7 : Type} (i0 : Nonempty T0) (i1 : Nonempty T1) (i2 : Nonempty T2) (i3 : Nonempty T3) (i4 : Nonempty T4) (i5 : Nonempty T5) (i6 : Nonempty T6) (i7 : Nonempty T7) (k : Nat) (G : T0 → T1 → T2 → T3 → T4 → T5 → T6 → T7 → Prop) (h : G (X8 i0 i1 i2 i3 i4 i5 i6 i7 k G).1 (X8 i0 i1 i2 i3 i4 i5 i6 i7 k G).2.1 (X8 i0 i1 i2 i3 i4 i5 i6 i7 k G).2.2.1 (X8 i0 i1 i2 i3 i4 i5 i6 i7 k G).2.2.2.1 (X8 i0 i1 i2 i3 i4 i5 i6 i7 k G).2.2.2.2.1 (X8 i0 i1 i2 i3 i4 i5 i6 i7 k G).2.2.2.2.2.1 (X8 i0 i1 i2 i3 i4 i5 i6 i7 k G).2.2.2.2.2.2.1 (X8 i0 i1 i2 i3 i4 i5 i6 i7 k G).2.2.2.2.2.2.2) (y0 : T0) (y1 : T1) (y2 : T2) (y3 : T3) (y4 : T4) (y5 : T5) (y6 : T6) (y7 : T7) : G y0 y1 y2 y3 y4 y5 y6 y7 := Hh (nePair i0 (nePair i1 (nePair i2 (nePair i3 (nePair i4 (nePair i5 (nePair i6 i7))))))) k (fun p => G p.1 p.2.1 p.2.2.1 p.2.2.2.1 p.2.2.2.2.1 p.2.2.2.2.2.1 p.2.2.2.2.2.2.1 p.2.2.2.2.2.2.2) h (y0, y1, y2, y3, y4, y5, y6, y7)
theorem EsI {r : Ev} {env : Env} {loc : Loc} {X : KX} {e : PySem.Expr} {es : List PySem.Expr} {σ : Store} {K : List Value → Store → Prop} (h : r.E env e loc σ (fun v σ => r.Es env loc X es σ fun vs σ => K (v :: vs) σ) X) : r.Es env loc X (e :: es) σ K := h
theorem SsI {r : Ev} {env : Env} {s : Stmt} {ss : List Stmt} {loc : Loc} {σ : Store} {K : KS} {X : KXL} (h : r.S env s loc σ (fun fl loc σ => match fl with | .next => r.Ss env ss loc σ K X | fl => K fl loc σ) X) : r.Ss env (s :: ss) loc σ K X := h
theorem rwL {A : Sort u} {a b : A} (f : A → Prop) (h : a = b) (p : f b) : f a := h ▸ p
theorem rwR {A : Sort u} {a b : A} (f : A → Prop) (h : a = b) (p : f a) : f b := h ▸ p

/-- the choices; where lambdas stand; what is written already; where the kernel's count stands -/
abbrev HState := Array (Array FVarId × Lean.Expr × Lean.Expr) × Std.HashMap Lean.Expr Bool × Std.HashMap Lean.Expr Lean.Expr × Nat
abbrev HM := StateRefT HState MetaM

/-- what stands for the loose variables: in types, in what is written; how many binders are written around -/
abbrev Sc := Array Lean.Expr × Array (Lean.Expr ⊕ Nat) × Nat

def Sc.ty (c : Sc) (e : Lean.Expr) : Lean.Expr := e.instantiateRev c.1
def Sc.write (c : Sc) (e : Lean.Expr) : Lean.Expr := e.instantiateRev (c.2.1.map fun o => match o with | .inl e => e | .inr l => .bvar (c.2.2 - 1 - l))
def Sc.const (c : Sc) (v : Lean.Expr) : Sc := (c.1.push v, c.2.1.push (.inl v), c.2.2)
def Sc.bound (c : Sc) (v : Lean.Expr) : Sc := (c.1.push v, c.2.1.push (.inr c.2.2), c.2.2 + 1)

/-- whether a lambda stands in it -/
def hasLam : Nat → Lean.Expr → HM Bool
  | 0, _ => return true
  | n + 1, e => do
  match e with
  | .lam .. | .letE .. => return true
  | .mdata _ b | .proj _ _ b => hasLam n b
  | .app f a => do
    if let some r := (← get).2.1.get? e then return r
    let r ← do if ← hasLam n a then pure true else hasLam n f
    modify fun s => (s.1, s.2.1.insert e r, s.2.2)
    return r
  | _ => return false

/-- the type, its loose variables left loose -/
def inferL : Nat → Sc → Lean.Expr → MetaM Lean.Expr
  | 0, c, e => inferType (c.ty e)
  | n + 1, c, e => do
  match e with
  | .mdata _ b => inferL n c b
  | .bvar i => inferType c.1[c.1.size - 1 - i]!
  | .app .. => do
    let args := e.getAppArgs
    let mut t ← inferL n c e.getAppFn
    let mut j := 0
    for i in [0:args.size] do
      match t with
      | .forallE _ _ b _ => t := b
      | _ =>
        match ← whnf (c.ty (t.instantiateBetaRevRange j i args)) with
        | .forallE _ _ b _ => t := b; j := i
        | _ => throwError "inferL"
    return t.instantiateBetaRevRange j args.size args
  | .lam x T b bi =>
    withLocalDecl x bi (c.ty T) fun v => do
      let t ← inferL n (c.const v) b
      return .forallE x T (t.abstract #[v]) bi
  | .letE _ _ v b _ => inferL n c (b.instantiate1 v)
  | _ => inferType (c.ty e)

def writeM (c : Sc) (e : Lean.Expr) : HM Lean.Expr := do
  if !e.hasLooseBVars then return e
  if let some r := (← get).2.2.1.get? e then return r
  let r := c.write e
  modify fun s => (s.1, s.2.1, s.2.2.1.insert e r, s.2.2.2)
  return r
def within (k : HM α) : HM α := do
  let m := (← get).2.2.1
  modify fun s => (s.1, s.2.1, {}, s.2.2.2)
  let r ← k
  modify fun s => (s.1, s.2.1, m, s.2.2.2)
  return r

def isChainN : Nat → Lean.Expr → Bool
  | 0, _ => false
  | n + 1, e => if e.isBVar then e.bvarIdx! == 0 else if e.isAppOfArity ``id 2 || e.isAppOfArity ``And.intro 4 then isChainN n e.appArg! else false
def isChain (e : Lean.Expr) : Bool := isChainN 10000 e
/-- a step that says only what it shows: what is shown (tk), what is left (rk), its proof -/
def stripN : Nat → Lean.Expr → Lean.Expr → Lean.Expr × Lean.Expr × Bool
  | 0, T, b => (T, b, true)
  | n + 1, T, b => if b.isLambda then stripN n b.bindingDomain! b.bindingBody! else (T, b, false)
def hint? (e : Lean.Expr) : Option (Lean.Expr × Option Lean.Expr × Lean.Expr) :=
  let f := e.getAppFn
  let args := e.getAppArgs
  if f.isLambda && args.size > 0 then
    let x := stripN args.size f f
    if x.2.2 && x.2.1.isAppOfArity ``id 2 && isChain x.2.1.appArg! then
      -- tk stands under all the variables, rk under all but the last
      some (x.2.1.appFn!.appArg!.instantiateRev args, some (x.1.instantiateRev (args.extract 0 (args.size - 1))), args.back!)
    else none
  else if e.isAppOfArity ``id 2 then some (e.appFn!.appArg!, none, e.appArg!)
  else none

/-- a variable, or a part of one -/
def plainN : Nat → Lean.Expr → Bool
  | 0, _ => false
  | n + 1, e => if e.isProj then plainN n e.projExpr! else e.isBVar
def plain (e : Lean.Expr) : Bool := plainN 10000 e
/-- the same in fewer words -/
def lean? (e : Lean.Expr) : Option Lean.Expr :=
  let a := e.getAppArgs
  if e.getAppFn.isConst then
    let c := e.getAppFn.constName!
    let ls := e.getAppFn.constLevels!
    if c == ``And.casesOn && a.size ≥ 5 then
      if (a[4]!).isLambda && (a[4]!).bindingBody!.isLambda then
        let r := #[.proj ``And 0 a[3]!, .proj ``And 1 a[3]!] ++ a.extract 5 a.size
        some (mkAppN (if plain a[3]! then a[4]!.beta (r.extract 0 2) else mkAppN a[4]! (r.extract 0 2)) (r.extract 2 r.size)) else none
    else if c == ``Prod.casesOn && a.size ≥ 5 then
      if (a[4]!).isLambda && (a[4]!).bindingBody!.isLambda then
        let r := #[.proj ``Prod 0 a[3]!, .proj ``Prod 1 a[3]!]
        some (mkAppN (if plain a[3]! then a[4]!.beta r else mkAppN a[4]! r) (a.extract 5 a.size)) else none
    else if c == ``Exists.casesOn && a.size == 5 then
      if a[2]!.isLambda && ls.length == 1 && !a[2]!.bindingBody!.hasLooseBVar 0 then some (mkAppN (mkConst ``Exists.elim ls) #[a[0]!, a[1]!, a[2]!.bindingBody!.lowerLooseBVars 1 1, a[3]!, a[4]!]) else none
    else if (c == ``Eq.mpr || c == ``Eq.mp) && a.size == 4 then
      let h := a[2]!
      let h := if h.isAppOfArity ``id 2 then h.appArg! else h
      if h.isAppOfArity `Mine.Es_cons 8 && c == ``Eq.mpr then some (mkAppN (mkConst ``EsI) (h.getAppArgs.push a[3]!))
      else if h.isAppOfArity `Mine.Ss_cons 8 && c == ``Eq.mpr then some (mkAppN (mkConst ``SsI) (h.getAppArgs.push a[3]!))
      else if h.isAppOfArity ``congrArg 6 then
        let b := h.getAppArgs
        if (b[1]!).isSort then some (mkAppN (mkConst (if c == ``Eq.mpr then ``rwL else ``rwR) [h.getAppFn.constLevels!.head!]) #[b[0]!, b[2]!, b[3]!, b[4]!, b[5]!, a[3]!]) else none
      else none
    else none
  else none

/-- whether the kernel takes a declaration before its own count of steps stands at so many -/
def takes (env : Environment) (lim : Nat) (d : Declaration) : Bool := match env.addDeclCore lim.toUSize 100000 d none with
  | .ok _ => true
  | .error _ => false
/-- where the kernel's count stands now (from this number up), up to 128 -/
def standsAt (env : Environment) : Nat → Nat → Nat → Nat
  | 0, lo, _ => lo
  | n + 1, lo, step => if takes env (lo + step) (.thmDecl { name := `hkquick, levelParams := [], type := mkConst ``True, value := mkConst ``True.intro })
    then (if step ≤ 128 then lo + step else standsAt env n lo (step / 2))
    else standsAt env n (lo + step) (step * 2)
/-- within so many steps from here -/
def within' (lim : Nat) (d : Declaration) : HM Bool := do
  let env ← getEnv
  let b := standsAt env 1000 (← get).2.2.2 128
  modify fun s => (s.1, s.2.1, s.2.2.1, b)
  return takes env (b + lim) d
/-- whether the kernel sees it soon -/
def quick (lim : Nat) (tk rk : Lean.Expr) : HM Bool := do
  if tk == rk then return true
  let t := Lean.mkForall `h .default rk (tk.liftLooseBVars 0 1)
  let v := Lean.mkLambda `h .default rk (.bvar 0)
  let lctx ← getLCtx
  let mut st := collectFVars {} t
  let mut q := 0
  for _ in [0:1000] do
    if q < st.fvarIds.size then
      match lctx.find? st.fvarIds[q]! with
      | some d => st := collectFVars st d.type
      | none => return false
      q := q + 1
  let ix (a : FVarId) : Nat := ((lctx.find? a).map (·.index)).getD 0
  let need := st.fvarIds.qsort fun a b => ix a < ix b
  let xs := need.map Lean.mkFVar
  let ty ← mkForallFVars xs t
  let val ← mkLambdaFVars xs v
  if ty.hasFVar || ty.hasMVar then return false
  within' lim (.thmDecl { name := `hkquick, levelParams := [], type := ty, value := val })

def ne? (Tt : Lean.Expr) : MetaM (Option Lean.Expr) := do
  try
    unless (← getLevel Tt).normalize == Level.one do return none
    if let some (_, l) := [(``PySem.Params, ``nePar), (``PySem.World, ``neWorld), (``PySem.Shared, ``neShared), (``PySem.Around, ``neAround), (``O, ``neO), (``Ev, ``neEv), (``PySem.Model, ``neModel), (``PySem.Program, ``neProg)].find? (Tt.isConstOf ·.1) then return some (mkConst l)
    return some (← synthInstance (mkApp (mkConst ``Nonempty [Level.one]) Tt))
  catch _ => return none

/-- the variables at the head that can be chosen together -/
def gather : Nat → Sc → Lean.Expr → Array (Lean.Name × Lean.Expr × Lean.Expr) → MetaM (Array (Lean.Name × Lean.Expr × Lean.Expr) × Lean.Expr)
  | 0, _, e, a => return (a, e)
  | n + 1, c, e, a => do
  match e with
  | .lam x T b _ =>
    -- none of the group in the type
    let dep := (List.range a.size).any fun i => T.hasLooseBVar i
    if dep then return (a, e)
    let Tt := c.ty (T.lowerLooseBVars a.size a.size)
    if ← isProp Tt then return (a, e)
    match ← ne? Tt with
    | none => return (a, e)
    | some i => gather n c b (a.push (x, Tt, i))
  | _ => return (a, e)

def peel : Nat → Option Lean.Expr → Option Lean.Expr
  | 0, e => e
  | n + 1, e => if e.isSome then
      let x := (e.getD default).consumeMData
      if x.isForall then peel n (some x.bindingBody!) else none
    else none

def hk (drop : Nat) : Nat → Sc → Option Lean.Expr → Lean.Expr → HM Lean.Expr
  | 0, c, _, e => return c.write e
  | n + 1, c, E?, e => do
  if !(← hasLam 100000 e) then return ← writeM c e
  match e with
  | .mdata _ b => hk drop n c E? b
  | .lam x T b bi => do
    let Tt := c.ty T
    let keep : HM Lean.Expr := do
      withLocalDecl x bi Tt fun v => do
        let r ← within (hk drop n (c.bound v) (peel 1 E?) b)
        return .lam x (← writeM c T) r bi
    if ← isProp Tt then keep
    else do
      let (gr, body) ← gather 8 c e #[]
      if gr.isEmpty then keep
      else
        let ids ← gr.mapM fun _ => mkFreshFVarId
        let mut lctx0 ← getLCtx
        for (g, id) in gr.zip ids do
          lctx0 := lctx0.mkLocalDecl id (← mkFreshUserName g.1.eraseMacroScopes) g.2.1 .default
        let xs := ids.map Lean.mkFVar
        let cx := xs.foldl (fun c x => c.const x) c
        let lctx := lctx0
        let B? := peel gr.size E?
        let G? ← withReader (fun d => { d with lctx := lctx }) do
          let G := cx.ty (← match B? with | some B => pure B | none => inferL 100000 cx body)
          let mut bad := G.hasMVar
          let G := gr.zip xs |>.foldr (fun (g, x) G => Lean.mkLambda g.1 .default g.2.1 (G.abstract #[x])) G
          let all := gr.foldl (fun a g => mkApp (mkApp a g.2.1) g.2.2) G
          for f in (collectFVars {} all).fvarIds do
            if !(← get).1.any (·.1.contains f) then bad := true
          pure (if bad then none else some G)
        match G? with
        | none => keep
        | some G =>
          let ts := gr.foldl (fun a g => mkApp (mkApp a g.2.1) g.2.2) (mkConst `ts)
          let k := (← get).1.size
          modify fun s => (s.1.push (ids, ts, G), s.2)
          let r ← withReader (fun d => { d with lctx := lctx }) do within (hk drop n cx B? body)
          -- the mark: place k, its predicate, the rest
          return mkApp3 (mkConst `hkmark) (mkRawNatLit k) G r
  | .letE x T v b nd => do
    let Tt := c.ty T
    if ← isProp Tt then
      let v' ← hk drop n c (some T) v
      withLocalDecl x .default Tt fun h => do
        let r ← within (hk drop n (c.bound h) (E?.map (·.liftLooseBVars 0 1)) b)
        return .letE x (← writeM c T) v' r nd
    else hk drop n c E? (b.instantiate1 v)
  | .app .. => do
    if let some r := (← get).2.2.1.get? e then return r
    let memo (r : Lean.Expr) : HM Lean.Expr := do
      modify fun s => (s.1, s.2.1, s.2.2.1.insert e r, s.2.2.2)
      return r
    if let some e' := lean? e then return ← memo (← hk drop n c E? e')
    if drop != 0 then
      if let some (tk, rk?, p) := hint? e then
        let tk := c.ty tk
        let rk ← match rk? with
          | some rk => pure (c.ty rk)
          | none => inferL 100000 c p
        let rk := c.ty rk
        -- as far as the kernel goes at once
        let mut best : Option Lean.Expr := none
        if ← quick drop tk rk then
          best := some p
          let mut go := true
          let mut q := p
          while go do
            match hint? q with
            | some (_, rk?, p') =>
              let rk ← match rk? with
                | some rk => pure (c.ty rk)
                | none => inferL 100000 c p'
              if ← quick drop tk (c.ty rk) then
                best := some p'; q := p'
              else go := false
            | none => go := false
        match best with
        | some p =>
          return ← memo (← hk drop n c none p)
        | none =>
          let f := e.getAppFn
          let args := e.getAppArgs
          if f.isLambda then
            return ← memo (mkAppN (← writeM c f) ((← (args.extract 0 (args.size - 1)).mapM (writeM c)).push (← hk drop n c rk? args.back!)))
          else
            return ← memo (mkApp2 (← writeM c f) (← writeM c args[0]!) (← hk drop n c (some args[0]!) args[1]!))
    let f := e.getAppFn
    let args := e.getAppArgs
    if f.isLambda then
      -- the goal goes under binders of proofs
      let rec under : Nat → Lean.Expr → Option Lean.Expr → HM (Option Lean.Expr)
        | 0, _, E? => return E?
        | k + 1, .lam x T b bi, some E => do
          match ← under k b (some (E.liftLooseBVars 0 1)) with
          | some r => return some (.forallE x T r bi)
          | none => return none
        | _, _, _ => return none
      let mut pf := E?.isSome
      for a in args do
        if pf then
          unless ← isProp (c.ty (← inferL 100000 c a)) do pf := false
      let F? ← if pf then under args.size f E? else pure none
      let f' ← hk drop n c F? f
      let mut as := #[]
      for a in args do
        let r ← (do
          if ← hasLam 100000 a then
            let t ← inferL 100000 c a
            if ← isProp (c.ty t) then return ← hk drop n c none a
          writeM c a)
        as := as.push r
      memo (mkAppN f' as)
    else
      let mut t ← inferL 100000 c f
      let mut j := 0
      let mut as := #[]
      for i in [0:args.size] do
        let a := args[i]!
        unless t.isForall do
          t ← whnf (c.ty (t.instantiateRevRange j i args))
          j := i
        let .forallE _ T b _ := t | throwError "hk: no function"
        let r ← (do
          if ← hasLam 100000 a then
            let X := T.instantiateRevRange j i args
            if ← isProp (c.ty X) then return ← hk drop n c (some X) a
          writeM c a)
        as := as.push r
        t := b
      memo (mkAppN (← writeM c f) as)
  | e => writeM c e

def hxName : Nat → Lean.Name × Lean.Name
  | 1 => (``Hx, ``Hh) | 2 => (``X2, ``H2) | 3 => (``X3, ``H3) | 4 => (``X4, ``H4) | 5 => (``X5, ``H5) | 6 => (``X6, ``H6) | 7 => (``X7, ``H7) | _ => (``X8, ``H8)
/-- the choice for a list of types -/
def hxOf (ts : Lean.Expr) : Lean.Expr × Lean.Expr :=
  let a := ts.getAppArgs
  let n := a.size / 2
  let as := (Array.range n).map (fun i => a[2 * i]!) ++ (Array.range n).map fun i => a[2 * i + 1]!
  let (x, h) := hxName n
  (mkAppN (mkConst x) as, mkAppN (mkConst h) as)

abbrev Wr := Std.HashMap FVarId Lean.Expr × Std.HashMap Lean.Expr Lean.Expr
/-- the choices put in their places -/
def wr (cs : Array (Lean.Expr × Lean.Expr)) : Nat → Lean.Expr → StateM Wr Lean.Expr
  | 0, e => return e
  | n + 1, e => do
  match e with
  | .fvar id => return (← get).1.getD id e
  | .const .. | .bvar .. | .lit .. | .sort .. | .mvar .. => return e
  | _ =>
  if let some r := (← get).2.get? e then return r
  let r ← match e with
    | .app f a =>
      if e.isAppOfArity `hkmark 3 then
        let k := f.appFn!.appArg!.rawNatLit?.getD 0
        pure (mkApp3 cs[k]!.2 (mkRawNatLit k) (← wr cs n f.appArg!) (← wr cs n a))
      else pure (.app (← wr cs n f) (← wr cs n a))
    | .lam _ t b _ => pure (.lam `x (← wr cs n t) (← wr cs n b) .default)
    | .forallE _ t b _ => pure (.forallE `x (← wr cs n t) (← wr cs n b) .default)
    | .letE _ t v b nd => pure (.letE `x (← wr cs n t) (← wr cs n v) (← wr cs n b) nd)
    | .mdata _ b => wr cs n b
    | .proj s i b => pure (.proj s i (← wr cs n b))
    | e => pure e
  modify fun s => (s.1, s.2.insert e r)
  return r

/-- a proof made small -/
def hkAll (drop : Nat) (v0 : Lean.Expr) : MetaM Lean.Expr := do
  let (v1, s) ← (hk drop 1000000 (#[], #[], 0) none v0).run (#[], {}, {}, 100)
  let mut w : Wr := ({}, {})
  let mut cs := #[]
  for k in [0:s.1.size] do
    let x := s.1[k]!
    let (ts', w1) := (wr cs 1000000 x.2.1).run w
    let (G', w2) := (wr cs 1000000 x.2.2).run w1
    w := w2
    let y := hxOf ts'
    cs := cs.push y
    let X := mkApp2 y.1 (mkRawNatLit k) G'
    for i in [0:x.1.size] do
      let q := (List.range i).foldl (fun p _ => .proj ``Prod 1 p) X
      w := (w.1.insert x.1[i]! (if i + 1 == x.1.size then q else .proj ``Prod 0 q), w.2)
  return ShareCommon.shareCommon' ((wr cs 1000000 v1).run w).1

def beginC : TacticM Unit := do
  let g ← getMainGoal
  enableInfoTree false
  g.setTag `rootC
/-- the whole proof, made smaller -/
def endC : TacticM Unit := do
  let ms := (← getMCtx).decls.foldl (fun (a : Option (Nat × MVarId)) m d => if d.userName == `rootC && d.kind.isSyntheticOpaque then (match a with
    | some (i, m') => if d.index < i then some (d.index, m) else some (i, m')
    | none => some (d.index, m)) else a) none
  let some (_, g) := ms | return
  let v ← instantiateMVars (.mvar g)
  if v.hasMVar then return
  if (← v.numObjs) < 400 then
    g.assign ((wr #[] 1000000 v).run ({}, {})).1
    return
  let env ← getEnv
  try
   withTheReader Core.Context (fun c => { c with maxHeartbeats := 0 }) <| g.withContext do
    let xs := (← getLCtx).foldl (fun a d => if d.isImplementationDetail then a else a.push d.toExpr) #[]
    let v0 ← mkLambdaFVars xs v (usedOnly := false)
    let ty ← instantiateMVars (← mkForallFVars xs (← g.getType) (usedOnly := false))
    if v0.hasFVar || v0.hasLevelParam then return
    let val ← hkAll 20000 (ShareCommon.shareCommon' v0)
    let nm ← mkAuxDeclName `p
    addDecl (.thmDecl { name := nm, levelParams := [], type := ty, value := val })
    g.assign (mkAppN (mkConst nm) xs)
  catch ex =>
    IO.eprintln s!"endC: {(← ex.toMessageData.toString).take 300}"
    setEnv env
end Mine
end

section
open PySem PySem.W PyProof.Rows
namespace Mine

inductive DRep (P : Params) : List DictEntry → List (Str × Value) → Prop where
  | nil : DRep P [] []
  | cons {e : DictEntry} {l : List DictEntry} {x : Str} {t : Tok} {v : Value} {r : List (Str × Value)} : e.key = .str x t → e.hash = PyData.keyHash P x → er e.val = v → DRep P l r → DRep P (e :: l) ((x, v) :: r)

noncomputable def ORep (P : Params) : O → Obj → Prop
  | .list vs, ob => ∃ items n, ob = { cls := .type "list", data := .seq items n } ∧ items.toList.map er = vs ∧ vs.length ≤ LIM
  | .rlist vs, ob => ob.cls = .type "list" ∧ (∃ items n, ob.data = .seq items n ∧ items.toList.map er = vs) ∧ vs.length ≤ LIM
  | .tup vs, ob => ob.cls = .type "tuple" ∧ (∃ items n, ob.data = .seq items n ∧ items.toList.map er = vs) ∧ vs.length ≤ LIM
  | .dict es, ob => ∃ ents n, ob = { cls := .type "dict", data := .dict ents n } ∧ DRep P ents.toList es ∧ es.length ≤ 200 ∧ (es.map (·.1)).Nodup
  | .inst C dx, ob => ob = instObj C dx
  | .exc C dx n, ob => ob.cls = .ref C ∧ ob.dict = dx ∧ ob.slots = #[] ∧ ∃ vs, ob.data = .fields vs ∧ vs.size = 6 ∧ (n = true → vs[1]? = some .none)
  | .barr b, ob => ob = { cls := .type "bytearray", data := .bytearray b 0 } ∧ b.size ≤ LIM
  | .rng lo hi, ob => (∃ t u v, ob = { cls := .type "range", data := .fields #[.int lo t, .int hi u, .int 1 v] }) ∧ -(2 ^ 31) < lo ∧ lo < 2 ^ 31 ∧ -(2 ^ 31) < hi ∧ hi < 2 ^ 31
  | .cell v, ob => ∃ v', ob.data = .cell v' ∧ v'.map er = v
  | .fn fd, ob => ob = { cls := .type "function", data := .func fd }
  | .code q, ob => ∃ vs t, ob.data = .fields vs ∧ vs[1]? = some (.str q t)
  | .tab ps _, ob => ∃ more, ob = tabObj (ps ++ more)

noncomputable def NsOk (h : Heap) (L : Addr) (loc : Loc) : Prop := ∃ m, h.Ns L m ∧ ∀ x, (m x).map er = loc x

noncomputable def O.isRo : O → Bool | .rlist _ => true | _ => false

/-- the tables of the functions that hold lambdas -/
noncomputable def TT : List Addr := [1596, 1584, 1591]

structure Sit (P : Params) (base : Heap) (g : Array GenState) (os : OsState) (ns : List (Addr × Loc)) (σ : Store) (s : Shared) : Prop where
  stays : base.StaysIn s.heap
  nsok : ∀ p ∈ ns, NsOk s.heap p.1 p.2 ∧ base.get? p.1 = none ∧ σ p.1 = none
  nd : (ns.map (·.1)).Nodup
  rep : ∀ a o, σ a = some o → ∃ ob, s.heap.get? a = some ob ∧ ORep P o ob
  own : ∀ a o, σ a = some o → o.isRo = false → base.get? a = none
  fns : ∀ f fd, σ f = some (.fn fd) → ∃ c, fd.code = .ref c ∧ σ c = some (.code fd.qualname)
  tabs : ∀ a ps q, σ a = some (.tab ps q) → ∃ more, s.heap.get? a = some (tabObj (ps ++ more)) ∧ TriplesOk (ps ++ more).toList ∧ ∀ pos cv, codeAmong pos (ps ++ more).toList = some cv → ∃ c, cv = .ref c ∧ σ c = some (.code q)
  gens : s.gens = g
  os : s.os = os
  tt : ∀ a ∈ TT, ∃ q, σ a = some (.tab #[] q)

section
variable {P : Params} {base : Heap} {g : Array GenState} {os : OsState} {ns : List (Addr × Loc)} {σ : Store} {s s' : Shared}

theorem NsOk.up {h h' : Heap} {L : Addr} {loc : Loc} (x : NsOk h L loc) (k : ∀ o, h.get? L = some o → ∃ sl, h'.get? L = some { o with slots := sl }) : NsOk h' L loc := by
  run_tac beginC
  obtain ⟨m, ⟨o, es, ep, ho, hd, r⟩, hm⟩ := x
  obtain ⟨sl, e⟩ := k o ho
  exact ⟨m, ⟨_, es, ep, e, hd, r⟩, hm⟩
  run_tac endC
theorem NsOk.keeps {h h' : Heap} {L : Addr} {loc : Loc} (x : NsOk h L loc) (k : ∀ o, h.get? L = some o → h'.get? L = some o) : NsOk h' L loc := x.up fun o e => ⟨o.slots, k o e⟩
theorem NsOk.there {h : Heap} {L : Addr} {loc : Loc} (x : NsOk h L loc) : ∃ o, h.get? L = some o ∧ ∀ vs, o.data ≠ .fields vs := by
  run_tac beginC
  obtain ⟨m, ⟨o, es, ep, ho, hd, r⟩, hm⟩ := x
  exact ⟨o, ho, fun vs q => by rw [hd] at q; cases q⟩
  run_tac endC
theorem NsOk.lt {h : Heap} {L : Addr} {loc : Loc} (x : NsOk h L loc) : L < h.objs.size := let ⟨_, e, _⟩ := x.there; Heap.lt_size e

theorem Sit.fresh (S : Sit P base g os ns σ s) {a : Addr} (h : s.heap.objs.size ≤ a) : Fresh σ a := fun b hb => by
  cases q : σ b with
  | none => rfl
  | some o =>
    obtain ⟨ob, e, _⟩ := S.rep b o q
    exact absurd (Heap.lt_size e) (Nat.not_lt.mpr (Nat.le_trans h hb))
theorem Sit.base_none (S : Sit P base g os ns σ s) {a : Addr} (h : s.heap.get? a = none) : base.get? a = none := by
  run_tac beginC
  cases q : base.get? a with
  | none => rfl
  | some o => rw [S.stays a o q] at h; cases h
  run_tac endC

/-- all that is told of stands as it stood, but for slots of the namespaces -/
structure Same (base : Heap) (ns : List (Addr × Loc)) (σ : Store) (h h' : Heap) : Prop where
  b : base.StaysIn h'
  n : ∀ p ∈ ns, ∀ o, h.get? p.1 = some o → ∃ sl, h'.get? p.1 = some { o with slots := sl }
  o : ∀ a o, σ a = some o → ∀ ob, h.get? a = some ob → h'.get? a = some ob

theorem Sit.same (S : Sit P base g os ns σ s) (k : Same base ns σ s.heap s'.heap) (hg : s'.gens = s.gens) (ho : s'.os = s.os) : Sit P base g os ns σ s' := by
  run_tac beginC
  exact {
  stays := k.b
  nsok := fun p hp => let ⟨a, b, c⟩ := S.nsok p hp; ⟨a.up (k.n p hp), b, c⟩
  nd := S.nd
  rep := fun a o e => let ⟨ob, x, y⟩ := S.rep a o e; ⟨ob, k.o a o e ob x, y⟩
  own := S.own
  fns := S.fns
  tabs := fun a ps q e => let ⟨m, x, y⟩ := S.tabs a ps q e; ⟨m, k.o a _ e _ x, y⟩
  gens := hg.trans S.gens
  os := ho.trans S.os
  tt := S.tt
  }
  run_tac endC

theorem Sit.keeps (S : Sit P base g os ns σ s) (k : ∀ b o, s.heap.get? b = some o → s'.heap.get? b = some o) (hg : s'.gens = s.gens) (ho : s'.os = s.os) : Sit P base g os ns σ s' :=
  S.same ⟨fun b o e => k _ _ (S.stays b o e), fun _ _ o e => ⟨o.slots, k _ _ e⟩, fun _ _ _ _ e => k _ _ e⟩ hg ho

/-- a step that turns one object which is not told of -/
theorem Sit.extBut (S : Sit P base g os ns σ s) {a : Addr} (k : Heap.ExtBut a s.heap s'.heap) (ha : base.get? a = none) (hn : a ∉ ns.map (·.1)) (hσ : σ a = none) (hg : s'.gens = s.gens) (ho : s'.os = s.os) : Sit P base g os ns σ s' :=
  S.same ⟨fun b o e => k _ _ (fun q => by rw [q, ha] at e; cases e) (S.stays b o e), fun p hp o e => ⟨o.slots, k _ _ (fun q => hn (q ▸ List.mem_map_of_mem hp)) e⟩, fun b o x ob e => k _ _ (fun q => by rw [q, hσ] at x; cases x) e⟩ hg ho

noncomputable def O.plain : O → Bool | .fn _ | .tab .. | .code _ => false | _ => true

/-- a new object, or a told object turned -/
theorem Sit.put (S : Sit P base g os ns σ s) {a : Addr} {o : O} {ob : Obj} (k : Heap.ExtBut a s.heap s'.heap) (ha : base.get? a = none) (hn : a ∉ ns.map (·.1)) (e : s'.heap.get? a = some ob) (r : ORep P o ob) (hp : o.plain = true)
    (hold : ∀ o', σ a = some o' → o'.plain = true) (hg : s'.gens = s.gens) (ho : s'.os = s.os) : Sit P base g os ns (σ.set a o) s' := by
  run_tac beginC
  exact {
  stays := fun b x q => k _ _ (fun z => by rw [z, ha] at q; cases q) (S.stays b x q)
  nsok := fun p hp' => by
    obtain ⟨x, y, z⟩ := S.nsok p hp'
    have ne : p.1 ≠ a := fun q => hn (q ▸ List.mem_map_of_mem hp')
    exact ⟨x.keeps fun o e => k _ _ ne e, y, by unfold Store.set; rw [if_neg ne]; exact z⟩
  nd := S.nd
  rep := fun b x q => by
    unfold Store.set at q
    by_cases z : b = a
    · subst z; rw [if_pos rfl] at q; cases q; exact ⟨ob, e, r⟩
    · rw [if_neg z] at q
      obtain ⟨ob', e', r'⟩ := S.rep b x q
      exact ⟨ob', k _ _ z e', r'⟩
  own := fun b x q hr => by
    unfold Store.set at q
    by_cases z : b = a
    · rw [z]; exact ha
    · rw [if_neg z] at q; exact S.own b x q hr
  fns := fun f fd q => by
    unfold Store.set at q
    by_cases z : f = a
    · subst z; rw [if_pos rfl] at q; cases q; cases hp
    · rw [if_neg z] at q
      obtain ⟨c, h1, h2⟩ := S.fns f fd q
      have nc : c ≠ a := fun z => by have := hold _ (z ▸ h2); cases this
      exact ⟨c, h1, by unfold Store.set; rw [if_neg nc]; exact h2⟩
  tabs := fun b ps q' q => by
    unfold Store.set at q
    by_cases z : b = a
    · subst z; rw [if_pos rfl] at q; cases q; cases hp
    · rw [if_neg z] at q
      obtain ⟨m, h1, h2, h3⟩ := S.tabs b ps q' q
      refine ⟨m, k _ _ z h1, h2, fun pos cv hc => ?_⟩
      obtain ⟨c, e1, e2⟩ := h3 pos cv hc
      have nc : c ≠ a := fun z => by have := hold _ (z ▸ e2); cases this
      exact ⟨c, e1, by unfold Store.set; rw [if_neg nc]; exact e2⟩
  gens := hg.trans S.gens
  os := ho.trans S.os
  tt := fun b hb => by
    obtain ⟨q, e9⟩ := S.tt b hb
    by_cases z : b = a
    · rw [z] at e9; have := hold _ e9; cases this
    · exact ⟨q, by unfold Store.set; rw [if_neg z]; exact e9⟩
  }
  run_tac endC

theorem Sit.notNs (S : Sit P base g os ns σ s) {a : Addr} (h : s.heap.get? a = none) : a ∉ ns.map (·.1) := fun hm => by
  obtain ⟨p, hp, rfl⟩ := List.mem_map.mp hm
  obtain ⟨o, e, _⟩ := (S.nsok p hp).1.there
  rw [h] at e; cases e
theorem Sit.notNs' (S : Sit P base g os ns σ s) {a : Addr} {o : O} (h : σ a = some o) : a ∉ ns.map (·.1) := fun hm => by
  obtain ⟨p, hp, rfl⟩ := List.mem_map.mp hm
  rw [(S.nsok p hp).2.2] at h; cases h
theorem Sit.free (S : Sit P base g os ns σ s) {a : Addr} (h : s.heap.get? a = none) : σ a = none := by
  run_tac beginC
  cases q : σ a with
  | none => rfl
  | some o => obtain ⟨ob, e, _⟩ := S.rep a o q; rw [h] at e; cases e
  run_tac endC

/-- a new object -/
theorem Sit.new (S : Sit P base g os ns σ s) {a : Addr} {o : O} {ob : Obj} (k : ∀ b x, s.heap.get? b = some x → s'.heap.get? b = some x) (ha : s.heap.get? a = none) (e : s'.heap.get? a = some ob) (r : ORep P o ob) (hp : o.plain = true)
    (hg : s'.gens = s.gens) (ho : s'.os = s.os) : Sit P base g os ns (σ.set a o) s' :=
  S.put (fun b x _ q => k b x q) (S.base_none ha) (S.notNs ha) e r hp (fun o' q => by rw [S.free ha] at q; cases q) hg ho

/-- a told object turned -/
theorem Sit.turn (S : Sit P base g os ns σ s) {a : Addr} {o o' : O} {ob : Obj} (h : σ a = some o') (hr : o'.isRo = false) (hp' : o'.plain = true) (k : Heap.ExtBut a s.heap s'.heap) (e : s'.heap.get? a = some ob) (r : ORep P o ob) (hp : o.plain = true)
    (hg : s'.gens = s.gens) (ho : s'.os = s.os) : Sit P base g os ns (σ.set a o) s' :=
  S.put k (S.own a o' h hr) (S.notNs' h) e r hp (fun o q => by rw [h] at q; cases q; exact hp') hg ho

/-- a namespace turned -/
theorem Sit.nsSet {L : Addr} {loc loc' : Loc} (S : Sit P base g os ((L, loc) :: ns) σ s) (k : Heap.ExtBut L s.heap s'.heap) (n : NsOk s'.heap L loc') (hg : s'.gens = s.gens) (ho : s'.os = s.os) : Sit P base g os ((L, loc') :: ns) σ s' := by
  run_tac beginC
  exact {
  stays := fun b x q => k _ _ (fun z => by rw [z, (S.nsok _ (.head _)).2.1] at q; cases q) (S.stays b x q)
  nsok := fun p hp => by
    rcases List.mem_cons.mp hp with rfl | hp
    · exact ⟨n, (S.nsok _ (.head _)).2⟩
    · obtain ⟨x, y⟩ := S.nsok p (.tail _ hp)
      have nd := S.nd
      rw [List.map_cons, List.nodup_cons] at nd
      exact ⟨x.keeps fun o e => k _ _ (fun z => nd.1 (by rw [← z]; exact List.mem_map_of_mem (f := (·.1)) hp)) e, y⟩
  nd := S.nd
  rep := fun a o e => let ⟨ob, x, y⟩ := S.rep a o e; ⟨ob, k _ _ (fun z => by rw [z, (S.nsok _ (.head _)).2.2] at e; cases e) x, y⟩
  own := S.own
  fns := S.fns
  tabs := fun a ps q e => let ⟨m, x, y⟩ := S.tabs a ps q e; ⟨m, k _ _ (fun z => by rw [z, (S.nsok _ (.head _)).2.2] at e; cases e) x, y⟩
  gens := hg.trans S.gens
  os := ho.trans S.os
  tt := S.tt
  }
  run_tac endC

theorem Sit.nsPush {L : Addr} {loc : Loc} (S : Sit P base g os ns σ s) (k : ∀ b x, s.heap.get? b = some x → s'.heap.get? b = some x) (hL : s.heap.get? L = none) (n : NsOk s'.heap L loc) (hg : s'.gens = s.gens) (ho : s'.os = s.os) : Sit P base g os ((L, loc) :: ns) σ s' :=
  have S' := S.keeps k hg ho
  { S' with
    nsok := fun p hp => by
      rcases List.mem_cons.mp hp with rfl | hp
      · exact ⟨n, S.base_none hL, S.free hL⟩
      · exact S'.nsok p hp
    nd := by rw [List.map_cons, List.nodup_cons]; exact ⟨S.notNs hL, S.nd⟩ }
theorem Sit.nsPop {L : Addr} {loc : Loc} (S : Sit P base g os ((L, loc) :: ns) σ s) : Sit P base g os ns σ s :=
  { S with
    nsok := fun p hp => S.nsok p (.tail _ hp)
    nd := by have := S.nd; rw [List.map_cons, List.nodup_cons] at this; exact this.2 }
theorem Sit.toks {n : Nat} (S : Sit P base g os ns σ s) : Sit P base g os ns σ { s with toks := n } := { S with }
end
end Mine
end

section
open PySem PySem.W PySem.Calls PyProof.Rows
namespace Mine

theorem er_int {v : Value} {i : Int} {t : Tok} (h : er v = .int i t) : ∃ u, v = .int i u := by
  cases v <;> simp [er] at h
  exact ⟨_, by rw [h.1]⟩
theorem er_str {v : Value} {x : Str} {t : Tok} (h : er v = .str x t) : ∃ u, v = .str x u := by
  cases v <;> simp [er] at h
  exact ⟨_, by rw [h.1]⟩
theorem er_bytes {v : Value} {x : Array UInt8} {t : Tok} (h : er v = .bytes x t) : ∃ u, v = .bytes x u := by
  cases v <;> simp [er] at h
  exact ⟨_, by rw [h.1]⟩
theorem er_ref {v : Value} {a : Addr} (h : er v = .ref a) : v = .ref a := by
  cases v <;> simp [er] at h
  rw [h]
theorem er_none {v : Value} (h : er v = .none) : v = .none := by cases v <;> simp [er] at h; rfl
theorem er_bool {v : Value} {b : Bool} (h : er v = .bool b) : v = .bool b := by
  cases v <;> simp [er] at h
  rw [h]
theorem er_type {v : Value} {b : String} (h : er v = .type b) : v = .type b := by
  cases v <;> simp [er] at h
  rw [h]
theorem er_builtin {v : Value} {b : String} (h : er v = .builtin b) : v = .builtin b := by
  cases v <;> simp [er] at h
  rw [h]
theorem vk_int {v : Value} {i : Int} (h : vk (er v) = .int i) : ∃ u, v = .int i u := by
  cases v <;> cases h
  exact ⟨_, rfl⟩
theorem vk_str {v : Value} {i : Str} (h : vk (er v) = .str i) : ∃ u, v = .str i u := by
  cases v <;> cases h
  exact ⟨_, rfl⟩
theorem vk_bytes {v : Value} {i : Array UInt8} (h : vk (er v) = .bytes i) : ∃ u, v = .bytes i u := by
  cases v <;> cases h
  exact ⟨_, rfl⟩
theorem vk_ref {v : Value} {a : Addr} (h : vk (er v) = .ref a) : v = .ref a := by
  cases v <;> cases h
  rfl
theorem vk_none {v : Value} (h : vk (er v) = .none) : v = .none := by
  cases v <;> cases h
  rfl
theorem intsV_inv {x y : VK} {P : Int → Int → Prop} (h : intsV x y P) : ∃ i j, x = .int i ∧ y = .int j ∧ P i j := by
  run_tac beginC
  cases x with
  | int i =>
    cases y with
    | int j => exact ⟨i, j, rfl, rfl, h⟩
    | _ => exact False.elim h
  | _ => exact False.elim h
  run_tac endC
theorem er_er (v : Value) : er (er v) = er v := by cases v <;> rfl

/-- where the traceback's head stands -/
noncomputable def Head (fl : Value → Prop) (base : Heap) (ns : List (Addr × Loc)) (σ : Store) (h : Heap) (e : Addr) (vs : Array Value) : Prop :=
  ∃ T oT ts v, vs[1]? = some (.ref T) ∧ T ≠ e ∧ σ T = none ∧ base.get? T = none ∧ T ∉ ns.map (·.1) ∧ h.get? T = some oT ∧ oT.data = .fields ts ∧ ts[3]? = some v ∧ fl v
noncomputable def Fly (fr : Option Addr) (base : Heap) (ns : List (Addr × Loc)) (σ : Store) (h : Heap) (e : Addr) : Prop :=
  ∃ ob vs, h.get? e = some ob ∧ ob.data = .fields vs ∧ (vs[1]? = some .none ∨ Head (fun v => v = .none ∨ ∃ f, fr = some f ∧ v = rawInt f) base ns σ h e vs)

section
variable (P : Params) (base : Heap) (g : Array GenState) (os : OsState)

noncomputable def PostV (ns : List (Addr × Loc)) (K : KV) : Value → Shared → Prop := fun v s' => ∃ σ', Sit P base g os ns σ' s' ∧ K (er v) σ'
noncomputable def PostX (fr : Option Addr) (ns : List (Addr × Loc)) (X : KX) : Value → Shared → Prop := fun v s' => ∃ e σ', v = .ref e ∧ Sit P base g os ns σ' s' ∧ Fly fr base ns σ' s'.heap e ∧ (∃ C dx, σ' e = some (.exc C dx false)) ∧ X e σ'
noncomputable def PostT (ns : List (Addr × Loc)) (K : Bool → Store → Prop) : Bool → Shared → Prop := fun v s' => ∃ σ', Sit P base g os ns σ' s' ∧ K v σ'
noncomputable def PostL (ns : List (Addr × Loc)) (L : Addr) (K : Loc → Store → Prop) : Unit → Shared → Prop := fun _ s' => ∃ loc' σ', Sit P base g os ((L, loc') :: ns) σ' s' ∧ K loc' σ'
noncomputable def erF : Flow → Flow | .ret v => .ret (er v) | f => f
noncomputable def PostS (ns : List (Addr × Loc)) (L : Addr) (K : KS) : Flow → Shared → Prop := fun f s' => ∃ loc' σ', Sit P base g os ((L, loc') :: ns) σ' s' ∧ K (erF f) loc' σ'
noncomputable def PostXL (fr : Option Addr) (ns : List (Addr × Loc)) (L : Addr) (X : KXL) : Value → Shared → Prop := fun v s' => ∃ e loc' σ', v = .ref e ∧ Sit P base g os ((L, loc') :: ns) σ' s' ∧ Fly fr base ((L, loc') :: ns) σ' s'.heap e ∧ (∃ C dx, σ' e = some (.exc C dx false)) ∧ X e loc' σ'
end

noncomputable def FramesIn (l : List Env) (as : List Addr) : Prop := ∀ e ∈ l, e.scope.kind ≠ .module ∧ ∃ L, e.frame = some L ∧ L ∈ as

structure Okk (A : Around) (env : Env) (ns : List (Addr × Loc)) (d : Nat) : Prop where
  hd : A.handled = none
  kind : env.scope.kind = .function
  glob : env.globals = mainGlobals
  bi : env.builtins = builtinsNs
  frames : ∃ fr outer, A.frames = some (fr :: outer) ∧ env.frame = fr.frame ∧ FramesIn (fr :: outer) (env.locals :: ns.map (·.1))
  depth : A.depth + 4 * d ≤ 900
  units : A.units + 100 * d ≤ 9000

/-- what the top left, as the walk reads it -/
structure Stat (w : World) (F : Frag) (G : Str → Option Value) (base : Heap) : Prop where
  kin : F.In base
  nolimit : base.NoLimit
  glob : ∀ x v, G x = some v → ∃ mg mb val, base.Ns mainGlobals mg ∧ base.Ns builtinsNs mb ∧ er val = v ∧ (mg x = some val ∨ (mg x = none ∧ mb x = some val)) ∧ x ≠ "__debug__"
  glo : ∃ mg, base.Ns mainGlobals mg ∧ ∃ bm ob, mg "__builtins__" = some (.ref bm) ∧ bm ≠ builtinsNs ∧ bm ≠ mainGlobals ∧ base.get? bm = some ob ∧ ob.cls = .type "module" ∧ ob.dict = some builtinsNs ∧ ob.data = .plain

section
variable {prog : Program} {w : World} {F : Frag} {G : Str → Option Value} {base : Heap} {g : Array GenState} {os : OsState} {d : Nat} {r : Ev} {A : Around} {env : Env} {ns : List (Addr × Loc)} {loc : Loc} {σ : Store} {s : Shared} {K : KV} {X : KX}

theorem bindV {β : Type} {t : Sem Value} {f : Value → Sem β} {Q : β → Shared → Prop} {E : Value → Shared → Prop} {K1 : KV} (h : wpAny (model prog w) A t (PostV w.params base g os ns K1) E s)
    (k : ∀ v s' σ', Sit w.params base g os ns σ' s' → K1 (er v) σ' → wpAny (model prog w) A (f v) Q E s') : wpAny (model prog w) A (t >>= f) Q E s :=
  wpAny_bind (wpAny_mono h (fun v s' ⟨σ', S, k1⟩ => k v s' σ' S k1) fun _ _ x => x)
theorem thenV {t : Sem Value} {Q : Value → Shared → Prop} {E : Value → Shared → Prop} {K1 : KV} (h : wpAny (model prog w) A t (PostV w.params base g os ns K1) E s)
    (k : ∀ v s' σ', Sit w.params base g os ns σ' s' → K1 (er v) σ' → Q v s') : wpAny (model prog w) A t Q E s :=
  wpAny_mono h (fun v s' ⟨σ', S, k1⟩ => k v s' σ' S k1) fun _ _ x => x

theorem postV {v : Value} (S : Sit w.params base g os ns σ s) (k : K (er v) σ) : PostV w.params base g os ns K v s := ⟨σ, S, k⟩

theorem snd_cst {c : Const} {k} {pos : Pos} (S : Sit w.params base g os ns σ s) (h : cstH c fun v => K v σ) {E : Value → Shared → Prop} : wpAny (model prog w) A (eval (.Constant c k pos) env) (PostV w.params base g os ns K) E s := by
  run_tac beginC
  rw [arm_eval_Constant]
  cases c with
  | none => exact wpAny_pure (postV S h)
  | bool b => exact wpAny_pure (postV S h)
  | int i => exact wpAny_mkInt (postV (v := .int i s.toks) S.toks h)
  | str x => exact wpAny_mkText (postV (v := .str x s.toks) S.toks h)
  | bytes b => exact wpAny_mkTextBytes (postV (v := .bytes b.toArray s.toks) S.toks h)
  | float => cases h
  | complex => cases h
  | ellipsis => cases h
  run_tac endC

theorem Stat.keeps {h : Heap} (T : Stat w F G base) (k : base.StaysIn h) : F.In h := T.kin.keeps k

theorem snd_load {x : Str} (T : Stat w F G base) (hk : env.scope.kind = .function) (hg : env.globals = mainGlobals) (hb : env.builtins = builtinsNs) (S : Sit w.params base g os ((env.locals, loc) :: ns) σ s) {Kv : Value → Prop} (h : lookH G env x loc σ Kv) {E : Value → Shared → Prop} {Q : Value → Shared → Prop} (hq : ∀ v, Kv (er v) → Q v s) :
    wpAny (model prog w) A (loadName env x) Q E s := by
  run_tac beginC
  unfold lookH at h
  split at h
  · cases h
  unfold lookB at h
  generalize hx : env.scope.names.lookup x = y at h
  rcases y with _ | y
  · exact False.elim h
  cases y with
  | «local» =>
    generalize h1 : loc x = z at h
    rcases z with _ | v
    · exact False.elim h
    · obtain ⟨⟨m, hn, hm⟩, _⟩ := S.nsok _ (.head _)
      have e : (m x).map er = loc x := hm x
      rw [h1] at e
      obtain ⟨val, e1, rfl⟩ := Option.map_eq_some_iff.mp e
      exact wpAny_loadName_local hk hx hn e1 (hq _ h)
  | cell =>
    generalize hc : env.cells.lookup x = z at h
    rcases z with _ | c
    · exact False.elim h
    · replace h : (match σ c with | some (.cell (some v)) => Kv v | _ => False) := h
      generalize h1 : σ c = z at h
      (run_tac invT `h)
      · rename_i v
        obtain ⟨ob, e1, v', e2, e3⟩ := S.rep _ _ h1
        cases v' with
        | none => cases e3
        | some val =>
          cases e3
          exact wpAny_loadName_cell hk hx hc ⟨ob, e1, e2⟩ (hq _ h)
  | free =>
    generalize hc : env.cells.lookup x = z at h
    generalize hcd : (x == ("__classdict__" : Str)) = z2 at h
    rcases z with _ | c
    · exact False.elim h
    rcases z2 with _ | _
    rotate_left
    · exact False.elim h
    · replace h : (match σ c with | some (.cell (some v)) => Kv v | _ => False) := h
      generalize h1 : σ c = z at h
      (run_tac invT `h)
      · rename_i v
        obtain ⟨ob, e1, v', e2, e3⟩ := S.rep _ _ h1
        cases v' with
        | none => cases e3
        | some val =>
          cases e3
          exact wpAny_loadName_free hk hx hc ⟨ob, e1, e2⟩ (hq _ h) hcd
  | globalImplicit =>
    generalize hv : G x = z at h
    rcases z with _ | v
    · exact False.elim h
    · obtain ⟨mg, mb, val, n1, n2, rfl, hh, hd⟩ := T.glob _ _ hv
      rw [loadName_read hk hx]
      have k1 : s.heap.Ns env.globals mg := by rw [hg]; exact Heap.Ns.keeps n1 S.stays
      have k2 : s.heap.Ns env.builtins mb := by rw [hb]; exact Heap.Ns.keeps n2 S.stays
      rcases hh with hh | ⟨h0, hh⟩
      · exact loadGlobal_global k1 hh (hq _ h)
      · exact loadGlobal_builtin k1 h0 k2 hh (hq _ h)
  | _ => exact False.elim h
  run_tac endC
end
end Mine
end

section
open PySem PySem.W PySem.Calls PyProof.Rows
open PySem.Builtin
set_option maxRecDepth 100000
namespace Mine
namespace BA

theorem slot_len : Slot "bytearray" "__len__" "bytearray.__len__" :=
  .of (owner := "bytearray") (n := "__len__") (by rw [typeLookup_type, builtinLookup_eq_fast]; kernel_rfl) (by decide +kernel) (by decide +kernel) (by decide +kernel)
    (by first | exact .inl (by decide +kernel) | exact .inr (by decide +kernel)) (by rw [isSubtype_type]; kernel_rfl)
theorem slot_item : Slot "bytearray" "__getitem__" "bytearray.__getitem__" :=
  .of (owner := "bytearray") (n := "__getitem__") (by rw [typeLookup_type, builtinLookup_eq_fast]; kernel_rfl) (by decide +kernel) (by decide +kernel) (by decide +kernel)
    (by first | exact .inl (by decide +kernel) | exact .inr (by decide +kernel)) (by rw [isSubtype_type]; kernel_rfl)
theorem entry_len : entryFor table "bytearray.__len__" = some Builtin.«bytearray.__len__» := by first | exact entryFor_of_tree (by kernel_rfl) | exact entryFor_of_fast (by kernel_rfl)
theorem entry_item : entryFor table "bytearray.__getitem__" = some Builtin.«bytearray.__getitem__» := by first | exact entryFor_of_tree (by kernel_rfl) | exact entryFor_of_fast (by kernel_rfl)
theorem args_len (a : Value) : argsOk "bytearray.__len__" ⟨[a], []⟩ := by unfold argsOk; kernel_rfl
theorem args_item (a b : Value) : argsOk "bytearray.__getitem__" ⟨[a, b], []⟩ := by unfold argsOk; kernel_rfl

noncomputable abbrev obj (b : Array UInt8) : Obj := { cls := .type "bytearray", data := .bytearray b 0 }

section
variable {prog : Program} {w : World} {A : Around} {E : Value → Shared → Prop} {s : Shared} {a : Addr} {b : Array UInt8} {Q : Value → Shared → Prop}

theorem typeIs (h : s.heap.get? a = some (obj b)) : s.TypeIs (.ref a) "bytearray" := ⟨_, h, rfl⟩

theorem payload (h : s.heap.get? a = some (obj b)) {Q : Array UInt8 → Shared → Prop} {M : Model} (hq : Q b s) : wpAny M A (Bytes.payload (.ref a)) Q E s := by
  run_tac beginC
  unfold Bytes.payload Bytes.payload?
  refine wpAny_bind (wpAny_bind (wpAny_load h ?_))
  exact wpAny_pure (wpAny_pure hq)
  run_tac endC

theorem meets_len (b : Array UInt8) (a : Addr) : Meets («bytearray.__len__» ⟨[.ref a], []⟩) (fun _ R s => s.heap.get? a = some (obj b) ∧ R (.ok (.ret (.int b.size s.toks))) { s with toks := s.toks + 1 }) := by
  run_tac beginC
  refine .of_wp fun prog w A R s hS => ?_
  obtain ⟨ho, h⟩ := hS
  show wpAny _ _ (Bytes.payload (.ref a) >>= fun r => _) _ _ s
  refine wpAny_bind (payload ho ?_)
  exact wpAny_bind (wpAny_mkInt (wpAny_pure ⟨_, rfl, h⟩))
  run_tac endC
theorem len (ho : s.heap.get? a = some (obj b)) (hfit : b.size ≤ 1099511627776) (h : Q (.int b.size (s.toks + 1)) { s with toks := s.toks + 1 + 1 }) : wpAny (model prog w) A (call (.builtin "len") [.ref a]) Q E s :=
  call_len_meets (typeIs ho) slot_len entry_len (args_len _) (meets_len b a) (by (run_tac Mine.Lin.om)) (by (run_tac Mine.Lin.om)) (fun _ hq => ⟨ho, hq⟩) h

theorem meets_item (b : Array UInt8) (a : Addr) {i : Int} {u : Tok} {c : UInt8} (hr : Bytes.fitsIndex i = true) (h : (seqIndex? i b.size).bind (b[·]?) = some c) :
    Meets («bytearray.__getitem__» ⟨[.ref a, .int i u], []⟩) (fun _ R s => s.heap.get? a = some (obj b) ∧ R (.ok (.ret (.int c.toNat s.toks))) { s with toks := s.toks + 1 }) := by
  run_tac beginC
  refine .of_wp fun prog w A R s hS => ?_
  obtain ⟨ho, hR⟩ := hS
  show wpAny _ _ (Bytes.subscript? (.int i u) >>= fun r => _) _ _ s
  refine wpAny_bind ?_
  unfold Bytes.subscript?
  refine wpAny_bind (wpAny_specialOf (T := "int") (typeIs_int _ _ _) PySem.F.slot_int_index.lookup ?_)
  refine wpAny_ite ?_
  rw [if_neg (by decide)]
  refine wpAny_bind (wpAny_of_eq (a := i) rfl ?_)
  rw [hr]
  refine wpAny_pure ?_
  refine wpAny_bind (payload ho ?_)
  rw [h]
  exact wpAny_bind (wpAny_mkInt (wpAny_pure ⟨_, rfl, hR⟩))
  run_tac endC

theorem item {i : Int} {u : Tok} {c : UInt8} (ho : s.heap.get? a = some (obj b)) (hfit : b.size ≤ 1099511627776) (h0 : 0 ≤ i) (hc : b[i.toNat]? = some c) (h : Q (.int c.toNat s.toks) { s with toks := s.toks + 1 }) :
    wpAny (model prog w) A (getItem (.ref a) (.int i u)) Q E s := by
  run_tac beginC
  obtain ⟨hl, he⟩ := Array.getElem?_eq_some_iff.mp hc
  refine getItem_meets (typeIs ho) (by decide) slot_item entry_item (args_item _ _) (meets_item b a (c := c) ?_ ?_) ⟨ho, h⟩
  · simp only [Bytes.fitsIndex, Bool.and_eq_true, decide_eq_true_eq]; (run_tac Mine.Lin.om)
  · have hn : ¬ i < 0 := by (run_tac Mine.Lin.om)
    have h1 : i < b.size := by (run_tac Mine.Lin.om)
    simp [seqIndex?, hn, h0, h1, he]
  run_tac endC

theorem meets_slice (b : Array UInt8) (a sl : Addr) {l u : Value} {lo hi : Option Int} (hl : IsPart l lo) (hu : IsPart u hi) :
    Meets («bytearray.__getitem__» ⟨[.ref a, .ref sl], []⟩) (fun _ R s => s.heap.IsSliceOf sl l u .none ∧ s.heap.get? a = some (obj b) ∧ (KBy.picked b lo hi).size ≤ sizeLine ∧ R (.ok (.ret (.ref s.heap.objs.size))) { s with heap := s.heap.push (obj (KBy.picked b lo hi)) }) := by
  run_tac beginC
  refine .of_wp fun prog w A R s hS => ?_
  obtain ⟨⟨o, ho, hc, hd⟩, hb, hsz, h⟩ := hS
  have hT : s.TypeIs (.ref sl) "slice" := ⟨o, ho, hc⟩
  show wpAny _ _ (Bytes.subscript? (.ref sl) >>= fun r => _) _ _ s
  refine wpAny_bind ?_
  unfold Bytes.subscript?
  refine wpAny_bind (wpAny_specialOf hT slice_no_index (wpAny_pure ?_))
  refine wpAny_bind (wpAny_typeOf hT ?_)
  show wpAny _ _ (Bytes.sliceParts (.ref sl) >>= fun r => _) _ _ s
  refine wpAny_bind ?_
  unfold Bytes.sliceParts
  refine wpAny_bind (wpAny_field (x := .none) ho hd rfl ?_)
  refine wpAny_bind (wpAny_of_eq (a := Value.none) rfl ?_)
  refine wpAny_ite (KBy.ite_no (show ¬ ((Value.none == rawInt 0) = true) from Bool.false_ne_true) ?_)
  refine wpAny_bind (wpAny_field (x := l) ho hd rfl ?_)
  have go : wpAny (model prog w) A.in1 (sliceIndices (rawPart lo) (rawPart hi) (rawPart none) b.size) (fun r s' => r = sliceBounds lo hi none b.size ∧ s' = s) (fun _ _ => False) s :=
    wpAny_of_eq (sliceIndices_raw lo hi none b.size (fun e => nomatch e)) ⟨rfl, rfl⟩
  have part : ∀ {v : Value} {x : Option Int} {Q : Value → Shared → Prop} {E : Value → Shared → Prop} {A : Around}, IsPart v x → Q (rawPart x) s → wpAny (model prog w) A (do
      if v == .none then return .none
      if (← specialOf v "__index__").isNone then
        rule "bytes.slice.part-no-index"; raiseError "TypeError" "slice indices must be integers or None or have an __index__ method"
      return rawInt (← asIndex v)) Q E s := by
    intro v x Q E A hv hq
    cases hv with
    | none => exact wpAny_pure hq
    | int k t =>
      refine wpAny_ite (KBy.ite_no (show ¬ ((Value.int k t == Value.none) = true) from Bool.false_ne_true) ?_)
      refine wpAny_bind (wpAny_specialOf (T := "int") (typeIs_int _ _ _) PySem.F.slot_int_index.lookup ?_)
      refine wpAny_ite (KBy.ite_no (show ¬ (Option.isNone (some _) = true) from Bool.false_ne_true) ?_)
      exact wpAny_bind (wpAny_of_eq rfl (wpAny_pure hq))
  refine wpAny_bind (part hl ?_)
  refine wpAny_bind (wpAny_field (x := u) ho hd rfl ?_)
  refine wpAny_bind (part hu ?_)
  refine wpAny_pure ?_
  refine wpAny_bind (payload hb ?_)
  refine wpAny_bind (wpAny_mono go (fun r s' hr => ?_) fun _ _ e => e.elim)
  obtain ⟨hr1, hr2⟩ := hr
  subst hr1 hr2
  refine wpAny_bind ?_
  unfold Bytes.newBytearray
  exact wpAny_newObj_type (wpAny_pure ⟨_, rfl, h⟩) hsz
  run_tac endC
theorem slice {sl : Addr} {l u : Value} {lo hi : Option Int} (ho : s.heap.get? a = some (obj b)) (hs : s.heap.IsSliceOf sl l u .none) (hl : IsPart l lo) (hu : IsPart u hi) (hfit : b.size ≤ sizeLine)
    (h : Q (.ref s.heap.objs.size) { s with heap := s.heap.push (obj (KBy.picked b lo hi)) }) :
    wpAny (model prog w) A (getItem (.ref a) (.ref sl)) Q E s :=
  getItem_meets (typeIs ho) (by decide) slot_item entry_item (args_item _ _) (meets_slice b a sl hl hu) ⟨hs, ho, Nat.le_trans (KBc.size_picked_le b lo hi) hfit, h⟩

theorem no_bytes : typeLookup (.type "bytearray") "__bytes__" = pure none := by rw [typeLookup_type, builtinLookup_eq_fast]; kernel_rfl
theorem ba_no_index : typeLookup (.type "bytearray") "__index__" = pure none := by rw [typeLookup_type, builtinLookup_eq_fast]; kernel_rfl
theorem look_buffer : typeLookup (.type "bytearray") "__buffer__" = pure (some (.builtin "bytearray.__buffer__")) := by rw [typeLookup_type, builtinLookup_eq_fast]; kernel_rfl
theorem look_release : typeLookup (.type "bytearray") "__release_buffer__" = pure (some (.builtin "bytearray.__release_buffer__")) := by rw [typeLookup_type, builtinLookup_eq_fast]; kernel_rfl
theorem sub : isSubtype (.type "bytearray") (.type "bytearray") = pure true := by rw [isSubtype_type]; kernel_rfl
theorem bytes_bytes : typeLookup (.type "bytes") "__bytes__" = pure (some (.builtin "bytes.__bytes__")) := by rw [typeLookup_type, builtinLookup_eq_fast]; kernel_rfl

theorem own_buffer (ho : s.heap.get? a = some (obj b)) {Q : Bool → Shared → Prop} {M : Model} (h : Q true s) : wpAny M A (Bytes.slotIsOwn (.ref a) "__buffer__") Q E s := by
  run_tac beginC
  unfold Bytes.slotIsOwn
  refine wpAny_bind (wpAny_specialOf (typeIs ho) look_buffer ?_)
  dsimp only
  have key : ∀ x : String, x = "bytearray" → wpAny M A (isInstance (.ref a) (.type x)) Q E s := fun x hx => by rw [hx]; exact wpAny_isInstance (typeIs ho) sub h
  refine wpAny_ite ?_
  rw [if_neg (by decide +kernel)]
  exact key _ (by decide +kernel)
  run_tac endC
theorem own_release (ho : s.heap.get? a = some (obj b)) {Q : Bool → Shared → Prop} {M : Model} (h : Q false s) : wpAny M A (Bytes.ownRelease (.ref a)) Q E s := by
  run_tac beginC
  unfold Bytes.ownRelease Bytes.slotIsOwn
  refine wpAny_bind (wpAny_bind (wpAny_specialOf (typeIs ho) look_release ?_))
  dsimp only
  have key : ∀ x : String, x = "bytearray" → ∀ Q : Bool → Shared → Prop, Q true s → wpAny M A (isInstance (.ref a) (.type x)) Q E s := fun x hx Q h => by rw [hx]; exact wpAny_isInstance (typeIs ho) sub h
  refine wpAny_ite ?_
  rw [if_neg (by decide +kernel)]
  exact key _ (by decide +kernel) _ (wpAny_pure h)
  run_tac endC
theorem buffer {id : String} {full : Bool} (ho : s.heap.get? a = some (obj b)) {Q : Option (Array UInt8) → Shared → Prop} {M : Model} (h : Q (some b) s) : wpAny M A (Bytes.buffer? id (.ref a) full) Q E s := by
  run_tac beginC
  unfold Bytes.buffer?
  refine wpAny_bind (wpAny_specialOf (typeIs ho) look_buffer ?_)
  dsimp only
  refine wpAny_bind (own_buffer ho ?_)
  refine wpAny_ite ?_
  rw [if_neg (by decide)]
  refine wpAny_bind (wpAny_specialOf (typeIs ho) look_buffer ?_)
  refine wpAny_bind (own_release ho ?_)
  refine wpAny_ite ?_
  rw [if_neg (by decide)]
  exact wpAny_bind (payload ho (wpAny_pure h))
  run_tac endC

theorem new_of (ho : s.heap.get? a = some (obj b)) (hz : b.size ≤ sizeLine) (hQ : ∀ t k, Q (.bytes b t) { s with toks := k }) :
    codeAny (model prog w) A (.call (.builtin "bytes.__new__") ⟨[.type "bytes", .ref a], []⟩) (wants Q E) s := by
  run_tac beginC
  refine codeAny_of_tree ?_
  show wpAny _ A.in1 (do checkBuiltinCall "bytes.__new__" ⟨[.type "bytes", .ref a], []⟩; again (.builtin "bytes.__new__" ⟨[.type "bytes", .ref a], []⟩)) _ _ s
  refine wpAny_bind (wpAny_of_eq (PySem.F.bm_newCall _) (wpAny_pure ⟨plainId_quiet PySem.F.bm_plain _, codeAny_builtin PySem.F.bm_entry ?_⟩))
  rw [Around.under_plainId PySem.F.bm_plain _]
  have hT := typeIs ho
  unfold Builtin.«bytes.__new__»
  refine wpAny_bind (wpAny_of_eq (a := true) rfl ?_)
  refine bm_if_false rfl ?_
  refine wpAny_bind (wpAny_of_eq PySem.F.bm_sub ?_)
  refine bm_if_false rfl ?_
  refine wpAny_bind (wpAny_of_eq (PySem.F.bm_bind _) ?_)
  refine wpAny_bind (wpAny_of_eq (a := ()) rfl ?_)
  refine wpAny_bind (wpAny_of_eq (a := ()) rfl ?_)
  refine bm_if_false rfl ?_
  refine wpAny_bind (wpAny_specialOf hT no_bytes ?_)
  refine wpAny_bind (wpAny_bind ?_)
  show wpAny _ _ (load a >>= _) _ _ _
  refine wpAny_bind (wpAny_load ho ?_)
  refine wpAny_pure (wpAny_pure ?_)
  refine bm_if_false rfl ?_
  refine wpAny_bind (wpAny_specialOf hT ba_no_index ?_)
  refine bm_if_true rfl ?_
  first
    | show wpAny _ _ (Builtin.Bytes.buffer? "bytes.__new__" (.ref a) true >>= _) _ _ _
    | (refine wpAny_bind ?_; show wpAny _ _ (Builtin.Bytes.buffer? "bytes.__new__" (.ref a) true >>= _) _ _ _)
  refine wpAny_bind (buffer ho ?_)
  refine wpAny_bind (wpAny_rule ?_)
  refine wpAny_bind (wpAny_mkBytes ?_ hz)
  show wpAny _ _ (if (Value.type "bytes" == Value.type "bytes") = true then _ else _) _ _ _
  refine bm_if_true (by decide) ?_
  first
    | exact wpAny_pure (hQ _ _)
    | exact wpAny_bind (wpAny_pure (wpAny_pure (hQ _ _)))
  run_tac endC
theorem bytes_of (ho : s.heap.get? a = some (obj b)) (hz : b.size ≤ sizeLine) (hQ : ∀ t k, Q (.bytes b t) { s with toks := k }) : wpAny (model prog w) A (call (.type "bytes") [.ref a]) Q E s := by
  run_tac beginC
  refine callType_codes (Q₁ := fun obj s₁ => s₁.TypeIs obj "bytes" ∧ Q obj s₁) PySem.F.bm_called (PySem.F.bm_typeCall _) PySem.F.entry_object_init
    (new_of ho hz fun t k => ⟨typeIs_bytes _ _ _, hQ t k⟩) fun obj s₁ h₁ => ?_
  exact ⟨h₁.1, PySem.F.args_object_init_2 obj _, object_init_meets PySem.F.bm_called.init.lookup PySem.F.bm_called.made (by decide) prog w A.in1 _ s₁ ⟨h₁.1, rfl, h₁.2⟩⟩
  run_tac endC

theorem new_bytes {t : Tok} (hQ : Q (.bytes b t) s) :
    codeAny (model prog w) A (.call (.builtin "bytes.__new__") ⟨[.type "bytes", .bytes b t], []⟩) (wants Q E) s := by
  run_tac beginC
  refine codeAny_of_tree ?_
  show wpAny _ A.in1 (do checkBuiltinCall "bytes.__new__" ⟨[.type "bytes", .bytes b t], []⟩; again (.builtin "bytes.__new__" ⟨[.type "bytes", .bytes b t], []⟩)) _ _ s
  refine wpAny_bind (wpAny_of_eq (PySem.F.bm_newCall _) (wpAny_pure ⟨plainId_quiet PySem.F.bm_plain _, codeAny_builtin PySem.F.bm_entry ?_⟩))
  rw [Around.under_plainId PySem.F.bm_plain _]
  have hT := typeIs_bytes s b t
  unfold Builtin.«bytes.__new__»
  refine wpAny_bind (wpAny_of_eq (a := true) rfl ?_)
  refine bm_if_false rfl ?_
  refine wpAny_bind (wpAny_of_eq PySem.F.bm_sub ?_)
  refine bm_if_false rfl ?_
  refine wpAny_bind (wpAny_of_eq (PySem.F.bm_bind _) ?_)
  refine wpAny_bind (wpAny_of_eq (a := ()) rfl ?_)
  refine wpAny_bind (wpAny_of_eq (a := ()) rfl ?_)
  refine bm_if_false rfl ?_
  refine wpAny_bind (wpAny_specialOf hT bytes_bytes ?_)
  refine wpAny_bind (wpAny_rule ?_)
  refine wpAny_bind (wpAny_typeOf hT ?_)
  refine bm_if_true (by decide) ?_
  show wpAny _ _ (if (Value.type "bytes" == Value.type "bytes") = true then _ else _) _ _ _
  refine bm_if_true (by decide) ?_
  first
    | exact wpAny_pure hQ
    | exact wpAny_bind (wpAny_pure (wpAny_pure hQ))
  run_tac endC
theorem bytes_bytes_of {t : Tok} (hQ : Q (.bytes b t) s) : wpAny (model prog w) A (call (.type "bytes") [.bytes b t]) Q E s := by
  run_tac beginC
  refine callType_codes (Q₁ := fun obj s₁ => s₁.TypeIs obj "bytes" ∧ Q obj s₁) PySem.F.bm_called (PySem.F.bm_typeCall _) PySem.F.entry_object_init
    (new_bytes ⟨typeIs_bytes _ _ _, hQ⟩) fun obj s₁ h₁ => ?_
  exact ⟨h₁.1, PySem.F.args_object_init_2 obj _, object_init_meets PySem.F.bm_called.init.lookup PySem.F.bm_called.made (by decide) prog w A.in1 _ s₁ ⟨h₁.1, rfl, h₁.2⟩⟩
  run_tac endC
end
end BA
end Mine
end

section
open PySem PySem.W PySem.Calls PyProof.Rows
set_option maxRecDepth 100000
namespace Mine

theorem log2_of_small {i : Int} (h : small i) : i.natAbs.log2 < 4000 := by
  run_tac beginC
  unfold small at h
  by_cases h0 : i.natAbs = 0
  · rw [h0]; decide
  · exact (Nat.log2_lt h0).mpr h
  run_tac endC
theorem bits_small {i : Int} (h : small i) : Builtin.Int.intBits i ≤ 2 ^ 20 := by
  run_tac beginC
  have := log2_of_small h
  unfold Builtin.Int.intBits
  split <;> (run_tac Mine.Lin.om)
  run_tac endC

section
variable {prog : Program} {w : World} {F : Frag} {G : Str → Option Value} {base : Heap} {g : Array GenState} {os : OsState} {ns : List (Addr × Loc)} {σ : Store} {s : Shared} {A : Around} {K : KV} {E : Value → Shared → Prop} {P : Params}

theorem Sit.listAt (S : Sit P base g os ns σ s) {a : Addr} {vs : List Value} (h : σ a = some (.list vs) ∨ σ a = some (.rlist vs)) : ∃ items, s.heap.IsList a items ∧ items.toList.map er = vs ∧ vs.length ≤ LIM := by
  run_tac beginC
  rcases h with h | h
  · obtain ⟨ob, e, items, n, rfl, hv, hl⟩ := S.rep _ _ h
    exact ⟨items, ⟨_, e, rfl, n, rfl⟩, hv, hl⟩
  · obtain ⟨ob, e, hc, ⟨items, n, hd, hv⟩, hl⟩ := S.rep _ _ h
    exact ⟨items, ⟨ob, e, hc, n, hd⟩, hv, hl⟩
  run_tac endC
theorem Sit.tupAt (S : Sit P base g os ns σ s) {a : Addr} {vs : List Value} (h : σ a = some (.tup vs)) : ∃ items, s.heap.IsTuple a items ∧ items.toList.map er = vs ∧ vs.length ≤ LIM := by
  run_tac beginC
  obtain ⟨ob, e, hc, ⟨items, n, hd, hv⟩, hl⟩ := S.rep _ _ h
  exact ⟨items, ⟨ob, e, hc, n, hd⟩, hv, hl⟩
  run_tac endC
theorem sz_of {items : Array Value} {vs : List Value} (h : items.toList.map er = vs) : items.size = vs.length := by rw [← h]; simp
theorem LIM_le : LIM ≤ sizeLine := by rw [sizeLine_eq]; decide

/-- a new object put -/
theorem Sit.push (S : Sit P base g os ns σ s) {o : O} {ob : Obj} (hf : ob.isFreed = false) (r : ORep P o ob) (hp : o.plain = true) {n : Nat} : Sit P base g os ns (σ.set s.heap.objs.size o) { s with heap := s.heap.push ob, toks := n } :=
  S.new (s' := { s with heap := s.heap.push ob, toks := n }) (fun b x e => Heap.get?_push_of_some ob e) (Heap.get?_none_of_le (Nat.le_refl _)) (Heap.get?_push_size _ hf) r hp rfl rfl
theorem Sit.fresh' (S : Sit P base g os ns σ s) : Fresh σ s.heap.objs.size := S.fresh (Nat.le_refl _)

theorem snd_alloc_seq (S : Sit w.params base g os ns σ s) {o : O} {ob : Obj} (hf : ob.isFreed = false) (r : ORep w.params o ob) (hp : o.plain = true) (h : alloc o σ K) {n : Nat} :
    PostV w.params base g os ns K (.ref s.heap.objs.size) { s with heap := s.heap.push ob, toks := n } := ⟨_, S.push hf r hp, h _ S.fresh'⟩

theorem snd_bin {op : Operator} {a b : Value} (S : Sit w.params base g os ns σ s) (h : binH op (er a) (er b) σ K) : wpAny (model prog w) A (binaryOp op a b) (PostV w.params base g os ns K) E s := by
  run_tac beginC
  cases op with
  | Add =>
    replace h : addV (vk (er a)) (vk (er b)) σ K := h
    generalize hx : vk (er a) = x at h
    generalize hy : vk (er b) = y at h
    cases x with
    | int i =>
      cases y with
      | int j =>
        obtain ⟨t, rfl⟩ := vk_int hx; obtain ⟨u, rfl⟩ := vk_int hy
        exact add_int (postV S.toks h)
      | _ => exact False.elim h
    | ref p =>
      cases y with
      | ref q =>
        cases vk_ref hx; cases vk_ref hy
        obtain ⟨xs, ys, e1, e2, hz, h⟩ := h
        obtain ⟨ob1, o1, i1, n1, rfl, v1, z1⟩ := S.rep _ _ e1
        obtain ⟨ob2, o2, i2, n2, rfl, v2, z2⟩ := S.rep _ _ e2
        have y1 := sz_of v1; have y2 := sz_of v2
        exact concat_meets ⟨_, o1, rfl⟩ ⟨_, o2, rfl⟩ noFill_list_add seq_list_add PySem.F.slot_list_add PySem.F.entry_list_add (PySem.F.args_list_add_2 _ _) (list_addW _ _ i1 i2 n1 n2 none none #[] #[] (by rw [y1, y2]; exact Nat.le_trans hz LIM_le))
          ⟨o1, o2, snd_alloc_seq S rfl (o := .list (xs ++ ys)) ⟨_, _, rfl, by simp [v1, v2], by simpa using hz⟩ rfl h⟩
      | _ => exact False.elim h
    | _ => exact False.elim h
  | Sub =>
    obtain ⟨i, j, hx, hy, h⟩ := intsV_inv h
    obtain ⟨t, rfl⟩ := vk_int hx; obtain ⟨u, rfl⟩ := vk_int hy
    exact sub_int (postV S.toks h)
  | Mult =>
    replace h : mulV (vk (er a)) (vk (er b)) σ K := h
    generalize hx : vk (er a) = x at h
    generalize hy : vk (er b) = y at h
    cases y with
    | int j =>
      obtain ⟨u, rfl⟩ := vk_int hy
      cases x with
      | int i =>
        obtain ⟨t, rfl⟩ := vk_int hx
        obtain ⟨x, y, h⟩ := h
        exact PySem.P.mul_int (postV S.toks h) (IntMulOk.of_bits (bits_small x) (bits_small y))
      | ref l =>
        cases vk_ref hx
        obtain ⟨xs, e1, h0, hz, hx, h⟩ := h
        obtain ⟨ob1, o1, i1, n1, rfl, v1, z1⟩ := S.rep _ _ e1
        have y1 := sz_of v1
        have bd : i1.size * j.toNat ≤ 65520 := Nat.le_trans (Nat.mul_le_mul (by (run_tac Mine.Lin.om) : i1.size ≤ 16) (by (run_tac Mine.Lin.om) : j.toNat ≤ 4095)) (by decide)
        refine wpAny_binaryOp_repeat_ref (T := "list") (U := "int") (by decide) ⟨_, o1, rfl⟩ (fun s' => typeIs_int s' j u) noFill_list_mul PySem.F.fills_int_mul PySem.F.slot_int_rmul repeat_list PySem.F.slot_int_index.lookup
          (call_meets PySem.F.slot_int_rmul (typeIs_int s j u) PySem.F.entry_int_rmul (PySem.F.args_int_rmul_2 _ _) (lm_int_rmul_list_any j u l i1 n1 none #[])
            ⟨o1, rfl, ⟨_, o1, rfl⟩, call_meets PySem.F.slot_list_mul ⟨_, o1, rfl⟩ PySem.F.entry_list_mul (PySem.F.args_list_mul_2 _ _)
              (lm_list_mul_any l i1 n1 none #[] j u (by simp [Builtin.List.listFitsIndex]; (run_tac Mine.Lin.om)) (by (run_tac Mine.Lin.om)) (by simp [Builtin.List.listTooLong, sizeLine_eq]; (run_tac Mine.Lin.om)))
              ⟨o1, ?_⟩⟩)
        have ei : i1 = (i1.toList).toArray := by simp
        rw [ei, listMul_foldl_if]
        refine snd_alloc_seq S rfl (o := .list ((List.replicate j.toNat xs).flatten)) ⟨_, _, rfl, by simp [← v1, List.map_flatten], ?_⟩ rfl h
        simp only [List.length_flatten, List.map_replicate, List.sum_replicate_nat]
        rw [← y1, Nat.mul_comm]
        exact Nat.le_trans bd (by decide)
      | bytes p =>
        obtain ⟨t, rfl⟩ := vk_bytes hx
        obtain ⟨h0, hz, hx, hb, h⟩ := h
        have e : p = p.toList.toArray := by simp
        rw [e]
        exact bytes_mul_any (fun q => by rw [e, q] at hb; exact absurd hb (by decide)) (by (run_tac Mine.Lin.om)) (by (run_tac Mine.Lin.om)) (by simpa using hx) fun t' k => ⟨_, S.toks, h⟩
      | _ => exact False.elim h
    | _ => exact False.elim h
  | FloorDiv =>
    obtain ⟨i, j, hx, hy, h⟩ := intsV_inv h
    obtain ⟨t, rfl⟩ := vk_int hx; obtain ⟨u, rfl⟩ := vk_int hy
    obtain ⟨z, y, h⟩ := h
    exact floordiv_int (by (run_tac Mine.Lin.om)) (postV S.toks (by rw [Int.fdiv_eq_ediv_of_nonneg _ (by (run_tac Mine.Lin.om))]; exact h)) (.inl (PyProof.noPylong_of_log2 (by have := log2_of_small y; (run_tac Mine.Lin.om))))
  | Mod =>
    obtain ⟨i, j, hx, hy, h⟩ := intsV_inv h
    obtain ⟨t, rfl⟩ := vk_int hx; obtain ⟨u, rfl⟩ := vk_int hy
    obtain ⟨z, h⟩ := h
    exact mod_int (by (run_tac Mine.Lin.om)) (postV S.toks (by rw [Int.fmod_eq_emod_of_nonneg _ (by (run_tac Mine.Lin.om))]; exact h))
  | Pow =>
    obtain ⟨i, j, hx, hy, h⟩ := intsV_inv h
    obtain ⟨t, rfl⟩ := vk_int hx; obtain ⟨u, rfl⟩ := vk_int hy
    obtain ⟨e1, e2, h'⟩ := h
    subst e1 e2
    exact pow_int (by decide) (by decide +kernel) (postV S.toks h')
  | LShift =>
    obtain ⟨i, j, hx, hy, h⟩ := intsV_inv h
    obtain ⟨t, rfl⟩ := vk_int hx; obtain ⟨u, rfl⟩ := vk_int hy
    obtain ⟨e1, e2, h'⟩ := h
    subst e1 e2
    exact lshift_int (by decide) (by decide +kernel) (postV S.toks h')
  | _ => exact False.elim h
  run_tac endC

theorem snd_lookD : ∀ {ents : List DictEntry} {es : List (Str × Value)} {x : Str} {v : Value}, DRep P ents es → es.lookup x = some v → ∃ e, ents.find? (fun d => d.key.isStr x) = some e ∧ er e.val = v := by
  run_tac beginC
  intro ents es x v D
  induction D with
  | nil => intro h; cases h
  | @cons e l y t u r' hk hh hv r ih =>
    intro h
    rw [List.lookup_cons] at h
    rw [List.find?_cons, hk]
    by_cases q : x = y
    · subst q
      rw [beq_self_eq_true] at h
      have e1 : (Value.str x t).isStr x = true := by simp [Value.isStr]
      rw [e1]
      exact ⟨e, rfl, by rw [hv]; exact Option.some.inj h⟩
    · have h1 : (x == y) = false := by simpa using q
      rw [h1] at h
      have e1 : (Value.str y t).isStr x = false := by simp [Value.isStr]; first | exact q | exact fun z => q z.symm
      rw [e1]
      exact ih h
  run_tac endC

theorem DRep.keys {ents : List DictEntry} {es : List (Str × Value)} (r : DRep P ents es) : ∀ e ∈ ents, ∃ x t, e.key = .str x t ∧ e.hash = PyData.keyHash P x := by
  run_tac beginC
  induction r with
  | nil => exact fun e he => absurd he (by simp)
  | cons hk hh _ _ ih =>
    intro e he
    rcases List.mem_cons.mp he with rfl | he
    · exact ⟨_, _, hk, hh⟩
    · exact ih e he
  run_tac endC

theorem snd_dictAt (S : Sit w.params base g os ns σ s) {a : Addr} {es : List (Str × Value)} (h : σ a = some (.dict es)) : ∃ ents n, s.heap.get? a = some { cls := .type "dict", data := .dict ents n } ∧ DRep w.params ents.toList es ∧ (es.length ≤ 200 ∧ (es.map (·.1)).Nodup) ∧
    s.heap.MapOf (strKind prog w) a (fun k => findBy Value.isStrOf ents k) := by
  run_tac beginC
  obtain ⟨ob, e, ents, n, rfl, hr, hl⟩ := S.rep _ _ h
  exact ⟨ents, n, e, hr, hl, _, ents, n, e, ⟨rfl, rfl, rfl⟩, rfl, fun d hd => by
    obtain ⟨x, t, e1, e2⟩ := hr.keys d (Array.mem_toList_iff.mpr hd)
    exact ⟨x, by rw [e1]; exact strKind_is prog w x t, e2⟩, fun _ => rfl⟩
  run_tac endC

theorem snd_findBy {ents : Array DictEntry} {es : List (Str × Value)} {x : Str} {v : Value} (r : DRep P ents.toList es) (h : es.lookup x = some v) : ∃ u, findBy Value.isStrOf ents x = some u ∧ er u = v := by
  run_tac beginC
  obtain ⟨e, h1, h2⟩ := snd_lookD r h
  have q : (fun d : DictEntry => Value.isStrOf x d.key) = fun d => d.key.isStr x := funext fun d => (isStr_of x d.key).symm
  refine ⟨e.val, ?_, h2⟩
  unfold findBy
  obtain ⟨l⟩ := ents
  rw [List.find?_toArray, q, h1]
  rfl
  run_tac endC


theorem get_map {α : Type} {items : Array Value} {vs : List Value} {k : Nat} {x : Value} (hv : items.toList.map er = vs) (hx : vs[k]? = some x) : ∃ y, items[k]? = some y ∧ er y = x := by
  run_tac beginC
  subst hv
  rw [List.getElem?_map] at hx
  obtain ⟨y, h1, h2⟩ := Option.map_eq_some_iff.mp hx
  exact ⟨y, by simpa using h1, h2⟩
  run_tac endC

theorem snd_item {o i : Value} {Kv : Value → Prop} {Q : Value → Shared → Prop} (S : Sit w.params base g os ns σ s) (h : getItemH (er o) (er i) σ Kv) (hq : ∀ v n, Kv (er v) → Q v { s with toks := n }) :
    ∃ T id, typeLookup (.type T) "__getitem__" = pure (some (.builtin id)) ∧ s.TypeIs o T ∧ wpAny (model prog w) A (getItem o i) Q E s := by
  run_tac beginC
  have lst : ∀ {a : Addr} {vs : List Value} {k : Int} {t : Tok} {x : Value}, (σ a = some (.list vs) ∨ σ a = some (.rlist vs)) → 0 ≤ k → vs[k.toNat]? = some x → Kv x → ∃ T id, typeLookup (.type T) "__getitem__" = pure (some (.builtin id)) ∧ s.TypeIs (.ref a) T ∧ wpAny (model prog w) A (getItem (.ref a) (.int k t)) Q E s := by
    intro a vs k t x q h0 hx h
    obtain ⟨items, hl, hv, hz⟩ := S.listAt q
    obtain ⟨y, hy, rfl⟩ := get_map (α := Unit) hv hx
    obtain ⟨hlt, _⟩ := List.getElem?_eq_some_iff.mp hx
    exact ⟨"list", _, slot_list_getitem.lookup, hl.typeIs, wpAny_getItem_list hl h0 (by unfold LIM at hz; (run_tac Mine.Lin.om)) hy (hq _ _ h)⟩
  unfold getItemH at h
  generalize h1 : er o = y1 at h
  generalize h2 : er i = y2 at h
  (run_tac invT `h)
  · rename_i b _ k _
    obtain ⟨t, rfl⟩ := er_bytes h1; obtain ⟨u, rfl⟩ := er_int h2
    obtain ⟨hz, h0, x, hx, h⟩ := h
    obtain ⟨hlt, he⟩ := Array.getElem?_eq_some_iff.mp hx
    refine ⟨"bytes", _, FB.slot_bytes_getitem.lookup, typeIs_bytes _ _ _, ?_⟩
    have e : b = b.toList.toArray := by simp
    have e2 : b.toList.getD k.toNat 0 = x := by rw [List.getD_eq_getElem?_getD]; simp [hx]
    rw [e]
    exact getItem_bytes (by unfold LIM at hz; simp; (run_tac Mine.Lin.om)) h0 (by simp; (run_tac Mine.Lin.om)) (hq _ _ (by rw [e2]; exact h))
  · rename_i a k _
    cases er_ref h1; obtain ⟨t, rfl⟩ := er_int h2
    generalize q : σ a = z at h
    rcases z with _ | z
    · exact False.elim h
    cases z with
    | list vs =>
      obtain ⟨h0, x, hx, h⟩ := h
      exact lst (.inl q) h0 hx h
    | rlist vs =>
      obtain ⟨h0, x, hx, h⟩ := h
      exact lst (.inr q) h0 hx h
    | tup vs =>
      obtain ⟨h0, x, hx, h⟩ := h
      obtain ⟨items, hl, hv, hz⟩ := S.tupAt q
      obtain ⟨y, hy, rfl⟩ := get_map (α := Unit) hv hx
      obtain ⟨hlt, _⟩ := List.getElem?_eq_some_iff.mp hx
      have hs := sz_of hv
      have hj : seqIndex? k items.size = some k.toNat := by
        have hn : ¬ k < 0 := by (run_tac Mine.Lin.om)
        have h1 : k < items.size := by (run_tac Mine.Lin.om)
        simp [seqIndex?, hn, h0, h1]
      exact ⟨"tuple", _, slot_tuple_getitem.lookup, IsTup.typeIs hl, getItem_tuple hl (by (run_tac Mine.Lin.om)) (by unfold LIM at hz; (run_tac Mine.Lin.om)) hj hy (hq _ _ h)⟩
    | barr b =>
      obtain ⟨h0, x, hx, h⟩ := h
      obtain ⟨ob, e, rfl, hz⟩ := S.rep _ _ q
      exact ⟨"bytearray", _, BA.slot_item.lookup, BA.typeIs e, BA.item e (by unfold LIM at hz; (run_tac Mine.Lin.om)) h0 hx (hq _ _ h)⟩
    | _ => exact False.elim h
  · rename_i a k _
    cases er_ref h1; obtain ⟨t, rfl⟩ := er_str h2
    generalize q : σ a = z at h
    rcases z with _ | z
    · exact False.elim h
    cases z with
    | dict es =>
      obtain ⟨x, hx, h⟩ := h
      obtain ⟨ents, n, e, hr, hl, hm⟩ := snd_dictAt (prog := prog) S q
      obtain ⟨u, hu, rfl⟩ := snd_findBy hr hx
      exact ⟨"dict", _, slot_dict_getitem.lookup, hm.typeIs, wpAny_getItem_of (strKind_is prog w k t) hm hu (hq _ _ h)⟩
    | _ => exact False.elim h
  run_tac endC

theorem cut_eq {α : Type} (l : List α) {lo hi : Option Int} (hlo : ∀ x, lo = some x → 0 ≤ x) (hhi : ∀ x, hi = some x → 0 ≤ x) :
    (l.drop (lo.elim 0 (clipAt l.length))).take (hi.elim l.length (clipAt l.length) - lo.elim 0 (clipAt l.length)) = cutL l lo hi := by
  run_tac beginC
  have c : ∀ x : Int, 0 ≤ x → clipAt l.length x = min x.toNat l.length := fun x h => by
    have := clipAt_nat l.length x.toNat
    rwa [Int.toNat_of_nonneg h] at this
  have key : ∀ m n : Nat, (l.drop (min m l.length)).take (min n l.length - min m l.length) = (l.take n).drop m := by
    intro m n
    rw [← List.drop_take]
    by_cases hm : m ≤ l.length
    · rw [Nat.min_eq_left hm]
      congr 1
      by_cases hn : n ≤ l.length
      · rw [Nat.min_eq_left hn]
      · rw [Nat.min_eq_right (by (run_tac Mine.Lin.om)), List.take_of_length_le (Nat.le_refl _), List.take_of_length_le (by (run_tac Mine.Lin.om))]
    · rw [Nat.min_eq_right (by (run_tac Mine.Lin.om)), List.drop_of_length_le (by simp; (run_tac Mine.Lin.om)), List.drop_of_length_le (by simp; (run_tac Mine.Lin.om))]
  unfold cutL
  have full : l.take l.length = l := List.take_of_length_le (Nat.le_refl _)
  cases lo with
  | none =>
    cases hi with
    | none => simp
    | some y =>
      have := key 0 y.toNat
      simp only [Nat.zero_min, Nat.sub_zero, List.drop_zero] at this ⊢
      simp only [Option.elim, c y (hhi y rfl), Nat.sub_zero, List.drop_zero]
      exact this
  | some x =>
    cases hi with
    | none =>
      have := key x.toNat l.length
      simp only [Nat.min_self, full] at this
      simp only [Option.elim, c x (hlo x rfl)]
      exact this
    | some y =>
      simp only [Option.elim, c x (hlo x rfl), c y (hhi y rfl)]
      exact key _ _
  run_tac endC
end
end Mine
end

section
open PySem PySem.W PySem.Calls PyProof.Rows
set_option maxRecDepth 100000
namespace Mine

theorem handed_er (v : Value) : handedIn (er v) = handedIn v := by cases v <;> rfl

section
variable {prog : Program} {w : World} {F : Frag} {G : Str → Option Value} {base : Heap} {g : Array GenState} {os : OsState} {ns : List (Addr × Loc)} {σ : Store} {s : Shared} {A : Around} {K : KV} {E : Value → Shared → Prop} {P : Params}

theorem bare_of {C : Addr} {name : Str} (h : bareOf F C name = true) : findIn F (.ref C) name = some none := by
  run_tac beginC
  unfold bareOf at h
  split at h
  · assumption
  · cases h
  run_tac endC
theorem instOk_of {C : Addr} (h : instOk F C = true) : plainGet F C "" = true ∧ hasDictIn F C = true ∧ plainOver F C = true ∧ findIn F (.ref C) "__setattr__" = some (some (.builtin "object.__setattr__")) := by
  run_tac beginC
  simp only [instOk, Bool.and_eq_true, beq_iff_eq] at h
  exact ⟨h.1.1.1, h.1.1.2, h.1.2, h.2⟩
  run_tac endC

theorem Sit.instAt (S : Sit P base g os ns σ s) {x C dx : Addr} {es : List (Str × Value)} (h : σ x = some (.inst C dx)) (hd : σ dx = some (.dict es)) :
    ∃ ents n, s.heap.get? x = some (instObj C dx) ∧ s.heap.get? dx = some { cls := .type "dict", data := .dict ents n } ∧ DRep P ents.toList es ∧ (es.length ≤ 200 ∧ (es.map (·.1)).Nodup) ∧ InstAt s.heap x (instObj C dx) C (some { cls := .type "dict", data := .dict ents n }) := by
  run_tac beginC
  obtain ⟨ob, e, rfl⟩ := S.rep _ _ h
  obtain ⟨od, e2, ents, n, rfl, hr, hl⟩ := S.rep _ _ hd
  exact ⟨ents, n, e, e2, hr, hl, e, rfl, rfl, e2⟩
  run_tac endC

theorem DRep.noRef : ∀ {ents : List DictEntry} {es : List (Str × Value)}, DRep P ents es → ents.any (·.refKey) = false
  | _, _, .nil => rfl
  | _, _, .cons hk _ _ r => by
    rw [List.any_cons, r.noRef, Bool.or_false]
    unfold DictEntry.refKey
    rw [hk]

theorem DRep.look {ents : Array DictEntry} {es : List (Str × Value)} {n : Nat} {name : Str} (r : DRep P ents.toList es) : ∃ q, lookIn name { cls := .type "dict", data := .dict ents n } = some q ∧ ∀ u, es.lookup name = some u → ∃ v, q = some v ∧ er v = u := by
  run_tac beginC
  unfold lookIn
  dsimp only
  cases h : ents.toList.find? (fun d => d.key.isStr name) with
  | some e => exact ⟨some e.val, rfl, fun u hu => by
      obtain ⟨e', h1, h2⟩ := snd_lookD r hu
      rw [h] at h1; cases h1
      exact ⟨_, rfl, h2⟩⟩
  | none => exact ⟨none, by rw [r.noRef]; rfl, fun u hu => by
      obtain ⟨e', h1, h2⟩ := snd_lookD r hu
      rw [h] at h1; cases h1⟩
  run_tac endC

theorem snd_getInst {o : Value} {name : Str} {Kv : Value → Prop} {Q : Value → Shared → Prop} {x C dx : Addr} {expr : Bool} (T : Stat w F G base) (S : Sit w.params base g os ns σ s) (hx : σ x = some (.inst C dx)) (h : getAttrH F (.ref x) name σ Kv) (hq : ∀ v n, Kv (er v) → Q v { s with toks := n }) :
    wpAny (model prog w) A (getAttr (.ref x) name expr) Q E s := by
  run_tac beginC
  unfold getAttrH at h
  simp only [hx] at h
  obtain ⟨es, u, hd, hi, hb, hl, hh, h⟩ := h
  obtain ⟨k1, k2, k3, k4⟩ := instOk_of hi
  obtain ⟨ents, n, e1, e2, hr, hz, I⟩ := S.instAt hx hd
  obtain ⟨q, hq1, hq2⟩ := hr.look (n := n) (name := name)
  obtain ⟨v, rfl, rfl⟩ := hq2 _ hl
  rw [handed_er] at hh
  exact get_value (T.kin.keeps S.stays) I (plainGet_of k1).1 (findObj_own k2 (bare_of hb) rfl hq1) hh (hq _ _ h)
  run_tac endC

theorem putL_rep {name : Str} {tk : Tok} {v : Value} : ∀ {ents : List DictEntry} {es : List (Str × Value)}, DRep P ents es → DRep P (putL name (PyData.keyHash P name) (.str name tk) v ents) (dput es name (er v)) := by
  run_tac beginC
  intro ents es D
  induction D with
  | nil => exact .cons rfl rfl rfl .nil
  | @cons e l y t u r' hk hh hv r ih =>
    unfold putL dput
    by_cases q : name = y
    · subst q
      have e1 : e.key.isStr name = true := by rw [hk]; simp [Value.isStr]
      rw [if_pos e1, if_pos rfl]
      exact .cons hk hh rfl r
    · have e1 : ¬ e.key.isStr name = true := by rw [hk]; simp [Value.isStr]; first | exact q | exact fun z => q z.symm
      rw [if_neg e1, if_neg q]
      exact .cons hk hh hv ih
  run_tac endC
theorem putL_len {name : Str} {hs : Int} {k v : Value} : ∀ (ents : List DictEntry), (putL name hs k v ents).length ≤ ents.length + 1
  | [] => by simp [putL]
  | e :: r => by
    unfold putL
    split
    · simp
    · have := putL_len (name := name) (hs := hs) (k := k) (v := v) r
      simp only [List.length_cons]; (run_tac Mine.Lin.om)
theorem dput_len {name : Str} {v : Value} : ∀ (es : List (Str × Value)), (dput es name v).length ≤ es.length + 1
  | [] => by simp [dput]
  | (y, u) :: r => by
    unfold dput
    split
    · simp
    · have := dput_len (name := name) (v := v) r
      simp only [List.length_cons]; (run_tac Mine.Lin.om)
theorem dput_keys {name : Str} {v : Value} : ∀ (es : List (Str × Value)) (x : Str), x ∈ (dput es name v).map (·.1) → x = name ∨ x ∈ es.map (·.1)
  | [], x, h => by simp [dput] at h; exact .inl h
  | (y, u) :: r, x, h => by
    unfold dput at h
    split at h
    · exact .inr h
    · rw [List.map_cons] at h
      rcases List.mem_cons.mp h with h | h
      · exact .inr (by rw [List.map_cons, h]; exact .head _)
      · rcases dput_keys r x h with h | h
        · exact .inl h
        · exact .inr (.tail _ h)
theorem dput_nodup {name : Str} {v : Value} : ∀ {es : List (Str × Value)}, (es.map (·.1)).Nodup → ((dput es name v).map (·.1)).Nodup
  | [], _ => by simp [dput]
  | (y, u) :: r, h => by
    rw [List.map_cons, List.nodup_cons] at h
    unfold dput
    split
    · rw [List.map_cons, List.nodup_cons]; exact h
    · rename_i q
      rw [List.map_cons, List.nodup_cons]
      refine ⟨fun m => ?_, dput_nodup h.2⟩
      rcases dput_keys r _ m with z | z
      · exact q z.symm
      · exact h.1 z
theorem DRep.len : ∀ {ents : List DictEntry} {es : List (Str × Value)}, DRep P ents es → ents.length = es.length
  | _, _, .nil => rfl
  | _, _, .cons _ _ _ r => by simp [r.len]

/-- a name set in a told dict -/
theorem snd_nsSet {M : Model} {dx : Addr} {es : List (Str × Value)} {name : Str} {u : Value} {Q : Unit → Shared → Prop} (S : Sit M.w.params base g os ns σ s) (hd : σ dx = some (.dict es)) (hz : es.length ≤ 100)
    (hq : ∀ h' n, (∃ ob, h'.get? dx = some ob ∧ ob.data.pastItsLine = none) → Sit M.w.params base g os ns (σ.set dx (.dict (dput es name (er u)))) { s with heap := h', toks := n } → Q () { s with heap := h', toks := n }) : wpAny M A (nsSet dx name u) Q E s := by
  run_tac beginC
  obtain ⟨ob, e, ents, n, rfl, hr, hl, hnd⟩ := S.rep _ _ hd
  unfold nsSet
  refine wpAny_bind (wpAny_bind (wpAny_askSetting (wpAny_pure (wpAny_bind (wpAny_mkText (wpAny_bind (wpAny_loadPart e ?_)))))))
  dsimp only
  have c : (!ents.any (·.key.isStr name) && ents.any (·.refKey)) = false := by
    rw [← Array.any_toList, ← Array.any_toList, hr.noRef, Bool.and_false]
  rw [aRefKeyMayBeTheName_at, c]
  have el : ({ cls := .type "dict", data := .dict ents n } : Obj) = dictOf ents.toList n := by simp [dictOf]
  refine wpAny_updatePart e ?_
  have e' : (s.heap.update dx (Obj.putName name (PyData.keyHash M.w.params name) (.str name s.toks) u)).get? dx = some (dictOf (putL name (PyData.keyHash M.w.params name) (.str name s.toks) u ents.toList) (putN name ents.toList n)) := by
    rw [el] at e
    rw [← putName_dict]
    exact Heap.get?_update_self _ e (by rw [putName_dict]; rfl)
  have z1 := putL_len (name := name) (hs := PyData.keyHash M.w.params name) (k := .str name s.toks) (v := u) ents.toList
  have z2 := dput_len (name := name) (v := er u) es
  have z3 := hr.len
  refine hq _ _ ⟨_, e', pastItsLine_dict (by rw [List.size_toArray, sizeLine_eq]; (run_tac Mine.Lin.om))⟩ ?_
  exact S.turn (s' := { s with heap := _, toks := _ }) hd rfl rfl (fun b o hb q => (Heap.get?_update_other _ _ (Ne.symm hb)).trans q) e' ⟨_, _, rfl, by rw [List.toList_toArray]; exact putL_rep hr, by (run_tac Mine.Lin.om), dput_nodup hnd⟩ rfl rfl rfl
  run_tac endC

theorem snd_setInst {name : Str} {u : Value} {Ks : Store → Prop} {Q : Unit → Shared → Prop} {x C dx : Addr} (T : Stat w F G base) (S : Sit w.params base g os ns σ s) (hx : σ x = some (.inst C dx)) (h : setAttrH F (.ref x) name (er u) σ Ks)
    (hq : ∀ σ' s', Sit w.params base g os ns σ' s' → Ks σ' → Q () s') : wpAny (model prog w) A (setAttr (.ref x) name u) Q E s := by
  run_tac beginC
  unfold setAttrH at h
  simp only [hx] at h
  obtain ⟨es, hd, hi, hb, hl, h⟩ := h
  obtain ⟨k1, k2, k3, k4⟩ := instOk_of hi
  obtain ⟨ents, n, e1, e2, hr, hz, I⟩ := S.instAt hx hd
  have X : F.In s.heap := T.kin.keeps S.stays
  refine set_plain X I k4 (osa_open (s := { s with toks := s.toks + 1 }) X I k3 (r := none) (by unfold takerIn; rw [bare_of hb]; rfl) fun b => ?_)
  obtain ⟨cd, hc, hd'⟩ := any_some k2
  refine wpAny_bind (wpAny_pure (wpAny_bind (wpAny_bind (wpAny_loadPart e1 (wpAny_bind ((looks_clsIn (M := model prog w) X hc) _ _ _ _ (fun _ _ e => e) ?_))))))
  rw [hd']
  refine wpAny_pure (a := some dx) (wpAny_bind (wpAny_pure (wpAny_bind ?_)))
  refine snd_nsSet (M := model prog w) (s := { s with toks := s.toks + 1 }) S.toks hd hl fun h' n ⟨ob, l1, l2⟩ S' => ?_
  exact wpAny_bind (wpAny_lookBehind l1 l2 (wpAny_pure (hq _ _ S' h)))
  run_tac endC
end
end Mine
end

section
open PySem PySem.W PySem.Calls PyProof.Rows PySem.SeqAt
set_option maxRecDepth 100000
namespace Mine

section
variable {prog : Program} {w : World} {F : Frag} {G : Str → Option Value} {base : Heap} {g : Array GenState} {os : OsState} {ns : List (Addr × Loc)} {loc : Loc} {σ : Store} {s : Shared} {A : Around} {K : KV} {E : Value → Shared → Prop} {P : Params} {env : Env}

theorem snd_store {x : Str} {v : Value} {Kl : Loc → Store → Prop} {M : Model} (hk : env.scope.kind = .function) (S : Sit M.w.params base g os ((env.locals, loc) :: ns) σ s) (h : storeH env x (er v) loc σ Kl) :
    wpAny M A (storeName env x v) (PostL M.w.params base g os ns env.locals Kl) E s := by
  run_tac beginC
  unfold storeH at h
  split at h
  · rename_i hx
    obtain ⟨⟨m, hn, hm⟩, hb, hσ⟩ := S.nsok _ (.head _)
    refine wpAny_storeName_local hx hn (fun h' hn' hs => ⟨_, σ, S.nsSet (s' := { s with heap := h', toks := s.toks + 1 }) hs.extBut ⟨_, hn', fun y => ?_⟩ rfl rfl, h⟩) (by rw [hk]; rfl)
    unfold Loc.put
    split
    · rfl
    · exact hm y
  · rename_i hx
    split at h
    · rename_i c hc
      obtain ⟨u, h1, h⟩ := h
      obtain ⟨ob, e1, v', e2, e3⟩ := S.rep _ _ h1
      refine wpAny_storeName_cell hk hx hc ⟨ob, e1, e2⟩ fun h' ⟨ob', i1, i2⟩ hs => ⟨loc, _, ?_, h⟩
      exact S.turn (s' := { s with heap := h' }) h1 rfl rfl hs.extBut i1 ⟨_, i2, rfl⟩ rfl rfl rfl
    · cases h
  · cases h
  run_tac endC

theorem dput_len_in {name : Str} {v : Value} : ∀ {es : List (Str × Value)}, (es.lookup name).isSome = true → (dput es name v).length ≤ es.length
  | [], h => by cases h
  | (y, u) :: r, h => by
    unfold dput
    split
    · simp
    · rename_i q
      rw [List.lookup_cons] at h
      have : (name == y) = false := by simpa using q
      rw [this] at h
      have := dput_len_in (v := v) h
      simp only [List.length_cons]; (run_tac Mine.Lin.om)
theorem pairs_of : ∀ {ents : List DictEntry} {es : List (Str × Value)}, DRep w.params ents es → ∃ kvs, Pairs (strKind prog w) ents kvs ∧ kvs.map (fun p => (p.1, er p.2)) = es := by
  run_tac beginC
  intro ents es D
  induction D with
  | nil => exact ⟨[], .nil, rfl⟩
  | @cons e l x t u r' hk hh hv r ih =>
    obtain ⟨kvs, h1, h2⟩ := ih
    exact ⟨(x, e.val) :: kvs, .cons (by rw [hk]; exact strKind_is prog w x _) rfl h1, by rw [List.map_cons, h2, hv]⟩
  run_tac endC
theorem rep_of_pairs : ∀ {ents : List DictEntry} {kvs : List (Str × Value)}, Pairs (strKind prog w) ents kvs → (∀ e ∈ ents, ∃ k, (strKind prog w).is k e.key = true ∧ e.hash = hashStr w k) → DRep w.params ents (kvs.map fun p => (p.1, er p.2)) := by
  run_tac beginC
  intro ents kvs D
  induction D with
  | nil => exact fun _ => .nil
  | @cons e kv es' kvs' hi hv r ih =>
    intro hK
    obtain ⟨t, hk⟩ := Value.isStrOf_shape hi
    obtain ⟨k, hk1, hk2⟩ := hK e (.head _)
    obtain ⟨t', hk'⟩ := Value.isStrOf_shape hk1
    rw [hk] at hk'
    injection hk' with q
    subst q
    exact .cons hk hk2 (by rw [hv]) (ih fun e' h => hK e' (.tail _ h))
  run_tac endC
theorem dictOf_of {ob : Obj} {a : Addr} {es : List (Str × Value)} (e : s.heap.get? a = some ob) (r : ORep w.params (.dict es) ob) : ∃ kvs, s.heap.DictOf (strKind prog w) a kvs ∧ kvs.map (fun p => (p.1, er p.2)) = es := by
  run_tac beginC
  obtain ⟨ents, n, rfl, hr, hl, hn⟩ := r
  obtain ⟨kvs, h1, h2⟩ := pairs_of (prog := prog) hr
  refine ⟨kvs, ⟨_, ents, n, e, ⟨rfl, rfl, rfl⟩, rfl, fun d hd => ?_, h1, ?_⟩, h2⟩
  · obtain ⟨x, t, e1, e2⟩ := hr.keys d (Array.mem_toList_iff.mpr hd)
    exact ⟨x, by rw [e1]; exact strKind_is prog w x t, e2⟩
  · rw [← h2] at hn
    rw [List.map_map] at hn
    exact hn
  run_tac endC
theorem rep_of_dictOf {h : Heap} {a : Addr} {kvs : List (Str × Value)} (d : h.DictOf (strKind prog w) a kvs) (hz : kvs.length ≤ 200) : ∃ ob, h.get? a = some ob ∧ ORep w.params (.dict (kvs.map fun p => (p.1, er p.2))) ob := by
  run_tac beginC
  obtain ⟨⟨cls, dd, data, sl⟩, es, ep, ho, ⟨c1, c2, c3⟩, hd, hK, hP, hN⟩ := d
  simp only at c1 c2 c3 hd
  subst c1 c2 c3 hd
  exact ⟨_, ho, es, ep, rfl, rep_of_pairs hP fun e he => hK e (Array.mem_toList_iff.mp he), by simpa using hz, by rw [List.map_map]; exact hN⟩
  run_tac endC
theorem stored_dput {k : Str} {v : Value} : ∀ {kvs : List (Str × Value)}, (kvs.map (·.1)).Nodup → (stored kvs k v).map (fun p => (p.1, er p.2)) = dput (kvs.map fun p => (p.1, er p.2)) k (er v)
  | [], _ => by simp [stored, dput]
  | (y, u) :: r, h => by
    rw [List.map_cons, List.nodup_cons] at h
    rw [List.map_cons]
    unfold dput
    by_cases q : k = y
    · subst q
      rw [if_pos rfl]
      have hne : ∀ p ∈ r, ¬ p.1 = k := fun p hp z => h.1 (by rw [← z]; exact List.mem_map_of_mem (f := (·.1)) hp)
      have e1 : r.map (fun kv => if kv.1 = k then (kv.1, v) else kv) = r := by
        conv => rhs; rw [← List.map_id r]
        exact List.map_congr_left fun p hp => by rw [if_neg (hne p hp)]; rfl
      simp [stored, e1]
    · rw [if_neg q]
      have ih := stored_dput (k := k) (v := v) h.2
      rw [← ih]
      have q' : ¬ y = k := fun z => q z.symm
      unfold stored
      rw [List.any_cons]
      simp only [q', decide_false, Bool.false_or]
      split <;> simp [q']

/-- an item of a list set, as the object turns -/
theorem put_list {l : Addr} {items : Array Value} {n : Nat} {k : Int} {t : Tok} {v : Value} {Q : Unit → Shared → Prop} (ho : s.heap.get? l = some { cls := .type "list", data := .seq items n }) (h0 : 0 ≤ k) (hf : k < 2 ^ 63) (hj : k < items.size)
    (hQ : Nat → Q () { s with heap := s.heap.update l (Obj.mapSeq (·.setIfInBounds k.toNat v)) }) : wpAny (model prog w) A (setItem (.ref l) (.int k t) v) Q E s := by
  run_tac beginC
  have hT : s.TypeIs (.ref l) "list" := ⟨_, ho, rfl⟩
  unfold setItem
  try with_reducible refine wpAny_holding ?_
  first | refine wpAny_bind (wpAny_pure ?_) | skip
  refine wpAny_bind (wpAny_sequenceKey hT (by decide) ?_)
  refine wpAny_bind (wpAny_callSpecial?_slot (name := Str.ofString "__setitem__") hT slot_list_setitem (wpAny_call_entry slot_list_setitem hT entry_list_setitem ?_ (args_list_setitem _ _ _)))
  show wpAny _ _ (Builtin.List.listSubscript? (.int k t) >>= _) _ _ s
  refine wpAny_bind (wpAny_listSubscript_int (fitsIndex_of h0 hf) ?_)
  clear hf
  obtain ⟨j, rfl⟩ := Int.eq_ofNat_of_zero_le h0
  have hj : j < items.size := by (run_tac Mine.Lin.om)
  have e : items[j]? = some items[j] := Array.getElem?_eq_getElem hj
  show wpAny _ _ ((seqItemAt l j >>= fun r => pure (r.map (j, ·))) >>= _) _ _ s
  refine wpAny_bind (wpAny_bind (wpAny_seqItemAt ho rfl (wpAny_pure ?_)))
  rw [e]
  show wpAny _ _ (setSeqItemAt l j v >>= _) _ _ s
  refine wpAny_bind (wpAny_setSeqItemAt ho rfl ?_)
  first
    | exact wpAny_bind (wpAny_pure (wpAny_pure ⟨.none, rfl, wpAny_pure (hQ 0)⟩))
    | exact wpAny_pure ⟨.none, rfl, wpAny_pure (hQ 0)⟩
  run_tac endC

theorem snd_setItem {o i v : Value} {Ks : Store → Prop} {Q : Unit → Shared → Prop} (S : Sit w.params base g os ns σ s) (h : setItemH (er o) (er i) (er v) σ Ks) (hq : ∀ σ' s', Sit w.params base g os ns σ' s' → Ks σ' → Q () s') :
    wpAny (model prog w) A (setItem o i v) Q E s := by
  run_tac beginC
  unfold setItemH at h
  split at h
  · rename_i a k _ h1 h2
    cases er_ref h1; obtain ⟨t, rfl⟩ := er_int h2
    obtain ⟨vs, q, h0, hk, h⟩ := h
    obtain ⟨ob, e, items, n, rfl, hv, hz⟩ := S.rep _ _ q
    have hs := sz_of hv
    refine put_list e h0 (by unfold LIM at hz; (run_tac Mine.Lin.om)) (by (run_tac Mine.Lin.om)) fun n' => ?_
    obtain ⟨j, rfl⟩ := Int.eq_ofNat_of_zero_le h0
    simp only [Int.toNat_natCast]
    have e' : (s.heap.update a (Obj.mapSeq (·.setIfInBounds j v))).get? a = some { cls := .type "list", data := .seq (items.setIfInBounds j v) n } := by
      have := Heap.get?_update_self (Obj.mapSeq (·.setIfInBounds j v)) e (by simp [Obj.mapSeq, Obj.isFreed])
      rw [this]
      simp [Obj.mapSeq]
    refine hq _ _ (S.turn (s' := { s with heap := s.heap.update a (Obj.mapSeq (·.setIfInBounds j v)) }) q rfl rfl (fun b o hb q => (Heap.get?_update_other _ _ (Ne.symm hb)).trans q) e' (o := .list (vs.set j (er v))) ⟨_, _, rfl, ?_, by simpa using hz⟩ rfl rfl rfl) (by simpa using h)
    subst hv
    simp [List.map_set]
  · rename_i a k _ h1 h2
    cases er_ref h1; obtain ⟨t, rfl⟩ := er_str h2
    obtain ⟨es, q, hl, h⟩ := h
    obtain ⟨ob, e, r⟩ := S.rep _ _ q
    have r' := r
    obtain ⟨_, _, _, _, hlen, hnd⟩ := r'
    obtain ⟨kvs, hd, hkv⟩ := dictOf_of (prog := prog) e r
    have hln : kvs.length = es.length := by rw [← hkv]; simp
    have hnk : (kvs.map (·.1)).Nodup := by rw [← hkv, List.map_map] at hnd; exact hnd
    refine wpAny_setItem_pairs (hsz := by rw [sizeLine_eq]; (run_tac Mine.Lin.om)) (strKind_is prog w k t) hd fun h' hd' hs => ?_
    have sz : (stored kvs k v).length ≤ 200 := by
      have e1 := stored_dput (k := k) (v := v) hnk
      rw [hkv] at e1
      have e2 := congrArg List.length e1
      rw [List.length_map] at e2
      rw [e2]
      exact Nat.le_trans (dput_len _) (by (run_tac Mine.Lin.om))
    obtain ⟨ob', i1, i2⟩ := rep_of_dictOf hd' sz
    rw [stored_dput hnk, hkv] at i2
    exact hq _ _ (S.turn (s' := { s with heap := h', toks := s.toks + 1 }) q rfl rfl hs.extBut i1 i2 rfl rfl rfl) h
  · cases h
  run_tac endC
end
end Mine
end

section
open PySem PySem.W PySem.Calls PyProof.Rows PySem.SeqAt
set_option maxRecDepth 100000
namespace Mine

section
variable {prog : Program} {w : World} {F : Frag} {G : Str → Option Value} {base : Heap} {g : Array GenState} {os : OsState} {ns : List (Addr × Loc)} {loc : Loc} {σ : Store} {s : Shared} {A : Around} {K : KV} {E : Value → Shared → Prop} {P : Params} {env : Env}

theorem part_of {v : Value} {x : Option Int} (h : partOk (er v) = some x) : IsPart v x ∧ ∀ y, x = some y → 0 ≤ y := by
  run_tac beginC
  cases v <;> simp [er, partOk] at h
  · subst h; exact ⟨.none, fun y q => by cases q⟩
  · obtain ⟨h0, rfl⟩ := h; exact ⟨.int _ _, fun y q => by cases q; exact h0⟩
  run_tac endC

theorem cut_len {α : Type} (l : List α) (lo hi : Option Int) : (cutL l lo hi).length ≤ l.length := by
  run_tac beginC
  unfold cutL
  cases hi <;> simp [List.length_drop, List.length_take] <;> (run_tac Mine.Lin.om)
  run_tac endC
theorem cut_map {α β : Type} (f : α → β) (l : List α) (lo hi : Option Int) : (cutL l lo hi).map f = cutL (l.map f) lo hi := by
  run_tac beginC
  unfold cutL
  cases hi <;> simp [List.map_drop, List.map_take]
  run_tac endC

theorem picked_cut (b : Array UInt8) {lo hi : Option Int} (hlo : ∀ x, lo = some x → 0 ≤ x) (hhi : ∀ x, hi = some x → 0 ≤ x) : KBy.picked b lo hi = (cutL b.toList lo hi).toArray := by
  run_tac beginC
  rw [KBc.picked_eq]
  have := cut_eq b.toList hlo hhi
  rw [Array.length_toList] at this
  rw [this]
  run_tac endC
theorem slicePick_cut (items : Array Value) {lo hi : Option Int} (hlo : ∀ x, lo = some x → 0 ≤ x) (hhi : ∀ x, hi = some x → 0 ≤ x) : slicePick items lo hi none = (cutL items.toList lo hi).toArray := by
  run_tac beginC
  rw [← cut_eq items.toList hlo hhi, Array.length_toList]
  unfold slicePick
  rw [sliceBounds_plain]
  simp only [sliceRange_one, pick_run]
  run_tac endC

theorem snd_slice {o l u : Value} (S : Sit w.params base g os ns σ s) (h : getSliceH (er o) (er l) (er u) σ K) :
    ∃ T id, typeLookup (.type T) "__getitem__" = pure (some (.builtin id)) ∧ ({ s with heap := s.heap.push { cls := .type "slice", data := .fields #[l, u, .none] } } : Shared).TypeIs o T ∧
      wpAny (model prog w) A (getItem o (.ref s.heap.objs.size)) (PostV w.params base g os ns K) E { s with heap := s.heap.push { cls := .type "slice", data := .fields #[l, u, .none] } } := by
  run_tac beginC
  obtain ⟨lo, hi, p1, p2, h⟩ := h
  obtain ⟨i1, b1⟩ := part_of p1
  obtain ⟨i2, b2⟩ := part_of p2
  have S' : Sit w.params base g os ns σ { s with heap := s.heap.push { cls := .type "slice", data := .fields #[l, u, .none] } } := S.keeps (fun b x e => Heap.get?_push_of_some _ e) rfl rfl
  have hs : (s.heap.push { cls := .type "slice", data := .fields #[l, u, .none] }).IsSliceOf s.heap.objs.size l u .none := Heap.IsSliceOf.new ..
  have lst : ∀ {a : Addr} {vs : List Value}, (σ a = some (.list vs) ∨ σ a = some (.rlist vs)) → alloc (.list (cutL vs lo hi)) σ K → ∃ T id, typeLookup (.type T) "__getitem__" = pure (some (.builtin id)) ∧ ({ s with heap := s.heap.push { cls := .type "slice", data := .fields #[l, u, .none] } } : Shared).TypeIs (.ref a) T ∧
      wpAny (model prog w) A (getItem (.ref a) (.ref s.heap.objs.size)) (PostV w.params base g os ns K) E { s with heap := s.heap.push { cls := .type "slice", data := .fields #[l, u, .none] } } := by
    intro a vs q h
    obtain ⟨items, hl, hv, hz⟩ := S'.listAt q
    refine ⟨"list", _, slot_list_getitem.lookup, hl.typeIs, wpAny_getItem_list_slice hl hs i1 i2 .none (by simp) ?_ (by rw [sz_of hv]; exact Nat.le_trans hz LIM_le)⟩
    rw [slicePick_cut items b1 b2]
    exact snd_alloc_seq S' rfl (o := .list (cutL vs lo hi)) ⟨_, _, rfl, by rw [List.toList_toArray, cut_map, hv], Nat.le_trans (cut_len _ _ _) hz⟩ rfl h
  split at h
  · rename_i a h1
    cases er_ref h1
    split at h
    · rename_i vs q; exact lst (.inl q) h
    · rename_i vs q; exact lst (.inr q) h
    · rename_i b q
      obtain ⟨ob, e, rfl, hz⟩ := S'.rep _ _ q
      refine ⟨"bytearray", _, BA.slot_item.lookup, BA.typeIs e, BA.slice e hs i1 i2 (Nat.le_trans hz LIM_le) ?_⟩
      rw [picked_cut b b1 b2]
      exact snd_alloc_seq S' rfl (o := .barr (cutL b.toList lo hi).toArray) ⟨rfl, by have := cut_len b.toList lo hi; simp at this ⊢; (run_tac Mine.Lin.om)⟩ rfl h
    · cases h
  · rename_i b _ h1
    obtain ⟨t, rfl⟩ := er_bytes h1
    obtain ⟨hz, h⟩ := h
    refine ⟨"bytes", _, FB.slot_bytes_getitem.lookup, typeIs_bytes _ _ _, getItem_meets (typeIs_bytes _ _ _) (by decide) FB.slot_bytes_getitem FB.entry_bytes_getitem (FB.args_bytes_getitem_2 _ _) (KBc.meets_slice2 b t _ i1 i2)
      ⟨hs, Nat.le_trans (KBc.size_picked_le b lo hi) (Nat.le_trans hz LIM_le), fun t' k => ?_⟩⟩
    rw [picked_cut b b1 b2]
    exact ⟨_, S'.toks, h⟩
  · cases h
  run_tac endC

theorem eqAt_bytes (b : Array UInt8) (t u : Tok) : EqAt A s (.bytes b t) (.bytes b u) true := fun prog w E Q h => by
  unfold eqBool
  refine wpAny_holding ?_
  refine wpAny_ite_split (fun _ => wpAny_bind (wpAny_rule (wpAny_pure h))) (fun _ => ?_)
  refine wpAny_bind (richCompare_gives (op := .Eq) (T := "bytes") rfl rfl FB.slot_bytes_eq FB.entry_bytes_eq (FB.args_bytes_eq_2 _ _) (gives_bytes_eq b b t u) (fun x => nomatch x) (wpAny_truthy_bool ?_))
  rw [beq_self_eq_true]
  exact h

/-- equal but for tokens: equal -/
theorem eqAt_flat : ∀ {x y : Value}, er x = er y → isFlat (er x) = true → EqAt A s x y true
  | .int i t, y, h, _ => by
    obtain ⟨u, rfl⟩ := er_int h.symm
    have := EqAt.int_int (A := A) (s := s) i t i u
    rwa [beq_self_eq_true] at this
  | .str i t, y, h, _ => by
    obtain ⟨u, rfl⟩ := er_str h.symm
    have := EqAt.str_str (A := A) (s := s) i t i u
    rwa [beq_self_eq_true] at this
  | .bytes i t, y, h, _ => by
    obtain ⟨u, rfl⟩ := er_bytes h.symm
    exact eqAt_bytes i t u
  | .none, y, h, _ => by rw [er_none h.symm]; exact EqAt.same _
  | .bool b, y, h, _ => by rw [er_bool h.symm]; exact EqAt.same _
  | .float .., _, _, hf | .ref _, _, _, hf | .type _, _, _, hf | .builtin _, _, _, hf | .ellipsis, _, _, hf | .notImplemented, _, _, hf => by cases hf

theorem tup_e {items items2 : Array Value} {xs ys : List Value} (v1 : items.toList.map er = xs) (v2 : items2.toList.map er = ys) {r : Bool}
    (h : (xs = ys ∧ xs.all isFlat = true ∧ r = true) ∨ (xs.length ≠ ys.length ∧ (xs = [] ∨ ys = []) ∧ r = false)) :
    ∃ e : Nat → Bool, (∀ j (h1 : j < items.size) (h2 : j < items2.size), EqAt A.in1 s items[j] items2[j] (e j)) ∧ ((List.range (min items.size items2.size)).all e && items.size == items2.size) = r := by
  run_tac beginC
  have s1 := sz_of v1; have s2 := sz_of v2
  rcases h with ⟨rfl, hf, rfl⟩ | ⟨hl, h0, rfl⟩
  · refine ⟨fun _ => true, fun j h1 h2 => eqAt_flat ?_ ?_, ?_⟩
    · have e1 : (items.toList.map er)[j]? = (items2.toList.map er)[j]? := by rw [v1, v2]
      simpa [h1, h2] using e1
    · have : er items[j] ∈ xs := by rw [← v1]; exact List.mem_map_of_mem (by simp)
      exact List.all_eq_true.mp hf _ this
    · simp [s1, s2]
  · refine ⟨fun _ => false, fun j h1 h2 => ?_, ?_⟩
    · rcases h0 with rfl | rfl
      · rw [List.length_nil] at s1; (run_tac Mine.Lin.om)
      · rw [List.length_nil] at s2; (run_tac Mine.Lin.om)
    · have : (items.size == items2.size) = false := by rw [s1, s2]; simpa using hl
      rw [this, Bool.and_false]
  run_tac endC

theorem snd_eqRef {p q : Addr} {Kb : Bool → Prop} {Q : Value → Shared → Prop} (hu : A.units < cLine) (S : Sit w.params base g os ns σ s) (h : eqRef false p q σ Kb) (hq : ∀ t, Kb t → Q (.bool t) s) :
    wpAny (model prog w) A (compareOp .Eq (.ref p) (.ref q)) Q E s := by
  run_tac beginC
  unfold eqRef at h
  cases q1 : σ p with
  | none => rw [q1] at h; exact False.elim h
  | some o1 =>
    cases q2 : σ q with
    | none => rw [q1, q2] at h; cases o1 <;> exact False.elim h
    | some o2 =>
      rw [q1, q2] at h
      cases o1 with
      | tup xs =>
        cases o2 with
        | tup ys =>
          obtain ⟨i1, l1, v1, z1⟩ := S.tupAt q1
          obtain ⟨i2, l2, v2, z2⟩ := S.tupAt q2
          rcases h with ⟨a1, a2, h⟩ | ⟨a1, a2, h⟩
          · obtain ⟨e, he, hr⟩ := tup_e (A := A) (s := s) (r := true) v1 v2 (.inl ⟨a1, a2, rfl⟩)
            exact eq_tupleAt l1 l2 hu he (by rw [hr]; exact hq _ h)
          · obtain ⟨e, he, hr⟩ := tup_e (A := A) (s := s) (r := false) v1 v2 (.inr ⟨a1, a2, rfl⟩)
            exact eq_tupleAt l1 l2 hu he (by rw [hr]; exact hq _ h)
        | _ => exact False.elim h
      | list xs =>
        cases o2 with
        | list ys =>
          obtain ⟨i1, l1, v1, z1⟩ := S.listAt (.inl q1)
          obtain ⟨i2, l2, v2, z2⟩ := S.listAt (.inl q2)
          have s1 := sz_of v1; have s2 := sz_of v2
          obtain ⟨h0, h⟩ := h
          by_cases hl : xs.length = ys.length
          · have e1 : xs = [] := by rcases h0 with rfl | rfl; rfl; exact List.length_eq_zero_iff.mp hl
            have e2 : ys = [] := by subst e1; exact List.length_eq_zero_iff.mp hl.symm
            subst e1 e2
            refine eq_listAt (e := fun _ => false) l1 l2 (by rw [s1, s2]) hu (fun j h1 _ => by rw [s1] at h1; cases h1) ?_
            rw [s1]
            exact hq _ h
          · refine eq_list_lengthsAt l1 l2 (by rw [s1, s2]; simpa using hl) hu (hq _ ?_)
            have : (xs.isEmpty && ys.isEmpty) = false := by
              cases xs <;> cases ys <;> first | rfl | exact absurd rfl hl
            rw [← this]; exact h
        | _ => exact False.elim h
      | _ => exact False.elim h
  run_tac endC

theorem snd_neRef {p q : Addr} {Kb : Bool → Prop} {Q : Value → Shared → Prop} (hu : A.units < cLine) (S : Sit w.params base g os ns σ s) (h : eqRef true p q σ Kb) (hq : ∀ t, Kb t → Q (.bool t) s) :
    wpAny (model prog w) A (compareOp .NotEq (.ref p) (.ref q)) Q E s := by
  run_tac beginC
  unfold eqRef at h
  cases q1 : σ p with
  | none => rw [q1] at h; exact False.elim h
  | some o1 =>
    cases q2 : σ q with
    | none => rw [q1, q2] at h; cases o1 <;> exact False.elim h
    | some o2 =>
      rw [q1, q2] at h
      cases o1 with
      | tup xs =>
        cases o2 with
        | tup ys =>
          obtain ⟨i1, l1, v1, z1⟩ := S.tupAt q1
          obtain ⟨i2, l2, v2, z2⟩ := S.tupAt q2
          rcases h with ⟨a1, a2, h⟩ | ⟨a1, a2, h⟩
          · obtain ⟨e, he, hr⟩ := tup_e (A := A) (s := s) (r := true) v1 v2 (.inl ⟨a1, a2, rfl⟩)
            exact RcNeAt.tuples l1 l2 hu he prog w E Q (by rw [hr]; exact hq _ h)
          · obtain ⟨e, he, hr⟩ := tup_e (A := A) (s := s) (r := false) v1 v2 (.inr ⟨a1, a2, rfl⟩)
            exact RcNeAt.tuples l1 l2 hu he prog w E Q (by rw [hr]; exact hq _ h)
        | _ => exact False.elim h
      | list xs =>
        cases o2 with
        | list ys =>
          obtain ⟨i1, l1, v1, z1⟩ := S.listAt (.inl q1)
          obtain ⟨i2, l2, v2, z2⟩ := S.listAt (.inl q2)
          have s1 := sz_of v1; have s2 := sz_of v2
          obtain ⟨h0, h⟩ := h
          by_cases hl : xs.length = ys.length
          · have e1 : xs = [] := by rcases h0 with rfl | rfl; rfl; exact List.length_eq_zero_iff.mp hl
            have e2 : ys = [] := by subst e1; exact List.length_eq_zero_iff.mp hl.symm
            subst e1 e2
            refine RcNeAt.lists (e := fun _ => false) l1 l2 (by rw [s1, s2]) hu (fun j h1 _ => by rw [s1] at h1; cases h1) prog w E Q ?_
            rw [s1]
            exact hq _ h
          · refine RcNeAt.lists_lengths l1 l2 (by rw [s1, s2]; simpa using hl) hu prog w E Q (hq _ ?_)
            have : (!(xs.isEmpty && ys.isEmpty)) = true := by
              cases xs <;> cases ys <;> first | rfl | exact absurd rfl hl
            rw [← this]; exact h
        | _ => exact False.elim h
      | _ => exact False.elim h
  run_tac endC

theorem snd_cmp {op : CmpOp} {a b : Value} {Kb : Bool → Prop} {Q : Value → Shared → Prop} (hu : A.units < cLine) (S : Sit w.params base g os ns σ s) (h : cmpH op (er a) (er b) σ Kb) (hq : ∀ t, Kb t → Q (.bool t) s) :
    wpAny (model prog w) A (compareOp op a b) Q E s := by
  run_tac beginC
  cases op with
  | Eq =>
    replace h : eqV false (vk (er a)) (vk (er b)) σ Kb := h
    generalize hx : vk (er a) = x at h
    generalize hy : vk (er b) = y at h
    cases x with
    | int i =>
      cases y with
      | int j =>
        obtain ⟨t, rfl⟩ := vk_int hx; obtain ⟨u, rfl⟩ := vk_int hy
        exact eq_int (by rw [show ((_ : Int) == _) = decide (_ = _) from rfl]; exact hq _ h)
      | _ => exact False.elim h
    | str i =>
      cases y with
      | str j =>
        obtain ⟨t, rfl⟩ := vk_str hx; obtain ⟨u, rfl⟩ := vk_str hy
        refine PyProof.Rows.eq_str (hq _ ?_)
        have e : (i == j) = decide (i = j) := by by_cases q : i = j <;> simp [q]
        rw [e]; exact h
      | _ => exact False.elim h
    | bytes i =>
      cases y with
      | bytes j =>
        obtain ⟨t, rfl⟩ := vk_bytes hx; obtain ⟨u, rfl⟩ := vk_bytes hy
        refine eq_bytes (hq _ ?_)
        have e : (i.toList == j.toList) = decide (i = j) := by by_cases q : i = j <;> simp [q]
        rw [e]; exact h
      | _ => exact False.elim h
    | ref p =>
      cases y with
      | ref q =>
        cases vk_ref hx; cases vk_ref hy
        exact snd_eqRef hu S h hq
      | _ => exact False.elim h
    | _ => exact False.elim h
  | NotEq =>
    replace h : eqV true (vk (er a)) (vk (er b)) σ Kb := h
    generalize hx : vk (er a) = x at h
    generalize hy : vk (er b) = y at h
    cases x with
    | int i =>
      cases y with
      | int j =>
        obtain ⟨t, rfl⟩ := vk_int hx; obtain ⟨u, rfl⟩ := vk_int hy
        refine ne_int (hq _ ?_)
        have e : (i != j) = decide (i ≠ j) := by by_cases q : i = j <;> simp [q]
        rw [e]; exact h
      | _ => exact False.elim h
    | str i =>
      cases y with
      | str j =>
        obtain ⟨t, rfl⟩ := vk_str hx; obtain ⟨u, rfl⟩ := vk_str hy
        refine PyProof.Rows.ne_str (hq _ ?_)
        have e : (i != j) = decide (i ≠ j) := by by_cases q : i = j <;> simp [q]
        rw [e]; exact h
      | _ => exact False.elim h
    | bytes i =>
      cases y with
      | bytes j =>
        obtain ⟨t, rfl⟩ := vk_bytes hx; obtain ⟨u, rfl⟩ := vk_bytes hy
        refine ne_bytes (hq _ ?_)
        have e : (i.toList != j.toList) = decide (i ≠ j) := by by_cases q : i = j <;> simp [q]
        rw [e]; exact h
      | _ => exact False.elim h
    | ref p =>
      cases y with
      | ref q =>
        cases vk_ref hx; cases vk_ref hy
        exact snd_neRef hu S h hq
      | _ => exact False.elim h
    | _ => exact False.elim h
  | Lt =>
    obtain ⟨i, j, hx, hy, h⟩ := intsV_inv h
    obtain ⟨t, rfl⟩ := vk_int hx; obtain ⟨u, rfl⟩ := vk_int hy
    exact lt_int (hq _ h)
  | LtE =>
    obtain ⟨i, j, hx, hy, h⟩ := intsV_inv h
    obtain ⟨t, rfl⟩ := vk_int hx; obtain ⟨u, rfl⟩ := vk_int hy
    exact le_int (hq _ h)
  | Gt =>
    obtain ⟨i, j, hx, hy, h⟩ := intsV_inv h
    obtain ⟨t, rfl⟩ := vk_int hx; obtain ⟨u, rfl⟩ := vk_int hy
    exact gt_int (hq _ h)
  | GtE =>
    obtain ⟨i, j, hx, hy, h⟩ := intsV_inv h
    obtain ⟨t, rfl⟩ := vk_int hx; obtain ⟨u, rfl⟩ := vk_int hy
    exact ge_int (hq _ h)
  | Is =>
    replace h : isV false (vk (er a)) (vk (er b)) Kb := h
    generalize hx : vk (er a) = x at h
    generalize hy : vk (er b) = y at h
    cases y with
    | none =>
      rw [vk_none hy]
      cases x with
      | none => rw [vk_none hx]; exact is_none (hq _ h)
      | int i => obtain ⟨t, rfl⟩ := vk_int hx; exact is_none (hq _ h)
      | ref p => cases vk_ref hx; exact is_none (hq _ h)
      | _ => exact False.elim h
    | _ => exact False.elim h
  | IsNot =>
    replace h : isV true (vk (er a)) (vk (er b)) Kb := h
    generalize hx : vk (er a) = x at h
    generalize hy : vk (er b) = y at h
    cases y with
    | none =>
      rw [vk_none hy]
      cases x with
      | none => rw [vk_none hx]; exact isNot_none (hq _ h)
      | int i => obtain ⟨t, rfl⟩ := vk_int hx; exact isNot_none (hq _ h)
      | ref p => cases vk_ref hx; exact isNot_none (hq _ h)
      | _ => exact False.elim h
    | _ => exact False.elim h
  | _ => exact False.elim h
  run_tac endC
end
end Mine
end

section
open PySem PySem.W PySem.Calls PyProof.Rows Builtin Builtin.ObjectAttr
set_option maxRecDepth 100000
namespace Mine

theorem exc_passes (self : Value) : refuseLoop self "__setattr__" [.type "ValueError", .type "Exception", .type "BaseException", .type "object"] = pure () := by
  unfold refuseLoop; kernel_rfl
theorem exc_refuse (self : Value) : ∀ {l : List Value}, excTail l = true → refuseLoop self "__setattr__" l = pure ()
  | .ref c :: r, e => by rw [refuseLoop_ref]; exact exc_refuse self e
  | [], e => by cases e
  | .type n :: r, e => by rw [show Value.type n :: r = _ from beq_iff_eq.mp e]; exact exc_passes self
  | .none :: _, e | .ellipsis :: _, e | .notImplemented :: _, e | .bool _ :: _, e | .int .. :: _, e | .float .. :: _, e | .str .. :: _, e | .bytes .. :: _, e | .builtin _ :: _, e => by simp [excTail] at e
theorem exc_has {v : Value} (hv : v = .type "ValueError" ∨ v = .type "BaseException" ∨ v = .type "object") : ∀ {l : List Value}, excTail l = true → l.contains v = true
  | .ref c :: r, e => by rw [List.contains_cons, exc_has hv (l := r) e, Bool.or_true]
  | [], e => by cases e
  | .type n :: r, e => by
    rw [show Value.type n :: r = _ from beq_iff_eq.mp e]
    rcases hv with rfl | rfl | rfl <;> decide
  | .none :: _, e | .ellipsis :: _, e | .notImplemented :: _, e | .bool _ :: _, e | .int .. :: _, e | .float .. :: _, e | .str .. :: _, e | .bytes .. :: _, e | .builtin _ :: _, e => by simp [excTail] at e

structure ExcOk (F : Frag) (C : Addr) (cd : ClassData) : Prop where
  ga : findIn F (.ref C) "__getattribute__" = some (some (.builtin "BaseException.__getattribute__"))
  no : findIn F (.ref C) "__getattr__" = some none
  sa : findIn F (.ref C) "__setattr__" = some (some (.builtin "object.__setattr__"))
  cls : clsIn F C = some cd
  dict : cd.hasDict = true
  tail : excTail cd.mro = true
theorem excOk_of {F : Frag} {C : Addr} (h : excOk F C = true) : ∃ cd, ExcOk F C cd := by
  run_tac beginC
  simp only [excOk, Bool.and_eq_true, beq_iff_eq] at h
  obtain ⟨⟨⟨⟨a, b⟩, c⟩, d⟩, e⟩ := h
  obtain ⟨cd, e1, e2⟩ := any_some e
  obtain ⟨cd', f1, f2⟩ := any_some c
  rw [e1] at f1
  cases f1
  exact ⟨cd, a, b, d, e1, f2, e2⟩
  run_tac endC
theorem ExcOk.ne {F : Frag} {C : Addr} {cd : ClassData} (X : ExcOk F C cd) : cd.mro.isEmpty = false := by
  run_tac beginC
  cases q : cd.mro with
  | nil => have := X.tail; rw [q] at this; cases this
  | cons _ _ => rfl
  run_tac endC

section
variable {prog : Program} {w : World} {F : Frag} {G : Str → Option Value} {base : Heap} {g : Array GenState} {os : OsState} {ns : List (Addr × Loc)} {σ : Store} {s : Shared} {A : Around} {K : KV} {E : Value → Shared → Prop} {P : Params} {x C : Addr} {cd : ClassData}

theorem exc_sub {M : Model} {h : Heap} {ox : Obj} {od : Option Obj} {v : Value} (X : F.In h) (Y : ExcOk F C cd) (I : InstAt h x ox C od) (hv : v = .type "ValueError" ∨ v = .type "BaseException" ∨ v = .type "object") : Looks M h (isInstance (.ref x) v) true :=
  I.type.andThen (looks_mroIn X (by unfold mroIn; rw [Y.cls, Option.bind_some, if_neg (by rw [Y.ne]; decide), exc_has hv Y.tail]))

/-- storing on an exception, as far as its own dict -/
theorem exc_store {ox : Obj} {od : Option Obj} {name : Str} {tk : Tok} {v : Value} {R : Result → Shared → Prop} (X : F.In s.heap) (Y : ExcOk F C cd) (I : InstAt s.heap x ox C od) (hb : findIn F (.ref C) name = some none)
    (h : wpAny (model prog w) A.in1 (storeInOwnDict (.ref x) (.ref C) (.str name tk) name v false)
      (fun fin s' => match fin with | .done f => R (.ok f) s' | .again c' => c'.quiet = true ∧ codeAny (model prog w) A c' R s') (fun e s' => R (.error e) s') s) :
    codeAny (model prog w) A (.call (.builtin "object.__setattr__") ⟨[.ref x, .str name tk, v], []⟩) R s := by
  run_tac beginC
  have SF := PySem.F.store_object
  have sub := exc_sub (M := model prog w) X Y I (v := .type "object") (.inr (.inr rfl))
  refine codeAny_call_builtin SF.slot.plain SF.entry (@check_slot (model prog w) _ _ s "object.__setattr__" "object" "__setattr__" (.ref x) [.str name tk, v] [] _ SF.kind SF.split sub (SF.args (.ref x) (.str name tk) v) ?_)
  have hm : Looks (model prog w) s.heap (mroOf (.ref C)) cd.mro := (looks_clsIn X Y.cls).andThen .now
  rw [osa_eq, refuse_eq]
  refine wpAny_bind (wpAny_bind (I.type.here (wpAny_bind (hm.here ?_))))
  rw [exc_refuse _ Y.tail]
  exact wpAny_pure (wpAny_bind (I.type.here (wpAny_bind ((looks_findIn X hb).here (wpAny_bind (wpAny_pure h))))))
  run_tac endC

theorem Sit.excAt (S : Sit P base g os ns σ s) {dx : Option Addr} {n : Bool} (h : σ x = some (.exc C dx n)) : ∃ ob vs, s.heap.get? x = some ob ∧ ob.cls = .ref C ∧ ob.dict = dx ∧ ob.slots = #[] ∧ ob.data = .fields vs ∧ vs.size = 6 ∧ (n = true → vs[1]? = some .none) := by
  run_tac beginC
  obtain ⟨ob, e, a, b, c, vs, d, z⟩ := S.rep _ _ h
  exact ⟨ob, vs, e, a, b, c, d, z⟩
  run_tac endC

theorem setPlainOf {ox : Obj} {od : Option Obj} {name : Str} {v : Value} {Q : Unit → Shared → Prop} (X : F.In s.heap) (Y : ExcOk F C cd) (I : InstAt s.heap x ox C od) (hb : findIn F (.ref C) name = some none)
    (h : wpAny (model prog w) A.in1 (storeInOwnDict (.ref x) (.ref C) (.str name s.toks) name v false) (fun fin s' => fin = .done (.ret .none) ∧ Q () s') E { s with toks := s.toks + 1 }) :
    wpAny (model prog w) A (setAttr (.ref x) name v) Q E s :=
  set_plain X I Y.sa (exc_store (s := { s with toks := s.toks + 1 }) X Y I hb (wpAny_mono h (fun fin s' z => by obtain ⟨rfl, q⟩ := z; exact q) fun _ _ z => z))

theorem snd_setExc {name : Str} {u : Value} {Ks : Store → Prop} {Q : Unit → Shared → Prop} {dx : Option Addr} {nw : Bool} (T : Stat w F G base) (S : Sit w.params base g os ns σ s) (hx : σ x = some (.exc C dx nw)) (h : setAttrH F (.ref x) name (er u) σ Ks)
    (hq : ∀ σ' s', Sit w.params base g os ns σ' s' → Ks σ' → Q () s') : wpAny (model prog w) A (setAttr (.ref x) name u) Q E s := by
  run_tac beginC
  obtain ⟨ob, vs, e1, c1, c2, c3, c4, c5⟩ := S.excAt hx
  obtain ⟨oc, odi, oda, osl⟩ := ob
  simp only at c1 c2 c3 c4
  subst c1 c2 c3 c4
  have X : F.In s.heap := T.kin.keeps S.stays
  unfold setAttrH at h
  simp only [hx] at h
  cases odi with
  | some dx =>
    obtain ⟨es, hd, hi, hb, hl, h⟩ := h
    obtain ⟨cd, Y⟩ := excOk_of hi
    obtain ⟨od, e2, ents, n, rfl, hr, hz⟩ := S.rep _ _ hd
    have I : InstAt s.heap x { cls := .ref C, dict := some dx, data := .fields vs } C (some { cls := .type "dict", data := .dict ents n }) := ⟨e1, rfl, rfl, e2⟩
    refine setPlainOf X Y I (bare_of hb) ?_
    refine wpAny_bind (wpAny_pure (wpAny_bind (wpAny_bind (wpAny_loadPart e1 (wpAny_bind ((looks_clsIn (M := model prog w) X Y.cls) _ _ _ _ (fun _ _ e => e) ?_))))))
    rw [Y.dict]
    refine wpAny_pure (a := some dx) (wpAny_bind (wpAny_pure (wpAny_bind ?_)))
    refine snd_nsSet (M := model prog w) (s := { s with toks := s.toks + 1 }) S.toks hd hl fun h' n ⟨ob, l1, l2⟩ S' => ?_
    exact wpAny_bind (wpAny_lookBehind l1 l2 (wpAny_pure ⟨rfl, hq _ _ S' h⟩))
  | none =>
    obtain ⟨hi, hb, h⟩ := h
    obtain ⟨cd, Y⟩ := excOk_of hi
    have I : InstAt s.heap x { cls := .ref C, dict := none, data := .fields vs } C none := ⟨e1, rfl, rfl, trivial⟩
    refine setPlainOf X Y I (bare_of hb) ?_
    refine wpAny_bind (wpAny_pure (wpAny_bind (wpAny_bind (wpAny_loadPart e1 (wpAny_bind ((looks_clsIn (M := model prog w) X Y.cls) _ _ _ _ (fun _ _ e => e) ?_))))))
    rw [Y.dict]
    have S1 := S.push (o := .dict []) (ob := { cls := .type "dict", data := .dict #[] }) rfl ⟨#[], 0, rfl, .nil, by simp, by simp⟩ rfl (n := s.toks + 1)
    have ne : s.heap.objs.size ≠ x := Nat.ne_of_gt (Heap.lt_size e1)
    have f1 : (s.heap.push { cls := .type "dict", data := .dict #[] }).get? x = some { cls := .ref C, dict := none, data := .fields vs } := Heap.get?_push_of_some _ e1
    have hx1 : (σ.set s.heap.objs.size (.dict [])) x = some (.exc C none nw) := by unfold Store.set; rw [if_neg (Ne.symm ne)]; exact hx
    have f2 : ((s.heap.push { cls := .type "dict", data := .dict #[] }).update x fun o => { o with dict := some s.heap.objs.size }).get? x = some { cls := .ref C, dict := some s.heap.objs.size, data := .fields vs } := Heap.get?_update_self _ f1 rfl
    have S2 := S1.turn (s' := { s with heap := (s.heap.push { cls := .type "dict", data := .dict #[] }).update x fun o => { o with dict := some s.heap.objs.size }, toks := s.toks + 1 }) (o := .exc C (some s.heap.objs.size) nw) hx1 rfl rfl
      (fun b o hb q => (Heap.get?_update_other _ _ (Ne.symm hb)).trans q) f2 ⟨rfl, rfl, rfl, vs, rfl, c5⟩ rfl rfl rfl
    have hd2 : ((σ.set s.heap.objs.size (.dict [])).set x (.exc C (some s.heap.objs.size) nw)) s.heap.objs.size = some (.dict []) := by unfold Store.set; rw [if_neg ne, if_pos rfl]
    refine wpAny_bind (wpAny_alloc (wpAny_bind (wpAny_update f1 ?_)))
    refine wpAny_pure (a := some s.heap.objs.size) (wpAny_bind (wpAny_pure (wpAny_bind ?_)))
    refine snd_nsSet (M := model prog w) (s := { s with heap := (s.heap.push { cls := .type "dict", data := .dict #[] }).update x fun o => { o with dict := some s.heap.objs.size }, toks := s.toks + 1 }) S2 hd2 (by simp) fun h' n ⟨ob, l1, l2⟩ S' => ?_
    exact wpAny_bind (wpAny_lookBehind l1 l2 (wpAny_pure ⟨rfl, hq _ _ S' (h _ S.fresh')⟩))
  run_tac endC

theorem exc_bind (self : Value) : bindSpecial (.builtin "BaseException.__getattribute__") self = pure (.builtin "BaseException.__getattribute__", [self]) := by kernel_rfl

theorem snd_getExc {name : Str} {Kv : Value → Prop} {Q : Value → Shared → Prop} {dx : Addr} {nw expr : Bool} (T : Stat w F G base) (S : Sit w.params base g os ns σ s) (hx : σ x = some (.exc C (some dx) nw)) (h : getAttrH F (.ref x) name σ Kv) (hq : ∀ v n, Kv (er v) → Q v { s with toks := n }) :
    wpAny (model prog w) A (getAttr (.ref x) name expr) Q E s := by
  run_tac beginC
  obtain ⟨ob, vs, e1, c1, c2, c3, c4, c5⟩ := S.excAt hx
  obtain ⟨oc, odi, oda, osl⟩ := ob
  simp only at c1 c2 c3 c4
  subst c1 c2 c3 c4
  have X : F.In s.heap := T.kin.keeps S.stays
  unfold getAttrH at h
  simp only [hx] at h
  obtain ⟨es, u, hd, hi, hb, hl, hh, h⟩ := h
  obtain ⟨cd, Y⟩ := excOk_of hi
  obtain ⟨od, e2, ents, n, rfl, hr, hz⟩ := S.rep _ _ hd
  have I : InstAt s.heap x { cls := .ref C, dict := some dx, data := .fields vs } C (some { cls := .type "dict", data := .dict ents n }) := ⟨e1, rfl, rfl, e2⟩
  obtain ⟨q, hq1, hq2⟩ := hr.look (n := n) (name := name)
  obtain ⟨v, rfl, rfl⟩ := hq2 _ hl
  rw [handed_er] at hh
  have hf : findObj F C (some { cls := .type "dict", data := .dict ents n }) name = some (.value v) := findObj_own (by unfold hasDictIn; rw [Y.cls]; exact Y.dict) (bare_of hb) rfl hq1
  have L := looks_find (M := model prog w) X I hf
  have L0 := I.type (M := model prog w)
  have sub := exc_sub (M := model prog w) X Y I (v := .type "BaseException") (.inr (.inl rfl))
  unfold getAttr getAttrBy
  refine wpAny_bind (wpAny_mkText (wpAny_holding (wpAny_bind (L0 _ _ _ _ (fun _ _ e => e) (wpAny_bind ((looks_findIn X Y.ga) _ _ _ _ (fun _ _ e => e) ?_))))))
  show wpAny _ _ (getAttrByItsOwn _ _ _ _ _ _) _ _ _
  unfold getAttrByItsOwn
  refine wpAny_bind ?_
  show wpAny _ _ (typeLookup (.ref C) "__getattr__") _ _ _
  refine (looks_findIn X Y.no) _ _ _ _ (fun _ _ e => e) ?_
  refine wpAny_bind (wpAny_attempt (wpAny_holding ?_))
  have ex : callGetattribute (.ref x) (.str name s.toks) (.builtin "BaseException.__getattribute__") expr = boundAndCalled (.builtin "BaseException.__getattribute__") (.ref x) (.str name s.toks) := by cases expr <;> rfl
  rw [ex]
  unfold boundAndCalled
  rw [exc_bind]
  refine wpAny_bind (wpAny_pure (wpAny_call ?_))
  refine codeAny_call_builtin (by decide +kernel) PySem.F.entry_bexc_ga (@check_slot (model prog w) _ _ _ "BaseException.__getattribute__" "BaseException" "__getattribute__" (.ref x) [.str name s.toks] [] _ (by decide +kernel) (by decide +kernel) sub (PySem.F.args_bexc_ga _ _) ?_)
  refine wpAny_bind (wpAny_pure (wpAny_bind (wpAny_pure (wpAny_bind (L0 _ _ _ _ (fun _ _ e => e) (wpAny_bind (L _ _ _ _ (fun _ _ e => e) ?_)))))))
  refine wpAny_pure ?_
  show wpAny _ _ (handedOut v) _ _ _
  rw [handedOut_of hh]
  exact wpAny_pure (hq _ _ h)
  run_tac endC
end
end Mine
end

section
open PySem PySem.W PySem.Calls PyProof.Rows
set_option maxRecDepth 100000
namespace Mine

/-! two modes: m = false, every context; m = true, contexts with nothing in their stack that holds a buffer -/

noncomputable def badIds : List String := Builtin.Bytes.decodersThatHold ++ ["bytearray.__contains__", "bytearray.__mod__", "bytearray.__rmod__", "_struct.pack_into.held", "bytearray.find.held"]
noncomputable def okB : Code → Bool
  | .builtin id _ => !badIds.contains id
  | _ => true
noncomputable def Clean (Γ : Ctx) : Prop := okB Γ.code = true ∧ ∀ c ∈ Γ.below, okB c.1 = true

noncomputable def wpM {α : Type} (m : Bool) (M : Model) (A : Around) (t : Sem α) (Q : α → Shared → Prop) (E : Value → Shared → Prop) (s : Shared) : Prop :=
  ∀ Γ p, Γ.In A → (m = true → Clean Γ) → Sem.wp M Γ t (fun a _ s' => Q a s') (fun e _ s' => E e s') p s
noncomputable def codeM (m : Bool) (M : Model) (A : Around) (c : Code) (R : Result → Shared → Prop) (s : Shared) : Prop :=
  ∀ Γ p, Γ.code = c → Γ.Below A → (m = true → Clean Γ) → wpCode M Γ R p s

section
variable {α β : Type} {m : Bool} {M : Model} {A : Around} {E : Value → Shared → Prop} {s : Shared}

theorem wpM.of {t : Sem α} {Q : α → Shared → Prop} (h : wpAny M A t Q E s) : wpM m M A t Q E s := fun Γ p hΓ _ => h Γ p hΓ
theorem wpM.all {t : Sem α} {Q : α → Shared → Prop} (h : wpM false M A t Q E s) : wpAny M A t Q E s := fun Γ p hΓ => h Γ p hΓ (fun x => by cases x)
theorem codeM.of {c : Code} {R : Result → Shared → Prop} (h : codeAny M A c R s) : codeM m M A c R s := fun Γ p hc hΓ _ => h Γ p hc hΓ
theorem codeM.all {c : Code} {R : Result → Shared → Prop} (h : codeM false M A c R s) : codeAny M A c R s := fun Γ p hc hΓ => h Γ p hc hΓ (fun x => by cases x)
theorem wpM.up {t : Sem α} {Q : α → Shared → Prop} (h : wpM false M A t Q E s) : wpM m M A t Q E s := .of h.all
theorem codeM.up {c : Code} {R : Result → Shared → Prop} (h : codeM false M A c R s) : codeM m M A c R s := .of h.all

theorem wpM_pure {a : α} {Q : α → Shared → Prop} (h : Q a s) : wpM m M A (pure a) Q E s := .of (wpAny_pure h)
theorem wpM_mono {t : Sem α} {Q Q' : α → Shared → Prop} {E' : Value → Shared → Prop} (h : wpM m M A t Q E s)
    (hQ : ∀ a s, Q a s → Q' a s) (hE : ∀ e s, E e s → E' e s) : wpM m M A t Q' E' s :=
  fun Γ p hΓ hc => Sem.wp_mono M Γ t (fun a _ s => hQ a s) (fun e _ s => hE e s) p s (h Γ p hΓ hc)
theorem wpM_bind {t : Sem α} {f : α → Sem β} {Q : β → Shared → Prop} (h : wpM m M A t (fun a s' => wpM m M A (f a) Q E s') E s) :
    wpM m M A (t >>= f) Q E s := fun Γ p hΓ hc => by
  rw [Sem.wp_bind']
  exact Sem.wp_mono M Γ t (fun a p' s' h' => h' Γ p' hΓ hc) (fun _ _ _ h' => h') p s (h Γ p hΓ hc)
theorem wpM_tryCatch {t : Sem α} {k : Value → Sem α} {Q : α → Shared → Prop} (h : wpM m M A t Q (fun e s' => wpM m M A (k e) Q E s') s) :
    wpM m M A (tryCatch t k) Q E s := fun Γ p hΓ hc => by
  rw [Sem.wp_tryCatch']
  exact Sem.wp_mono M Γ t (fun _ _ _ h' => h') (fun e p' s' h' => h' Γ p' hΓ hc) p s (h Γ p hΓ hc)
theorem wpM_onRaise {t : Sem α} {k : Value → Sem Unit} {Q : α → Shared → Prop}
    (h : wpM m M A t Q (fun e s' => wpM m M A (k e) (fun _ s'' => E e s'') E s') s) : wpM m M A (t.onRaise k) Q E s := fun Γ p hΓ hc => by
  rw [Sem.wp_onRaise]
  exact Sem.wp_mono M Γ t (fun _ _ _ h' => h') (fun e p' s' h' => h' Γ p' hΓ hc) p s (h Γ p hΓ hc)
theorem wpM_attempt {t : Sem α} {Q : Except Value α → Shared → Prop} (h : wpM m M A t (fun a => Q (.ok a)) (fun e => Q (.error e)) s) :
    wpM m M A t.attempt Q E s := fun Γ p hΓ hc => by rw [Sem.wp_attempt]; exact h Γ p hΓ hc
theorem wpM_holding {vs : List Value} {t : Sem α} {Q : α → Shared → Prop} (h : wpM m M A t Q E s) : wpM m M A (holding vs t) Q E s :=
  fun Γ p hΓ hc => by rw [Sem.wp_holding]; exact h Γ p hΓ hc
theorem wpM_standAt {pos : Pos} {Q : Unit → Shared → Prop} (h : Q () s) : wpM m M A (standAt pos) Q E s := fun _ _ _ _ => h
theorem wpM_point {Q : Unit → Shared → Prop} (h : Q () s) : wpM m M A point Q E s := fun _ _ _ _ => h
theorem wpM_rule {tag : String} {Q : Unit → Shared → Prop} (h : Q () s) : wpM m M A (rule tag) Q E s := fun _ _ _ _ => h
/-- a leaf of every context, and what stands behind it -/
theorem wpM_leaf {t : Sem α} {f : α → Sem β} {Q : β → Shared → Prop} (h : wpAny M A t (fun a s' => wpM m M A (f a) Q E s') E s) : wpM m M A (t >>= f) Q E s := wpM_bind (.of h)

theorem Clean.enter {Γ : Ctx} (h : Clean Γ) {c : Code} {hd : Option Value} {p : Pos} (hc : okB c = true) : Clean (Γ.enter c hd p) :=
  ⟨hc, fun x hx => by
    rcases List.mem_cons.mp hx with rfl | hx
    · exact h.1
    · exact h.2 x hx⟩
theorem Clean.goto {Γ : Ctx} (h : Clean Γ) {c : Code} (hc : okB c = true) : Clean (Γ.goto c) := ⟨hc, h.2⟩

theorem codeM_mono {c : Code} {R R' : Result → Shared → Prop} (h : codeM m M A c R s) (hR : ∀ r s, R r s → R' r s) : codeM m M A c R' s :=
  fun Γ p hc hΓ hk => wpCode_mono hR (h Γ p hc hΓ hk)
theorem wpM_run {c : Code} {h : Option Value} {Q : Flow → Shared → Prop} (ok : okB c = true)
    (hc : codeM m M (A.mark h) c (fun r s' => match r with | .ok f => Q f s' | .error e => E e s') s) (hnb : h ≠ some byPass := by intro x; cases x) :
    wpM m M A (run c h) Q E s :=
  fun Γ p hΓ hk => by rw [Sem.wp_run]; exact hc _ p rfl (hΓ.enter c h p hnb) (fun x => (hk x).enter ok)
theorem wpM_runValue {c : Code} {Q : Value → Shared → Prop} (ok : okB c = true)
    (hc : codeM m M A c (fun r s' => match r with | .ok (.ret v) => Q v s' | .ok _ => False | .error e => E e s') s) :
    wpM m M A (runValue c) Q E s := fun Γ p hΓ hk => by rw [Sem.wp_runValue]; exact hc _ p rfl (hΓ.enter c none p (by intro x; cases x)) (fun x => (hk x).enter ok)
theorem wpM_call {f : Value} {pos : List Value} {kw : List (Str × Value)} {Q : Value → Shared → Prop}
    (hc : codeM m M A (.call f ⟨pos, kw⟩) (fun r s' => match r with | .ok (.ret v) => Q v s' | .ok _ => False | .error e => E e s') s) :
    wpM m M A (call f pos kw) Q E s := wpM_runValue rfl hc

theorem codeM_of_tree {c : Code} {R : Result → Shared → Prop}
    (h : wpM m M (A.under c) (M.den c) (fun fin s' => match fin with | .done f => R (.ok f) s' | .again c' => c'.quiet = true ∧ okB c' = true ∧ codeM m M A c' R s')
      (fun e s' => R (.error e) s') s) : codeM m M A c R s := by
  run_tac beginC
  intro Γ p hc hΓ hk
  rw [wpCode_iff_wp, hc]
  refine Sem.wp_mono M Γ _ (fun fin p' s' h' => ?_) (fun _ _ _ h' => h') p s (h Γ p (hc ▸ hΓ.in) hk)
  cases fin with
  | done f => exact h'
  | again c' => exact ⟨h'.1, h'.2.2 (Γ.goto c') p' rfl (hΓ.goto c') (fun x => (hk x).goto h'.2.1)⟩
  run_tac endC

theorem any_clean {l : List (Code × Pos)} (h : ∀ c ∈ l, okB c.1 = true) {f : Code × Pos → Bool} (hf : ∀ c p, okB c = true → f (c, p) = false) : l.any f = false := by
  run_tac beginC
  rw [List.any_eq_false]
  intro x hx
  rw [hf x.1 x.2 (h x hx)]
  exact Bool.false_ne_true
  run_tac endC

/-- nothing in the stack holds a buffer -/
theorem wpM_exported {v : Value} {Q : Bool → Shared → Prop} (h : Q false s) : wpM true M A (Builtin.Bytes.exported v) Q E s := by
  run_tac beginC
  intro Γ p _ hk
  have hk := hk rfl
  unfold Builtin.Bytes.exported
  show Q (((Γ.code, p) :: Γ.below).any _) s
  rw [any_clean (fun c hc => by
    rcases List.mem_cons.mp hc with rfl | hc
    · exact hk.1
    · exact hk.2 c hc)]
  · exact h
  · intro c p ok
    cases c with
    | builtin id args =>
      replace ok : (!badIds.contains id) = true := ok
      rw [Bool.not_eq_true'] at ok
      have ne : ∀ x, badIds.contains x = true → id ≠ x := fun x hx e => by subst e; rw [ok] at hx; cases hx
      have n1 := ne "bytearray.__contains__" (by decide)
      have n2 := ne "bytearray.__mod__" (by decide)
      have n3 := ne "bytearray.__rmod__" (by decide)
      have n4 := ne "_struct.pack_into.held" (by decide)
      have n5 := ne "bytearray.find.held" (by decide)
      have n6 : Builtin.Bytes.decodersThatHold.contains id = false := by
        cases q : Builtin.Bytes.decodersThatHold.contains id with
        | false => rfl
        | true =>
          have : badIds.contains id = true := by
            unfold badIds
            rw [List.contains_eq_mem] at q ⊢
            rw [decide_eq_true_eq] at q ⊢
            exact List.mem_append_left _ q
          rw [ok] at this; cases this
      obtain ⟨ps, kw⟩ := args
      delta Builtin.Bytes.exported.match_1
      change dite (id = "bytearray.__contains__") _ _ = false
      refine (dif_neg n1).trans ?_
      refine (dif_neg n2).trans ?_
      refine (dif_neg n3).trans ?_
      refine (dif_neg n4).trans ?_
      refine (dif_neg n5).trans ?_
      cases ps with
      | nil => rfl
      | cons x xs => exact (congrArg (Builtin.Bytes.sameRef x v && ·) n6).trans (Bool.and_false _)
    | _ => rfl
  run_tac endC
end

structure Snd (m : Bool) (prog : Program) (w : World) (F : Frag) (G : Str → Option Value) (g : Array GenState) (os : OsState) (d : Nat) (r : Ev) : Prop where
  E : ∀ (base : Heap), Stat w F G base → ∀ (A : Around) (env : Env) (ns : List (Addr × Loc)) (loc : Loc) (σ : Store) (e : PySem.Expr) (K : KV) (X : KX) (s : Shared), Okk A env ns d → Sit w.params base g os ((env.locals, loc) :: ns) σ s → r.E env e loc σ K X →
    wpM m (model prog w) A (eval e env) (PostV w.params base g os ((env.locals, loc) :: ns) K) (PostX w.params base g os env.frame ((env.locals, loc) :: ns) X) s
  T : ∀ (base : Heap), Stat w F G base → ∀ (A : Around) (env : Env) (ns : List (Addr × Loc)) (loc : Loc) (σ : Store) (e : PySem.Expr) (K : Bool → Store → Prop) (X : KX) (s : Shared), Okk A env ns d → Sit w.params base g os ((env.locals, loc) :: ns) σ s → r.T env e loc σ K X →
    wpM m (model prog w) A (isTrue e env (eval e env)) (PostT w.params base g os ((env.locals, loc) :: ns) K) (PostX w.params base g os env.frame ((env.locals, loc) :: ns) X) s
  As : ∀ (base : Heap), Stat w F G base → ∀ (A : Around) (env : Env) (ns : List (Addr × Loc)) (loc : Loc) (σ : Store) (t : PySem.Expr) (v : Value) (K : Loc → Store → Prop) (X : KX) (s : Shared), Okk A env ns d → Sit w.params base g os ((env.locals, loc) :: ns) σ s → r.As env t (er v) loc σ K X →
    wpM m (model prog w) A (assign t env v) (PostL w.params base g os ns env.locals K) (fun v s' => ∃ loc', PostX w.params base g os env.frame ((env.locals, loc') :: ns) X v s') s
  S : ∀ (base : Heap), Stat w F G base → ∀ (A : Around) (env : Env) (ns : List (Addr × Loc)) (loc : Loc) (σ : Store) (t : Stmt) (K : KS) (X : KXL) (s : Shared), Okk A env ns d → Sit w.params base g os ((env.locals, loc) :: ns) σ s → r.S env t loc σ K X →
    wpM m (model prog w) A (exec t env) (PostS w.params base g os ns env.locals K) (PostXL w.params base g os env.frame ns env.locals X) s
  star : ∀ env e p loc σ K X, ¬ r.E env (.Starred e p) loc σ K X
  aStar : ∀ env e p v loc σ K X, ¬ r.As env (.Starred e p) v loc σ K X

/-- what a call does -/
noncomputable def SndC (m : Bool) (prog : Program) (w : World) (F : Frag) (G : Str → Option Value) (g : Array GenState) (os : OsState) (d : Nat) (cf : CallF) : Prop :=
  ∀ (base : Heap), Stat w F G base → ∀ (A : Around) (ns : List (Addr × Loc)) (σ : Store) (f : Value) (vs : List Value) (K : KV) (X : KX) (s : Shared) (l : List Env), A.handled = none → A.frames = some l → FramesIn l (ns.map (·.1)) → A.depth + 4 * d ≤ 900 → A.units + 100 * d ≤ 9000 →
    Sit w.params base g os ns σ s → cf (er f) (vs.map er) σ K X →
    wpM m (model prog w) A (call f vs) (PostV w.params base g os ns K) (PostX w.params base g os none ns X) s

/-- a heap that holds all that is not told of: what it holds stays -/
noncomputable def under (told : Addr → Bool) (h : Heap) : Heap := ⟨(h.objs.toList.mapIdx fun i o => if told i then { o with data := .freed } else o).toArray, h.life⟩
theorem under_get {told : Addr → Bool} {h : Heap} {a : Addr} : (under told h).get? a = if told a then none else h.get? a := by
  run_tac beginC
  unfold under Heap.get?
  rw [List.getElem?_toArray, List.getElem?_mapIdx]
  rw [show h.objs[a]? = h.objs.toList[a]? by simp]
  generalize h.objs.toList[a]? = y
  generalize told a = t
  cases y with
  | none => cases t <;> rfl
  | some o => cases t <;> rfl
  run_tac endC

theorem Sit.rebase {P : Params} {base : Heap} {g : Array GenState} {os : OsState} {ns : List (Addr × Loc)} {σ : Store} {s : Shared} (S : Sit P base g os ns σ s) :
    ∃ base', base.StaysIn base' ∧ Sit P base' g os ns σ s ∧ ∀ a o, s.heap.get? a = some o → σ a = none → a ∉ ns.map (·.1) → base'.get? a = some o := by
  run_tac beginC
  classical
  let told : Addr → Bool := fun a => decide ((∃ o, σ a = some o ∧ o.isRo = false) ∨ a ∈ ns.map (·.1))
  have nt : ∀ a, (¬ ∃ o, σ a = some o ∧ o.isRo = false) → a ∉ ns.map (·.1) → told a = false := fun a h1 h2 => decide_eq_false (fun h => h.elim h1 h2)
  have yt : ∀ a, ((∃ o, σ a = some o ∧ o.isRo = false) ∨ a ∈ ns.map (·.1)) → (under told s.heap).get? a = none := fun a h => by
    rw [under_get, if_pos (decide_eq_true h)]
  refine ⟨under told s.heap, fun b o e => ?_, ⟨fun b o e => ?_, fun p hp => ?_, S.nd, S.rep, fun a o q hr => yt a (.inl ⟨o, q, hr⟩), S.fns, S.tabs, S.gens, S.os, S.tt⟩, fun a o e h1 h2 => ?_⟩
  · rw [under_get, nt b (fun ⟨o', q, hr⟩ => by rw [S.own b o' q hr] at e; cases e) (fun hm => by
      obtain ⟨p, hp, rfl⟩ := List.mem_map.mp hm
      rw [(S.nsok p hp).2.1] at e; cases e)]
    exact S.stays b o e
  · rw [under_get] at e
    split at e
    · cases e
    · exact e
  · obtain ⟨a, b, c⟩ := S.nsok p hp
    exact ⟨a, yt _ (.inr (List.mem_map_of_mem (f := (·.1)) hp)), c⟩
  · rw [under_get, nt a (fun ⟨o', q, _⟩ => by rw [h1] at q; cases q) h2]
    exact e
  run_tac endC

theorem Sit.unbase {P : Params} {base base' : Heap} {g : Array GenState} {os : OsState} {ns : List (Addr × Loc)} {σ : Store} {s : Shared} (S : Sit P base' g os ns σ s) (h : base.StaysIn base') : Sit P base g os ns σ s :=
  have no : ∀ a, base'.get? a = none → base.get? a = none := fun a e => by
    cases q : base.get? a with
    | none => rfl
    | some o => rw [h a o q] at e; cases e
  ⟨fun b o e => S.stays b o (h b o e), fun p hp => let ⟨a, b, c⟩ := S.nsok p hp; ⟨a, no _ b, c⟩, S.nd, S.rep, fun a o q hr => no _ (S.own a o q hr), S.fns, S.tabs, S.gens, S.os, S.tt⟩
theorem Fly.unbase {fr : Option Addr} {base base' : Heap} {ns : List (Addr × Loc)} {σ : Store} {h : Heap} {e : Addr} (x : Fly fr base' ns σ h e) (k : base.StaysIn base') : Fly fr base ns σ h e := by
  run_tac beginC
  obtain ⟨ob, vs, e1, e2, e4⟩ := x
  refine ⟨ob, vs, e1, e2, e4.imp id fun x => ?_⟩
  obtain ⟨T, oT, ts, v, h1, h2, h3, h4, h5⟩ := x
  refine ⟨T, oT, ts, v, h1, h2, h3, ?_, h5⟩
  cases q : base.get? T with
  | none => rfl
  | some o => rw [k T o q] at h4; cases h4
  run_tac endC
theorem Fly.left {fr : Option Addr} {base : Heap} {ns : List (Addr × Loc)} {σ : Store} {h : Heap} {e : Addr} (x : Fly none base ns σ h e) : Fly fr base ns σ h e := by
  run_tac beginC
  obtain ⟨ob, vs, e1, e2, e4⟩ := x
  refine ⟨ob, vs, e1, e2, e4.imp id fun x => ?_⟩
  obtain ⟨T, oT, ts, v, h1, h2, h3, h4, h5, h6, h7, h8, h9⟩ := x
  refine ⟨T, oT, ts, v, h1, h2, h3, h4, h5, h6, h7, h8, .inl ?_⟩
  rcases h9 with h9 | ⟨f, q, _⟩
  · exact h9
  · cases q
  run_tac endC
theorem PostX.left {P : Params} {base : Heap} {g : Array GenState} {os : OsState} {fr : Option Addr} {ns : List (Addr × Loc)} {X : KX} {v : Value} {s : Shared} (x : PostX P base g os none ns X v s) : PostX P base g os fr ns X v s := by
  run_tac beginC
  obtain ⟨e, σ', a, b, c, d⟩ := x
  exact ⟨e, σ', a, b, c.left, d⟩
  run_tac endC
theorem Stat.up {w : World} {F : Frag} {G : Str → Option Value} {base base' : Heap} (T : Stat w F G base) (h : base.StaysIn base') : Stat w F G base' := by
  run_tac beginC
  refine ⟨T.kin.keeps h, T.nolimit.keeps h, fun x v q => ?_, ?_⟩
  · obtain ⟨mg, mb, val, a, b, c⟩ := T.glob x v q
    exact ⟨mg, mb, val, a.keeps h, b.keeps h, c⟩
  · obtain ⟨mg, a, bm, ob, b1, b2, b3, b4, b5⟩ := T.glo
    exact ⟨mg, a.keeps h, bm, ob, b1, b2, b3, h _ _ b4, b5⟩
  run_tac endC

end Mine
end

section
open PySem PySem.W PySem.Calls PyProof.Rows
set_option maxRecDepth 100000
namespace Mine

/-! the head's own end: the one context of the caller, in which nothing holds a buffer -/

noncomputable abbrev callerCtx : Ctx := ⟨.builtin "claim.caller" {}, none, none, [], none⟩
theorem callerClean : Clean callerCtx := ⟨by decide +kernel, fun c hc => by cases hc⟩

theorem ends_M {prog : Program} {w : World} {t : Sem Fin} {s : Shared} {R : Result → Shared → Prop} (hreg : s.asleep)
    (h : wpM true (model prog w) callerA t (fun fin s' => ∃ f, fin = .done f ∧ (R (.ok f) s' ∧ leftWithCleanup s'.gens = false)) (fun e s' => R (.error e) s' ∧ leftWithCleanup s'.gens = false) s) :
    ∃ n r s' s'', runN (denote table) prog w n s ⟨t, .builtin "claim.caller" {}, default, []⟩ = .halted (outcomeOf r) s' ∧
      schedN (denote table) prog w n (.single s ⟨t, .builtin "claim.caller" {}, default, []⟩) = .halted (outcomeOf r) s' ∧ s'.forget = s''.forget ∧ R r s'' := by
  run_tac beginC
  have hwp : Sem.wp (model prog w) callerCtx t (Sem.finPost (model prog w) callerCtx fun r s' => R r s' ∧ leftWithCleanup s'.gens = false) (fun e _ s' => R (.error e) s' ∧ leftWithCleanup s'.gens = false) default s := by
    refine Sem.wp_mono _ _ t (fun fin p' s' h' => ?_) (fun _ _ _ h' => h') default s (h callerCtx default caller_in fun _ => callerClean)
    obtain ⟨f, rfl, hf⟩ := h'
    exact hf
  obtain ⟨n, r, s₁, s₂, hs, hn, hfo, hR⟩ := wp_halts_full (M := model prog w) (R := R) hreg hwp
  exact ⟨n, r, s₂, s₁, hn, hs, hfo, hR⟩
  run_tac endC

theorem callFrom_M {c : ClaimW} {tree : List Value → Sem Fin} {w : World} {s : Shared} {free : Addr → Prop} {gens : Prop} {kept : Heap → Prop} (hz : s.asleep) (hgens : s.gens = #[])
    (hspec : ∀ args, c.pre args = true → WData.layableAll args = true → ∀ ord : List DictEntry → List DictEntry, (∀ l, (ord l).Perm l) →
      ∃ vs s₁, layAllW c.records (classAt s.heap) w.params ord args s = some (vs, s₁) ∧
        wpM true (model c.prog w) callerA (tree vs) (fun fin s' => ∃ f, fin = .done f ∧ (c.Ends s args vs s₁ (.ok f) s' ∧ s'.os = s.os ∧ AllBare s'.gens ∧ kept s'.heap))
          (fun e s' => c.Ends s args vs s₁ (.error e) s' ∧ s'.os = s.os ∧ AllBare s'.gens ∧ kept s'.heap) s₁) :
    c.CallFrom (fun vs => ⟨tree vs, .builtin "claim.caller" {}, default, []⟩) w free gens kept s := by
  run_tac beginC
  intro args hpre hlay ord hord
  obtain ⟨vs, s₁, hlaid, hcode⟩ := hspec args hpre hlay ord hord
  have hal := layAllW_rest _ _ _ hlaid
  obtain ⟨k, r, s', s'', hrun, hsched, hfo, hcase, hos, hkp⟩ := ends_M (prog := c.prog) (w := w) (t := tree vs) (s := s₁) (R := fun r s' => c.Ends s args vs s₁ r s' ∧ s'.os = s.os ∧ kept s'.heap) (Shared.asleep_of_life hal.2.2.2 hz)
    (wpM_mono hcode (fun fin s' ⟨f, e, h1, h2, h3, h4⟩ => ⟨f, e, ⟨h1, h2, h4⟩, leftWithCleanup_false_of_bare h3⟩) fun e s' ⟨h1, h2, h3, h4⟩ => ⟨⟨h1, h2, h4⟩, leftWithCleanup_false_of_bare h3⟩)
  obtain ⟨eh, _, _, eo, _⟩ := Shared.forget_eq hfo
  have hcase := hcase.congr eh
  have hkp : kept s'.heap := by rw [eh]; exact hkp
  rw [← eo] at hos
  have hlife : s'.heap.life = s.heap.life := (runN_life _ _ _ hrun).trans hal.2.2.2
  refine ⟨vs, s₁, hlaid, k, _, s', hsched, ?_, fun _ i x hx => by rw [hgens] at hx; simp at hx, hkp, by rw [hlife], Shared.rest_eq hos⟩
  rcases hcase with ⟨v, rfl, d1, d2, d3, d4, d5⟩ | ⟨e, ob, cls, rfl, d1, d2, d3, d4, d5⟩
  · exact .inl ⟨v, rfl, d1, d2, d3, fun b o y _ => d4 b o y, d5⟩
  · exact .inr ⟨e, ob, cls, rfl, d1, d2, d3, d4, fun b o y _ => d5 b o y⟩
  run_tac endC

/-- what the call must show, in the caller's own context -/
noncomputable abbrev WalkM (q : Program) (loose : List Str) (XP : (Str → Option Value) → Heap → Prop) (YP : World → Heap → Prop) (r : RowW) : Prop :=
  ∀ (w : World) (s₀ s₁ : Shared) (mg mb : Str → Option Value), Ground q loose r.records XP w s₀ mg mb s₁.heap → YP w s₁.heap → ∀ (a : Addr), mg r.name = some (.ref a) → s₁.gens = #[] →
    ∀ (args : List WData) (vals : List Value) (as : List Addr), r.claim.pre args = true → ReadsAllW r.records (classAt s₀.heap) s₁.heap vals args as →
      wpM true (model r.prog w) callerA (PySem.call (.ref a) vals) (fun v s' => GoodWG r.claim (classAt s₀.heap) (ExcName.means s₀.heap) args s₁ (.ok (.ret v)) s')
        (fun e s' => GoodWG r.claim (classAt s₀.heap) (ExcName.means s₀.heap) args s₁ (.error e) s') s₁

theorem holds_M {r : OpenRow} {q : Program} {loose : List Str} {Xt : Shared → Bool} {XP : (Str → Option Value) → Heap → Prop} {α : Type} {Yf : Shared → α} {Ya : World → α} {YP : World → Heap → Prop} {d : DefRec} {kwd : List (Str × PySem.Expr)} {N : Nat}
    (left : LeftO r.prog q loose Xt Yf Ya N) (hY : ∀ w s, Yf s = Ya w → YP w s.heap) (hYk : ∀ w h h', YP w h → (∀ b o, h.get? b = some o → h'.get? b = some o) → YP w h')
    (hX : ∀ s, Xt s = true → XP (s.heap.nsMap mainGlobals) s.heap) (hXk : ∀ mg h h', XP mg h → (∀ b o, h.get? b = some o → h'.get? b = some o) → XP mg h')
    (hdef : defOf q r.name = some (d, kwd)) (hp : r.prog.theDef r.name = some (d.params, d.body, d.scope)) (hk : kwWritten? d.params.kwonlyargs d.params.kw_defaults = some kwd) (hRf : ∀ s, Xt s = true → RecFacts r.records s.heap) (hwr : (!r.writes || r.records.isEmpty) = true)
    (k1 : r.wellSaid = true) (ok : (chainsOk q && opensWell r.prog && (frees r.toRowW && r.within.isEmpty)) = true) (hb : r.prog.bare) (hw : r.toRowW.promised)
    (call : WalkM q loose XP YP r.toRowW) : r.Holds := by
  run_tac beginC
  refine ⟨k1, hw, ?_⟩
  obtain ⟨ok, k5⟩ := Bool.and_eq_true_iff.mp ok
  obtain ⟨hch, o1⟩ := Bool.and_eq_true_iff.mp ok
  obtain ⟨k5, k6⟩ := Bool.and_eq_true_iff.mp k5
  obtain ⟨hsame, hu, ha, hap, hm⟩ := frees_parts k5
  refine ⟨⟨hb, o1, by show r.toRowW.makers.map _ = []; rw [hm]; rfl⟩, hw.witness, fun w => ⟨(left.behind hX hch w).1, fun s' hs' => ?_⟩⟩
  obtain ⟨s₀, hf, hg0, s, hT, hz, hgens, hg, G00, y⟩ := (left.behind (XP := fun mg h => XP mg h ∧ RecFacts r.records h) (fun s hs => ⟨hX s hs, hRf s hs⟩) hch w).2 s' hs'
  have G0 : Ground q loose [] XP w s (s.heap.nsMap mainGlobals) (s.heap.nsMap builtinsNs) s.heap := ⟨G00.T, G00.B, G00.D, G00.TE, G00.TD, G00.W, G00.X.1, G00.cls, G00.has, G00.apart, G00.once, G00.K⟩
  have RF := G00.X.2
  have hT' := hT
  have hgens : s.gens = #[] := Array.eq_empty_of_size_eq_zero (beq_iff_eq.mp hgens)
  have G : Ground q loose r.toRowW.records XP w s _ _ s.heap := RF.ground G0
  refine ⟨s₀, hf, hg0, s, hT, fun n hn => ?_, RF.1, RF.2.1, callFrom_M (c := r.toRowW.claim) hz hgens fun args hpre hlay ord hord => ?_⟩
  · obtain rfl : n = r.name := by split at hn <;> simp_all
    exact pinned_of_view hg G0 hdef hp hk
  · obtain ⟨⟨vs, s₁⟩, hlaid⟩ := Option.isSome_iff_exists.mp (layAllW_isSome (P := w.params) (ord := ord) G.has args r.toRowW.args s (pre_splitW hpre).1)
    have keeps := layAllW_keeps _ _ _ hlaid
    have hal := layAllW_rest _ _ _ hlaid
    obtain ⟨as, hrd, hin, hold⟩ := reads_layAllW hord _ _ _ hlaid hlay s₁.heap (fun _ _ e => e)
    have L : Laid r.toRowW.records w s s₁ args vs as := ⟨⟨ord, hord, hlaid⟩, hrd, hin, hold, keeps, hal.1.trans hgens, hal.2.2.1⟩
    have G₁ := G.keeps hXk keeps
    obtain ⟨a, o, pm, cd, doc, dV, kV, h1, h2, h3, h4, h5⟩ := G₁.fn hdef
    have hi := ident_freeW hu ha hap
    have hwi : r.toRowW.claim.within = [] := List.isEmpty_iff.mp k6
    have h := call w s s₁ _ _ G₁ (hYk _ _ _ (hY w s y) keeps) a h1 L.gens args vs as hpre L.reads
    refine ⟨vs, s₁, hlaid, wpM_bind (.of (wpAny_nsGet G₁.T.g ?_))⟩
    rw [h1]
    refine wpM_bind (wpM_mono h (fun v s' g => wpM_pure ⟨_, rfl, ?_⟩) fun e s' g => ?_)
    · have z := g.laid (c := r.toRowW.claim) hsame hwi hi L
      exact ⟨z.1, z.2.1, z.2.2, fun q => ⟨namesKept_of hT' hg _ keeps g.2.1.old, noTable hwr q⟩⟩
    · have z := g.laid (c := r.toRowW.claim) hsame hwi hi L
      exact ⟨z.1, z.2.1, z.2.2, fun q => ⟨namesKept_of hT' hg _ keeps g.2.1.old, noTable hwr q⟩⟩
  run_tac endC
end Mine
end

section
open PySem PySem.W PySem.Calls PyProof.Rows PySem.SeqAt
set_option maxRecDepth 100000
namespace Mine

section
variable {m : Bool} {prog : Program} {w : World} {F : Frag} {G : Str → Option Value} {base : Heap} {g : Array GenState} {os : OsState} {d : Nat} {r : Ev} {A : Around} {env : Env} {ns : List (Addr × Loc)} {loc : Loc} {σ : Store} {s : Shared} {K : KV} {X : KX}

noncomputable abbrev NS (env : Env) (loc : Loc) (ns : List (Addr × Loc)) : List (Addr × Loc) := (env.locals, loc) :: ns

theorem sub_tail {value slice : PySem.Expr} {o i : Value} {T id : String} {Q : Value → Shared → Prop} {E : Value → Shared → Prop} (hT : s.TypeIs o T)
    (hl : typeLookup (.type T) "__getitem__" = pure (some (.builtin id))) (h : wpAny (model prog w) A (getItem o i) Q E s) :
    wpAny (model prog w) A (do let r ← subscripted slice (← getitemInPython o) o i; letTemporaryGo value o r; pure r) Q E s := by
  run_tac beginC
  refine wpAny_bind ?_
  rw [getitemInPython_of_ne hT.not_modules]
  refine wpAny_bind (wpAny_specialOf hT hl ?_)
  refine wpAny_pure ?_
  have e : wpAny (model prog w) A (subscripted slice false o i) (fun r s' => wpAny (model prog w) A (letTemporaryGo value o r >>= fun _ => pure r) Q E s') E s := by
    have k : wpAny (model prog w) A (getItem o i) (fun r s' => wpAny (model prog w) A (letTemporaryGo value o r >>= fun _ => pure r) Q E s') E s :=
      wpAny_mono h (fun r s' q => wpAny_bind (wpAny_letTemporaryGo (wpAny_pure q))) fun _ _ x => x
    cases slice with
    | Slice l u st p => cases st <;> exact wpAny_operate' k
    | _ => exact wpAny_operate' k
  exact wpAny_bind e
  run_tac endC

theorem starEach_cons {e : PySem.Expr} {es : List PySem.Expr} (h : ∀ x p, e ≠ .Starred x p) : starEach (e :: es) env = (false, eval e env) :: starEach es env := by
  cases e <;> first | rfl | exact absurd rfl (h _ _)

theorem snd_Es (H : Snd m prog w F G g os d r) (T : Stat w F G base) (ok : Okk A env ns d) {pos : Pos} : ∀ (es : List PySem.Expr) (σ : Store) (s : Shared) (K : List Value → Store → Prop), Sit w.params base g os (NS env loc ns) σ s → r.Es env loc X es σ K →
    wpM m (model prog w) A (spliced (backTo pos (starEach es env))) (fun vs s' => ∃ σ', Sit w.params base g os (NS env loc ns) σ' s' ∧ vs.length = es.length ∧ K (vs.map er) σ') (PostX w.params base g os env.frame (NS env loc ns) X) s
  | [], σ, s, K, S, h => wpM_pure ⟨σ, S, rfl, h⟩
  | e :: es, σ, s, K, S, h => by
    rw [starEach_cons (fun x p q => by subst q; exact H.star _ _ _ _ _ _ _ h)]
    show wpM m _ _ (do let v ← eval e env; let here ← (pure [v] : Sem (List Value)); return here ++ (← holding here (spliced (backTo pos (starEach es env))))) _ _ _
    refine wpM_bind (wpM_mono (H.E _ T _ _ _ _ _ _ _ _ _ ok S h) (fun v s1 hq0 => ?_) fun _ _ x => x)
    obtain ⟨σ1, S1, h1⟩ := hq0
    refine wpM_bind (wpM_pure (wpM_bind (wpM_holding ?_)))
    exact wpM_mono (snd_Es H T ok es _ _ _ S1 h1) (fun vs s2 ⟨σ2, S2, hl, h2⟩ => wpM_pure ⟨σ2, S2, by simp [hl], h2⟩) fun _ _ x => x


theorem snd_BinOp (H : Snd m prog w F G g os d r) (T : Stat w F G base) (ok : Okk A env ns d) (S : Sit w.params base g os (NS env loc ns) σ s) {l q : PySem.Expr} {op : Operator} {pos : Pos}
    (h : r.E env l loc σ (fun a σ => r.E env q loc σ (fun b σ => binH op a b σ K) X) X) :
    wpM m (model prog w) A (eval (.BinOp l op q pos) env) (PostV w.params base g os (NS env loc ns) K) (PostX w.params base g os env.frame (NS env loc ns) X) s := by
  run_tac beginC
  rw [arm_eval_BinOp]
  refine wpM_bind (wpM_mono (H.E _ T _ _ _ _ _ _ _ _ _ ok S h) (fun v s1 hq0 => ?_) fun _ _ x => x)
  obtain ⟨σ1, S1, h1⟩ := hq0
  refine wpM_bind (wpM_holding (wpM_mono (H.E _ T _ _ _ _ _ _ _ _ _ ok S1 h1) (fun v s1 hq0 => ?_) fun _ _ x => x))
  obtain ⟨σ1, S1, h1⟩ := hq0
  exact wpM_bind (wpM_standAt (.of (wpAny_operate' (snd_bin S1 h1))))
  run_tac endC

theorem marked1 {op : CmpOp} {e : PySem.Expr} {t : Sem Value} (h : behindInMarks op e = false) : markedEach [op] [e] [t] = [t] := by
  unfold markedEach markedBehindIn
  rw [h]

theorem behind_no {op : CmpOp} {e : PySem.Expr} (h : opOk op = true) : behindInMarks op e = false := by
  run_tac beginC
  have q : (op == CmpOp.In || op == CmpOp.NotIn) = false := by cases op <;> first | rfl | (cases h; done)
  unfold behindInMarks
  cases e with
  | Set elts k p =>
    show (k == 0 && (op == CmpOp.In || op == CmpOp.NotIn) && _) = false
    rw [q, Bool.and_false, Bool.false_and]
  | _ => rfl
  run_tac endC

theorem Okk.cl (ok : Okk A env ns d) : A.units < cLine := by
  run_tac beginC
  have := ok.units
  unfold cLine
  (run_tac Mine.Lin.om)
  run_tac endC

noncomputable abbrev PV (w : World) (base : Heap) (g : Array GenState) (os : OsState) (env : Env) (loc : Loc) (ns : List (Addr × Loc)) (K : KV) : Value → Shared → Prop := PostV w.params base g os (NS env loc ns) K
noncomputable abbrev PX (w : World) (base : Heap) (g : Array GenState) (os : OsState) (env : Env) (loc : Loc) (ns : List (Addr × Loc)) (X : KX) : Value → Shared → Prop := PostX w.params base g os env.frame (NS env loc ns) X
noncomputable abbrev PT (w : World) (base : Heap) (g : Array GenState) (os : OsState) (env : Env) (loc : Loc) (ns : List (Addr × Loc)) (K : Bool → Store → Prop) : Bool → Shared → Prop := PostT w.params base g os (NS env loc ns) K

theorem snd_Compare (H : Snd m prog w F G g os d r) (T : Stat w F G base) (ok : Okk A env ns d) (S : Sit w.params base g os (NS env loc ns) σ s) {l q : PySem.Expr} {op : CmpOp} {pos : Pos} (ho : opOk op = true)
    (h : r.E env l loc σ (fun a σ => r.E env q loc σ (fun b σ => cmpH op a b σ fun t => K (.bool t) σ) X) X) :
    wpM m (model prog w) A (eval (.Compare l [op] [q] pos) env) (PV w base g os env loc ns K) (PX w base g os env loc ns X) s := by
  run_tac beginC
  rw [arm_eval_Compare]
  refine wpM_bind (wpM_mono (H.E _ T _ _ _ _ _ _ _ _ _ ok S h) (fun v s1 hq0 => ?_) fun _ _ x => x)
  obtain ⟨σ1, S1, h1⟩ := hq0
  rw [show evalEach [q] env = [eval q env] from rfl, marked1 (behind_no ho)]
  show wpM m _ _ (do let rv ← holding [v] (eval q env); standAt pos; operate [v, rv] (compareOp op v rv)) _ _ _
  refine wpM_bind (wpM_holding (wpM_mono (H.E _ T _ _ _ _ _ _ _ _ _ ok S1 h1) (fun v2 s2 hq0 => ?_) fun _ _ x => x))
  obtain ⟨σ2, S2, h2⟩ := hq0
  exact wpM_bind (wpM_standAt (.of (wpAny_operate' (snd_cmp ok.cl S2 h2 fun t k => ⟨σ2, S2, k⟩))))
  run_tac endC

theorem snd_IfExp (H : Snd m prog w F G g os d r) (T : Stat w F G base) (ok : Okk A env ns d) (S : Sit w.params base g os (NS env loc ns) σ s) {t a b : PySem.Expr} {pos : Pos}
    (h : r.T env t loc σ (fun q σ => match q with | true => r.E env a loc σ K X | false => r.E env b loc σ K X) X) :
    wpM m (model prog w) A (eval (.IfExp t a b pos) env) (PV w base g os env loc ns K) (PX w base g os env loc ns X) s := by
  run_tac beginC
  rw [arm_eval_IfExp]
  refine wpM_bind (wpM_mono (H.T _ T _ _ _ _ _ _ _ _ _ ok S h) (fun q s1 hq0 => ?_) fun _ _ x => x)
  obtain ⟨σ1, S1, h1⟩ := hq0
  cases q
  · exact H.E _ T _ _ _ _ _ _ _ _ _ ok S1 h1
  · exact H.E _ T _ _ _ _ _ _ _ _ _ ok S1 h1
  run_tac endC

theorem attrBase {o : PySem.Expr} {a : Str} {whole : Sem Value} (h : notCall o = true) : attributeBase o a env whole = whole := by
  run_tac beginC
  unfold attributeBase
  cases o <;> first | rfl | (cases h; done)
  run_tac endC

theorem snd_getAttr {x : Value} {name : Str} {Kv : Value → Prop} {Q : Value → Shared → Prop} {E : Value → Shared → Prop} {expr : Bool} {ns : List (Addr × Loc)} (T : Stat w F G base) (S : Sit w.params base g os ns σ s) (h : getAttrH F (er x) name σ Kv) (hq : ∀ v n, Kv (er v) → Q v { s with toks := n }) :
    wpAny (model prog w) A (getAttr x name expr) Q E s := by
  run_tac beginC
  cases x with
  | ref a =>
    cases q : σ a with
    | none => simp only [getAttrH, er, q] at h
    | some o =>
      cases o with
      | inst C dx => exact snd_getInst (o := .none) T S q h hq
      | exc C dx n =>
        cases dx with
        | some dx => exact snd_getExc T S q h hq
        | none => simp only [getAttrH, er, q] at h
      | _ => simp only [getAttrH, er, q] at h
  | _ => exact absurd h id
  run_tac endC

theorem snd_setAttr {x : Value} {name : Str} {u : Value} {Ks : Store → Prop} {Q : Unit → Shared → Prop} {E : Value → Shared → Prop} {ns : List (Addr × Loc)} (T : Stat w F G base) (S : Sit w.params base g os ns σ s) (h : setAttrH F (er x) name (er u) σ Ks) (hq : ∀ σ' s', Sit w.params base g os ns σ' s' → Ks σ' → Q () s') :
    wpAny (model prog w) A (setAttr x name u) Q E s := by
  run_tac beginC
  cases x with
  | ref a =>
    cases q : σ a with
    | none => simp only [setAttrH, er, q] at h
    | some o =>
      cases o with
      | inst C dx => exact snd_setInst T S q h hq
      | exc C dx n => exact snd_setExc T S q h hq
      | _ => simp only [setAttrH, er, q] at h
  | _ => exact absurd h id
  run_tac endC

theorem snd_Attribute (H : Snd m prog w F G g os d r) (T : Stat w F G base) (ok : Okk A env ns d) (S : Sit w.params base g os (NS env loc ns) σ s) {o : PySem.Expr} {a : Str} {pos : Pos} (hn : notCall o = true)
    (h : r.E env o loc σ (fun v σ => getAttrH F v a σ fun u => K u σ) X) :
    wpM m (model prog w) A (eval (.Attribute o a pos) env) (PV w base g os env loc ns K) (PX w base g os env loc ns X) s := by
  run_tac beginC
  rw [arm_eval_Attribute, attrBase hn]
  refine wpM_bind (wpM_mono (H.E _ T _ _ _ _ _ _ _ _ _ ok S h) (fun v s1 hq0 => ?_) fun _ _ x => x)
  obtain ⟨σ1, S1, h1⟩ := hq0
  refine wpM_bind (wpM_standAt (.of (wpAny_bind (wpAny_holding (snd_getAttr T S1 h1 fun u n k => ?_)))))
  exact wpAny_bind (wpAny_letTemporaryGo (wpAny_pure ⟨σ1, S1.toks, k⟩))
  run_tac endC

theorem snd_SubItem (H : Snd m prog w F G g os d r) (T : Stat w F G base) (ok : Okk A env ns d) (S : Sit w.params base g os (NS env loc ns) σ s) {v i : PySem.Expr} {pos : Pos}
    (h : r.E env v loc σ (fun a σ => r.E env i loc σ (fun b σ => getItemH a b σ fun u => K u σ) X) X) :
    wpM m (model prog w) A (eval (.Subscript v i pos) env) (PV w base g os env loc ns K) (PX w base g os env loc ns X) s := by
  run_tac beginC
  rw [arm_eval_Subscript]
  refine wpM_bind (wpM_mono (H.E _ T _ _ _ _ _ _ _ _ _ ok S h) (fun a s1 hq0 => ?_) fun _ _ x => x)
  obtain ⟨σ1, S1, h1⟩ := hq0
  refine wpM_bind (wpM_holding (wpM_mono (H.E _ T _ _ _ _ _ _ _ _ _ ok S1 h1) (fun b s2 hq0 => ?_) fun _ _ x => x))
  obtain ⟨σ2, S2, h2⟩ := hq0
  refine wpM_bind (wpM_standAt (.of ?_))
  obtain ⟨T, id, hl, hT, k⟩ := snd_item (prog := prog) (A := A) (E := PX w base g os env loc ns X) (Q := PV w base g os env loc ns K) S2 h2 fun u n k => ⟨σ2, S2.toks, k⟩
  exact sub_tail hT hl k
  run_tac endC

theorem snd_part (H : Snd m prog w F G g os d r) (T : Stat w F G base) (ok : Okk A env ns d) {l : Option PySem.Expr} {σ : Store} {s : Shared} {K : KV} (S : Sit w.params base g os (NS env loc ns) σ s) (h : optE r env loc l σ K X) :
    wpM m (model prog w) A (valueOrNone (evalOpt l env)) (PV w base g os env loc ns K) (PX w base g os env loc ns X) s := by
  run_tac beginC
  cases l with
  | none => exact wpM_pure ⟨σ, S, h⟩
  | some l => exact H.E _ T _ _ _ _ _ _ _ _ _ ok S h
  run_tac endC

theorem snd_SubSlice (H : Snd m prog w F G g os d r) (T : Stat w F G base) (ok : Okk A env ns d) (S : Sit w.params base g os (NS env loc ns) σ s) {v : PySem.Expr} {l u : Option PySem.Expr} {pos p2 : Pos}
    (h : r.E env v loc σ (fun a σ => optE r env loc l σ (fun lo σ => optE r env loc u σ (fun hi σ => getSliceH a lo hi σ K) X) X) X) :
    wpM m (model prog w) A (eval (.Subscript v (.Slice l u none p2) pos) env) (PV w base g os env loc ns K) (PX w base g os env loc ns X) s := by
  run_tac beginC
  rw [arm_eval_Subscript]
  refine wpM_bind (wpM_mono (H.E _ T _ _ _ _ _ _ _ _ _ ok S h) (fun a s1 hq0 => ?_) fun _ _ x => x)
  obtain ⟨σ1, S1, h1⟩ := hq0
  rw [arm_eval_Slice]
  refine wpM_bind (wpM_holding ?_)
  refine wpM_bind (wpM_mono (snd_part H T ok S1 h1) (fun lo s2 hq0 => ?_) fun _ _ x => x)
  obtain ⟨σ2, S2, h2⟩ := hq0
  refine wpM_bind (wpM_holding (wpM_mono (snd_part H T ok S2 h2) (fun hi s3 hq0 => ?_) fun _ _ x => x))
  obtain ⟨σ3, S3, h3⟩ := hq0
  refine wpM_bind (wpM_holding (wpM_pure ?_))
  show wpM m _ _ (newObj (.type "slice") (.fields #[lo, hi, .none])) _ _ _
  refine .of (wpAny_newObj_type ?_ (by size_fits))
  refine wpM_bind (wpM_standAt (.of ?_))
  obtain ⟨T, id, hl, hT, k⟩ := snd_slice (prog := prog) (A := A) (E := PX w base g os env loc ns X) S3 h3
  exact sub_tail hT hl k
  run_tac endC

theorem snd_Tuple (H : Snd m prog w F G g os d r) (T : Stat w F G base) (ok : Okk A env ns d) (S : Sit w.params base g os (NS env loc ns) σ s) {es : List PySem.Expr} {k : Nat} {pos : Pos} (hl : es.length ≤ 1000)
    (h : r.Es env loc X es σ fun vs σ => alloc (.tup vs) σ K) :
    wpM m (model prog w) A (eval (.Tuple es k pos) env) (PV w base g os env loc ns K) (PX w base g os env loc ns X) s := by
  run_tac beginC
  rw [arm_eval_Tuple]
  refine wpM_bind (wpM_standAt (wpM_bind (wpM_mono (snd_Es H T ok es _ _ _ S h) (fun vs s1 hq0 => ?_) fun _ _ x => x)))
  obtain ⟨σ1, S1, e, h1⟩ := hq0
  exact .of (wpAny_newTuple (snd_alloc_seq S1 rfl (o := .tup (vs.map er)) ⟨rfl, ⟨_, _, rfl, by simp⟩, by rw [List.length_map, e]; unfold LIM; (run_tac Mine.Lin.om)⟩ rfl h1) (by rw [e, sizeLine_eq]; (run_tac Mine.Lin.om)))
  run_tac endC

theorem snd_List (H : Snd m prog w F G g os d r) (T : Stat w F G base) (ok : Okk A env ns d) (S : Sit w.params base g os (NS env loc ns) σ s) {es : List PySem.Expr} {pos : Pos} (hl : es.length ≤ 1000)
    (h : r.Es env loc X es σ fun vs σ => alloc (.list vs) σ K) :
    wpM m (model prog w) A (eval (.List es pos) env) (PV w base g os env loc ns K) (PX w base g os env loc ns X) s := by
  run_tac beginC
  rw [arm_eval_List]
  refine wpM_bind (wpM_standAt (wpM_bind (wpM_mono (snd_Es H T ok es _ _ _ S h) (fun vs s1 hq0 => ?_) fun _ _ x => x)))
  obtain ⟨σ1, S1, e, h1⟩ := hq0
  exact .of (wpAny_newList (snd_alloc_seq S1 rfl (o := .list (vs.map er)) ⟨_, _, rfl, by simp, by rw [List.length_map, e]; unfold LIM; (run_tac Mine.Lin.om)⟩ rfl h1) (by rw [e, sizeLine_eq]; (run_tac Mine.Lin.om)))
  run_tac endC
end
end Mine
end

section
open PySem PySem.W PySem.Calls PyProof.Rows PySem.SeqAt
set_option maxRecDepth 100000
namespace Mine

/-- what may be called -/
noncomputable def Callable (F : Frag) (σ : Store) (f : Value) : Prop := match f with
  | .builtin _ | .type _ => True
  | .ref a => keepIn F f = true ∨ ∃ fd, σ a = some (.fn fd)
  | _ => False
noncomputable def CallOk (F : Frag) (cf : CallF) : Prop := ∀ f vs σ K X, cf f vs σ K X → Callable F σ f

section
variable {α β : Type} {m : Bool} {M : Model} {A : Around} {E : Value → Shared → Prop} {s : Shared}
theorem wpM_keep {vs : List Value} {t : Sem α} {Q : α → Shared → Prop} (h : wpM m M A t Q E s) : wpM m M A (t.keep vs) Q E s :=
  fun Γ p hΓ hc => by rw [Sem.wp_keep]; exact h Γ p hΓ hc
theorem wpM_operate {vs : List Value} {t : Sem Value} {Q : Value → Shared → Prop} (h : wpM m M A t Q E s) : wpM m M A (operate vs t) Q E s :=
  fun Γ p hΓ hc => by rw [Sem.wp_operate]; exact h Γ p hΓ hc
end

section
variable {m : Bool} {prog : Program} {w : World} {F : Frag} {G : Str → Option Value} {base : Heap} {g : Array GenState} {os : OsState} {d : Nat} {r : Ev} {A : Around} {env : Env} {ns : List (Addr × Loc)} {loc : Loc} {σ : Store} {s : Shared} {K : KV} {X : KX}

theorem plainArgs {pos : Pos} : ∀ {args : List PySem.Expr}, args.all noStar = true → (backTo pos (starEach args env)).any (·.1) = false ∧ (backTo pos (starEach args env)).all (!·.1) = true
  | [], _ => ⟨rfl, rfl⟩
  | e :: es, h => by
    rw [List.all_cons, Bool.and_eq_true] at h
    obtain ⟨i1, i2⟩ := plainArgs (pos := pos) h.2
    rw [starEach_cons (fun x p q => by subst q; exact absurd h.1 Bool.false_ne_true)]
    show (false || _) = false ∧ (true && _) = true
    exact ⟨by rw [Bool.false_or]; exact i1, by rw [Bool.true_and]; exact i2⟩

theorem snd_keeper {f : Value} {E : Value → Shared → Prop} {ns : List (Addr × Loc)} (T : Stat w F G base) (S : Sit w.params base g os ns σ s) (h : Callable F σ (er f)) {Q : Keeper → Shared → Prop} (hq : ∀ k, Q k s) :
    wpAny (model prog w) A (keeperOf f) Q E s := by
  run_tac beginC
  cases f with
  | builtin _ => exact wpAny_pure (hq _)
  | type _ => exact wpAny_pure (hq _)
  | ref a =>
    rcases h with h | ⟨fd, h⟩
    · obtain ⟨k, _, L⟩ := looks_keep (M := model prog w) h (T.kin.keeps S.stays)
      exact L.here (hq k)
    · obtain ⟨ob, e, rfl⟩ := S.rep _ _ h
      exact wpAny_bind (wpAny_load e (wpAny_pure (hq _)))
  | _ => exact absurd h id
  run_tac endC

theorem snd_args {f : Value} {args : List PySem.Expr} {pos : Pos} {Q : Args → Shared → Prop} {E : Value → Shared → Prop} (hs : args.all noStar = true)
    (h : wpM m (model prog w) A (spliced (backTo pos (starEach args env))) (fun vs s' => Q ⟨vs, []⟩ s') E s) : wpM m (model prog w) A (evalArgs f true (backTo pos (starEach args env)) []) Q E s := by
  run_tac beginC
  have fin : ∀ (l : List (Bool × Sem Value)), (∀ x, l ≠ [(true, x)]) → wpM m (model prog w) A (spliced l) (fun vs s' => Q ⟨vs, []⟩ s') E s → wpM m (model prog w) A (evalArgs f true l []) Q E s := by
    intro l hl h
    rcases l with _ | ⟨⟨b, x⟩, _ | ⟨y, z⟩⟩
    · unfold evalArgs
      refine wpM_bind (wpM_mono h (fun vs s' q => wpM_bind (wpM_pure ?_)) fun _ _ x => x)
      exact wpM_holding (wpM_bind (wpM_pure (wpM_bind (wpM_pure (wpM_pure q)))))
    · cases b
      · unfold evalArgs
        refine wpM_bind (wpM_mono h (fun vs s' q => wpM_bind (wpM_pure ?_)) fun _ _ x => x)
        exact wpM_holding (wpM_bind (wpM_pure (wpM_bind (wpM_pure (wpM_pure q)))))
      · exact absurd rfl (hl _)
    · cases b <;>
      · unfold evalArgs
        refine wpM_bind (wpM_mono h (fun vs s' q => wpM_bind (wpM_pure ?_)) fun _ _ x => x)
        exact wpM_holding (wpM_bind (wpM_pure (wpM_bind (wpM_pure (wpM_pure q)))))
  refine fin _ (fun x e => ?_) h
  have := (plainArgs (env := env) (pos := pos) hs).1
  rw [e] at this
  cases this
  run_tac endC

theorem snd_callWith (H : Snd m prog w F G g os d r) (T : Stat w F G base) {cf : CallF} (C : SndC m prog w F G g os d cf) (CO : CallOk F cf) (ok : Okk A env ns d) (S : Sit w.params base g os (NS env loc ns) σ s) {args : List PySem.Expr} {pos : Pos} {f : Value} {first : List Value}
    (hs : args.all noStar = true) (h : r.Es env loc X args σ fun vs σ => cf (er f) (first.map er ++ vs) σ K X) :
    wpM m (model prog w) A (callWith pos f first (backTo pos (starEach args env)) []) (PV w base g os env loc ns K) (PX w base g os env loc ns X) s := by
  run_tac beginC
  unfold callWith
  refine wpM_bind (wpM_holding (snd_args hs (wpM_mono (snd_Es H T ok args _ _ _ S h) (fun vs s1 hq0 => ?_) fun _ _ x => x)))
  obtain ⟨σ1, S1, _, h1⟩ := hq0
  refine wpM_bind (wpM_standAt ?_)
  obtain ⟨fr, outer, o1, o2, o3⟩ := ok.frames
  have k : wpM m (model prog w) A (call f (first ++ vs) []) (PV w base g os env loc ns K) (PX w base g os env loc ns X) s1 :=
    wpM_mono (C _ T A (NS env loc ns) σ1 f (first ++ vs) K X s1 _ ok.hd o1 o3 ok.depth ok.units S1 (by rw [List.map_append]; exact h1)) (fun _ _ x => x) fun _ _ x => x.left
  have tail : ∀ {t : Sem Value}, wpM m (model prog w) A t (PV w base g os env loc ns K) (PX w base g os env loc ns X) s1 → wpM m (model prog w) A (t >>= fun r => holding [r] point >>= fun _ => pure r) (PV w base g os env loc ns K) (PX w base g os env loc ns X) s1 :=
    fun ht => wpM_bind (wpM_mono ht (fun r s2 q => wpM_bind (wpM_holding (wpM_point (wpM_pure q)))) fun _ _ x => x)
  have hp : ((backTo pos (starEach args env)).any (·.1) || ([] : List (Option Str × Sem Value)).any (·.1.isNone)) = false := by rw [(plainArgs hs).1]; rfl
  simp only [hp]
  refine wpM_bind (.of (snd_keeper T S1 (CO _ _ _ _ _ h1) fun q => ?_))
  cases q <;> dsimp only <;> first | exact tail k | exact tail (wpM_operate k) | (split <;> first | exact tail k | exact tail (wpM_keep k))
  run_tac endC

theorem ve_init (F : Frag) : findCls F (.type "ValueError") (.type "type") "__init__" = some (.val (.builtin "ValueError.__init__")) := by kernel_rfl

theorem ve_meta : typeOf (.type "ValueError") = pure (.type "type") := by kernel_rfl
theorem ve_stub : Manifest.isStub "ValueError" = false := by decide +kernel
theorem ve_method {pl : Sem Bool} {Q : Value × List Value → Shared → Prop} {E : Value → Shared → Prop} {L : Addr} {mm : Str → Option Value} (h : s.heap.Ns L mm) (hq : Q (.builtin "ValueError.__init__", []) { s with toks := s.toks + 1 }) :
    wpAny (model prog w) A (getMethod (.type "ValueError") "__init__" pl) Q E s := by
  run_tac beginC
  have Fr0 : Fr ⟨#[], {}⟩ L s.heap mm := ⟨h, fun b o e => by simp [Heap.get?] at e, Nat.zero_le _⟩
  have X0 : Frag.In [] ⟨#[], {}⟩ := fun b o e => by cases e
  refine method_type (K := []) (T := "ValueError") (v := .builtin "ValueError.__init__") Fr0 X0 ?_ ?_ ?_ ?_ ?_
  · exact ve_meta
  · exact ve_stub
  · exact ve_init []
  · rfl
  · exact hq
  run_tac endC

theorem meth_of {C : Addr} {name : Str} {f : Addr} (h : methOf F C name = some f) : findIn F (.ref C) name = some (some (.ref f)) := by
  run_tac beginC
  unfold methOf at h
  split at h
  · rename_i q; cases h; exact q
  · cases h
  run_tac endC

theorem DRep.none {P : Params} {ents : List DictEntry} {es : List (Str × Value)} {name : Str} (r : DRep P ents es) (h : es.lookup name = none) : ents.find? (fun d => d.key.isStr name) = none := by
  run_tac beginC
  induction r with
  | nil => rfl
  | @cons e l x t v rr hk hh hv r ih =>
    rw [List.lookup_cons] at h
    cases q : name == x with
    | true => rw [q] at h; cases h
    | false =>
      rw [q] at h
      have ne : ¬ name = x := by simpa using q
      have e1 : e.key.isStr name = false := by rw [hk]; simp [Value.isStr]; first | exact ne | exact fun z => ne z.symm
      rw [List.find?_cons, e1]
      exact ih h
  run_tac endC
theorem shadow_none {P : Params} {ents : Array DictEntry} {es : List (Str × Value)} {n : Nat} {name : Str} (r : DRep P ents.toList es) (h : es.lookup name = none) : shadowIn (some { cls := .type "dict", data := .dict ents n }) name = some false := by
  run_tac beginC
  unfold shadowIn lookIn
  dsimp only
  rw [r.none h]
  dsimp only
  rw [r.noRef]
  rfl
  run_tac endC

namespace BA
theorem plainAttrs : PlainAttrs "bytearray" :=
  ⟨⟨"bytearray.__getattribute__", by rw [typeLookup_type, builtinLookup_eq_fast]; kernel_rfl, by decide +kernel⟩, by rw [typeLookup_type, builtinLookup_eq_fast]; kernel_rfl⟩
theorem slot_append : Slot "bytearray" "append" "bytearray.append" :=
  .of (owner := "bytearray") (n := "append") (by rw [typeLookup_type, builtinLookup_eq_fast]; kernel_rfl) (by decide +kernel) (by decide +kernel) (by decide +kernel)
    (by first | exact .inl (by decide +kernel) | exact .inr (by decide +kernel)) (by rw [isSubtype_type]; kernel_rfl)
theorem slot_extend : Slot "bytearray" "extend" "bytearray.extend" :=
  .of (owner := "bytearray") (n := "extend") (by rw [typeLookup_type, builtinLookup_eq_fast]; kernel_rfl) (by decide +kernel) (by decide +kernel) (by decide +kernel)
    (by first | exact .inl (by decide +kernel) | exact .inr (by decide +kernel)) (by rw [isSubtype_type]; kernel_rfl)
theorem type_append : typeOf (.builtin "bytearray.append") = pure (.type "method_descriptor") := by show builtinType _ = _; rw [builtinType_eq_fast]; kernel_rfl
theorem type_extend : typeOf (.builtin "bytearray.extend") = pure (.type "method_descriptor") := by show builtinType _ = _; rw [builtinType_eq_fast]; kernel_rfl
end BA

theorem snd_method {ov : Value} {name : Str} {pl : Sem Bool} {Km : Value → List Value → Prop} {Q : Value × List Value → Shared → Prop} {E : Value → Shared → Prop} (T : Stat w F G base) (S : Sit w.params base g os (NS env loc ns) σ s) (h : methH F (er ov) name σ Km)
    (hq : ∀ fx n, Km (er fx.1) (fx.2.map er) → Q fx { s with toks := n }) : wpAny (model prog w) A (getMethod ov name pl) Q E s := by
  run_tac beginC
  have X : F.In s.heap := T.kin.keeps S.stays
  cases ov with
  | type T' =>
    obtain ⟨rfl, rfl, h⟩ := h
    obtain ⟨⟨mm, hmm, _⟩, _⟩ := S.nsok _ (.head _)
    exact ve_method hmm (hq (_, _) _ h)
  | ref a =>
    replace h : (match clsIn F a, findCls F (.ref a) (.type "type") name with
          | some _, some (.val (.ref f)) => readsIn F a (.type "type") = true ∧ Km (.ref f) []
          | _, _ => False) ∨ (match σ a with
      | some (.inst C dx) => ∃ es, σ dx = some (.dict es) ∧ es.lookup name = none ∧ instOk F C = true ∧ (match methOf F C name with
          | some f => isFn F (.ref f) = true ∧ Km (.ref f) [.ref a]
          | none => False)
      | some (.list _) => name = "append" ∧ Km (.builtin "list.append") [.ref a]
      | some (.barr _) => (name = "append" ∧ Km (.builtin "bytearray.append") [.ref a]) ∨ (name = "extend" ∧ Km (.builtin "bytearray.extend") [.ref a])
      | _ => False) := h
    rcases h with h | h
    · generalize e1 : clsIn F a = y1 at h
      generalize e2 : findCls F (.ref a) (.type "type") name = y2 at h
      (run_tac invT `h)
      · rename_i f
        obtain ⟨hr, h⟩ := h
        have hr' := hr
        simp only [readsIn, Bool.and_eq_true, beq_iff_eq] at hr'
        refine method_cls X ?_ (cls_value X hr e2 rfl (hq (.ref f, []) _ h))
        unfold specialIn
        rw [hr'.1.1.1.2]
        exact hr'.1.1.2
    generalize q : σ a = y at h
    cases y with
    | none => exact False.elim h
    | some o =>
      cases o with
      | inst C dx =>
        obtain ⟨es, hd, hl, hi, h⟩ := h
        generalize hf : methOf F C name = y at h
        rcases y with _ | f
        · exact False.elim h
        · obtain ⟨hfn, h⟩ := h
          obtain ⟨k1, k2, k3, k4⟩ := instOk_of hi
          obtain ⟨ents, n, e1, e2, hr, hz, I⟩ := S.instAt q hd
          refine method_fn X I (plainGet_of k1).1 (plainGet_of k1).2 (meth_of hf) (beq_iff_eq.mp hfn) ?_ (hq (.ref f, [.ref a]) _ h)
          exact shadow_none hr hl
      | list vs =>
        obtain ⟨rfl, h⟩ := h
        obtain ⟨ob, e, items, n, rfl, hv, hl⟩ := S.rep _ _ q
        exact getMethod_list_append e rfl rfl (hq (.builtin "list.append", [.ref a]) _ h)
      | barr b =>
        obtain ⟨ob, e, rfl, hz⟩ := S.rep _ _ q
        rcases h with ⟨rfl, h⟩ | ⟨rfl, h⟩
        · exact getMethod_builtin (BA.typeIs e) BA.plainAttrs BA.slot_append BA.type_append (fun b eb => by cases eb; exact ⟨_, e, rfl⟩) (hq (.builtin "bytearray.append", [.ref a]) _ h)
        · exact getMethod_builtin (BA.typeIs e) BA.plainAttrs BA.slot_extend BA.type_extend (fun b eb => by cases eb; exact ⟨_, e, rfl⟩) (hq (.builtin "bytearray.extend", [.ref a]) _ h)
      | _ => exact False.elim h
  | _ => exact absurd h id
  run_tac endC
end
end Mine
end

section
open PySem PySem.W PySem.Calls PyProof.Rows PySem.SeqAt
set_option maxRecDepth 100000
namespace Mine

section
variable {m : Bool} {prog : Program} {w : World} {F : Frag} {G : Str → Option Value} {base : Heap} {g : Array GenState} {os : OsState} {d : Nat} {r : Ev} {A : Around} {env : Env} {ns : List (Addr × Loc)} {loc : Loc} {σ : Store} {s : Shared} {K : KV} {X : KX}

theorem snd_CallName (H : Snd m prog w F G g os d r) (T : Stat w F G base) {cf : CallF} (C : SndC m prog w F G g os d cf) (CO : CallOk F cf) (ok : Okk A env ns d) (S : Sit w.params base g os (NS env loc ns) σ s) {x : Str} {p pos : Pos} {args : List PySem.Expr}
    (hs : args.all noStar = true) (h : r.E env (.Name x p) loc σ (fun f σ => r.Es env loc X args σ fun vs σ => cf f vs σ K X) X) :
    wpM m (model prog w) A (eval (.Call (.Name x p) args [] pos) env) (PV w base g os env loc ns K) (PX w base g os env loc ns X) s := by
  run_tac beginC
  rw [arm_eval_Call_Name']
  refine wpM_bind (wpM_mono (H.E _ T _ _ _ _ _ _ _ _ _ ok S h) (fun f s1 hq0 => ?_) fun _ _ x => x)
  obtain ⟨σ1, S1, h1⟩ := hq0
  exact snd_callWith (first := []) H T C CO ok S1 hs h1
  run_tac endC

theorem snd_CallMeth (H : Snd m prog w F G g os d r) (T : Stat w F G base) {cf : CallF} (C : SndC m prog w F G g os d cf) (CO : CallOk F cf) (ok : Okk A env ns d) (S : Sit w.params base g os (NS env loc ns) σ s) {o : PySem.Expr} {name : Str} {apos pos : Pos} {args : List PySem.Expr}
    (hs : (notCall o && apos.endLine == pos.line && decide (args.length < 30) && args.all noStar) = true)
    (h : r.E env o loc σ (fun ov σ => methH F ov name σ fun f first => r.Es env loc X args σ fun vs σ => cf f (first ++ vs) σ K X) X) :
    wpM m (model prog w) A (eval (.Call (.Attribute o name apos) args [] pos) env) (PV w base g os env loc ns K) (PX w base g os env loc ns X) s := by
  run_tac beginC
  simp only [Bool.and_eq_true, decide_eq_true_eq] at hs
  obtain ⟨⟨⟨h1, h2⟩, h3⟩, h4⟩ := hs
  rw [arm_eval_Call, attrBase h1]
  refine wpM_bind (wpM_mono (H.E _ T _ _ _ _ _ _ _ _ _ ok S h) (fun ov s1 hq0 => ?_) fun _ _ x => x)
  obtain ⟨σ1, S1, k1⟩ := hq0
  refine wpM_bind (wpM_standAt ?_)
  have few : methodCallForm (args.length + ([] : List Keyword).length) (backTo pos (starEach args env)) (backToKw pos (keywordEach [] env)) = true := by
    unfold methodCallForm
    rw [(plainArgs h4).2]
    show (true && true && decide (args.length + 0 + 0 < 30)) = true
    simpa using h3
  unfold methodCall
  rw [few]
  refine wpM_bind (wpM_holding (.of ?_))
  show wpAny _ _ (getMethod ov name _) _ _ _
  refine snd_method T S1 k1 fun fx n k2 => ?_
  have mp : methodCallPos true o env apos pos = pure pos := by unfold methodCallPos; rw [h2]; rfl
  rw [mp]
  refine wpM_bind (wpM_pure ?_)
  exact snd_callWith H T C CO ok S1.toks h4 k2
  run_tac endC

theorem snd_Not (H : Snd m prog w F G g os d r) (T : Stat w F G base) (ok : Okk A env ns d) (S : Sit w.params base g os (NS env loc ns) σ s) {x : PySem.Expr} {pos : Pos} {K : Bool → Store → Prop} {whole : Sem Value}
    (h : r.T env x loc σ (fun b σ => K (!b) σ) X) : wpM m (model prog w) A (isTrue (.UnaryOp .Not x pos) env whole) (PT w base g os env loc ns K) (PX w base g os env loc ns X) s := by
  run_tac beginC
  rw [arm_isTrue_UnaryOp]
  exact wpM_bind (wpM_mono (H.T _ T _ _ _ _ _ _ _ _ _ ok S h) (fun b s1 ⟨σ1, S1, h1⟩ => wpM_pure ⟨σ1, S1, h1⟩) fun _ _ x => x)
  run_tac endC

theorem snd_And2 (H : Snd m prog w F G g os d r) (T : Stat w F G base) (ok : Okk A env ns d) (S : Sit w.params base g os (NS env loc ns) σ s) {a b : PySem.Expr} {pos : Pos} {K : Bool → Store → Prop} {whole : Sem Value}
    (h : r.T env a loc σ (fun q σ => match q with | true => r.T env b loc σ K X | false => K false σ) X) :
    wpM m (model prog w) A (isTrue (.BoolOp .And [a, b] pos) env whole) (PT w base g os env loc ns K) (PX w base g os env loc ns X) s := by
  run_tac beginC
  rw [arm_isTrue_BoolOp, arm_allTrue_cons]
  refine wpM_bind (wpM_mono (H.T _ T _ _ _ _ _ _ _ _ _ ok S h) (fun q s1 hq0 => ?_) fun _ _ x => x)
  obtain ⟨σ1, S1, h1⟩ := hq0
  cases q
  · exact wpM_pure ⟨σ1, S1, h1⟩
  · show wpM m _ _ (allTrue .And [b] env) _ _ _
    rw [arm_allTrue_cons]
    refine wpM_bind (wpM_mono (H.T _ T _ _ _ _ _ _ _ _ _ ok S1 h1) (fun q s2 hq0 => ?_) fun _ _ x => x)
    obtain ⟨σ2, S2, h2⟩ := hq0
    cases q <;> exact wpM_pure ⟨σ2, S2, h2⟩
  run_tac endC

theorem snd_Or1 (H : Snd m prog w F G g os d r) (T : Stat w F G base) (ok : Okk A env ns d) (S : Sit w.params base g os (NS env loc ns) σ s) {a : PySem.Expr} {K : Bool → Store → Prop}
    (h : r.T env a loc σ K X) : wpM m (model prog w) A (allTrue .Or [a] env) (PT w base g os env loc ns K) (PX w base g os env loc ns X) s := by
  run_tac beginC
  rw [arm_allTrue_cons]
  refine wpM_bind (wpM_mono (H.T _ T _ _ _ _ _ _ _ _ _ ok S h) (fun q s2 hq0 => ?_) fun _ _ x => x)
  obtain ⟨σ2, S2, h2⟩ := hq0
  cases q <;> exact wpM_pure ⟨σ2, S2, h2⟩
  run_tac endC
theorem snd_OrC (H : Snd m prog w F G g os d r) (T : Stat w F G base) (ok : Okk A env ns d) (S : Sit w.params base g os (NS env loc ns) σ s) {a : PySem.Expr} {es : List PySem.Expr} {K : Bool → Store → Prop}
    {P : Store → Prop} (h : r.T env a loc σ (fun q σ => match q with | true => K true σ | false => P σ) X)
    (k : ∀ σ s, Sit w.params base g os (NS env loc ns) σ s → P σ → wpM m (model prog w) A (allTrue .Or es env) (PT w base g os env loc ns K) (PX w base g os env loc ns X) s) :
    wpM m (model prog w) A (allTrue .Or (a :: es) env) (PT w base g os env loc ns K) (PX w base g os env loc ns X) s := by
  run_tac beginC
  rw [arm_allTrue_cons]
  refine wpM_bind (wpM_mono (H.T _ T _ _ _ _ _ _ _ _ _ ok S h) (fun q s2 hq0 => ?_) fun _ _ x => x)
  obtain ⟨σ2, S2, h2⟩ := hq0
  cases q
  · exact k _ _ S2 h2
  · exact wpM_pure ⟨σ2, S2, h2⟩
  run_tac endC

theorem snd_T1 (H : Snd m prog w F G g os d r) (T : Stat w F G base) (ok : Okk A env ns d) (S : Sit w.params base g os (NS env loc ns) σ s) {l q : PySem.Expr} {op : CmpOp} {pos : Pos} {K : Bool → Store → Prop} {whole : Sem Value} (ho : opOk op = true)
    (h : r.E env l loc σ (fun a σ => r.E env q loc σ (fun b σ => cmpH op a b σ fun t => K t σ) X) X) :
    wpM m (model prog w) A (isTrue (.Compare l [op] [q] pos) env whole) (PT w base g os env loc ns K) (PX w base g os env loc ns X) s := by
  run_tac beginC
  rw [arm_isTrue_Compare]
  refine wpM_bind (wpM_mono (H.E _ T _ _ _ _ _ _ _ _ _ ok S h) (fun v s1 hq0 => ?_) fun _ _ x => x)
  obtain ⟨σ1, S1, h1⟩ := hq0
  rw [show evalEach [q] env = [eval q env] from rfl, marked1 (behind_no ho)]
  show wpM m _ _ (do let rv ← holding [v] (eval q env); standAt pos; let c ← operate [v, rv] (compareOp op v rv); holding [c] (truthy c)) _ _ _
  refine wpM_bind (wpM_holding (wpM_mono (H.E _ T _ _ _ _ _ _ _ _ _ ok S1 h1) (fun v2 s2 hq0 => ?_) fun _ _ x => x))
  obtain ⟨σ2, S2, h2⟩ := hq0
  refine wpM_bind (wpM_standAt (.of (wpAny_bind (wpAny_operate' (snd_cmp ok.cl S2 h2 fun t k => ?_)))))
  exact wpAny_holding (wpAny_truthy_bool ⟨σ2, S2, k⟩)
  run_tac endC

theorem snd_T2 (H : Snd m prog w F G g os d r) (T : Stat w F G base) (ok : Okk A env ns d) (S : Sit w.params base g os (NS env loc ns) σ s) {l q q' : PySem.Expr} {op op' : CmpOp} {pos : Pos} {K : Bool → Store → Prop} {whole : Sem Value} (ho : (opOk op && opOk op') = true)
    (h : r.E env l loc σ (fun a σ => r.E env q loc σ (fun b σ => cmpH op a b σ fun t => match t with
      | true => r.E env q' loc σ (fun c σ => cmpH op' b c σ fun t => K t σ) X
      | false => K false σ) X) X) :
    wpM m (model prog w) A (isTrue (.Compare l [op, op'] [q, q'] pos) env whole) (PT w base g os env loc ns K) (PX w base g os env loc ns X) s := by
  run_tac beginC
  rw [Bool.and_eq_true] at ho
  rw [arm_isTrue_Compare]
  refine wpM_bind (wpM_mono (H.E _ T _ _ _ _ _ _ _ _ _ ok S h) (fun v s1 hq0 => ?_) fun _ _ x => x)
  obtain ⟨σ1, S1, h1⟩ := hq0
  have mk : markedEach [op, op'] [q, q'] (evalEach [q, q'] env) = [eval q env, eval q' env] := by
    show eval q env :: markedEach [op'] [q'] [eval q' env] = _
    rw [marked1 (behind_no ho.2)]
  rw [mk]
  show wpM m _ _ (do
    let rv ← holding [v] (eval q env)
    standAt pos
    let c ← holding [v, rv] (compareOp op v rv)
    release [v, rv] [c]
    if ← holding [c, rv] (truthy c) then testChain pos rv [op'] [eval q' env] else pure false) _ _ _
  refine wpM_bind (wpM_holding (wpM_mono (H.E _ T _ _ _ _ _ _ _ _ _ ok S1 h1) (fun v2 s2 hq0 => ?_) fun _ _ x => x))
  obtain ⟨σ2, S2, h2⟩ := hq0
  refine wpM_bind (wpM_standAt (wpM_bind (wpM_holding (.of (snd_cmp ok.cl S2 h2 fun t k => ?_)))))
  refine wpM_bind (.of (wpAny_release' (wpM_bind (wpM_holding (.of (wpAny_truthy_bool ?_))))))
  cases t
  · exact wpM_pure ⟨σ2, S2, k⟩
  · show wpM m _ _ (do let rv ← holding [v2] (eval q' env); standAt pos; let c ← operate [v2, rv] (compareOp op' v2 rv); holding [c] (truthy c)) _ _ _
    refine wpM_bind (wpM_holding (wpM_mono (H.E _ T _ _ _ _ _ _ _ _ _ ok S2 k) (fun v3 s3 hq0 => ?_) fun _ _ x => x))
    obtain ⟨σ3, S3, h3⟩ := hq0
    refine wpM_bind (wpM_standAt (.of (wpAny_bind (wpAny_operate' (snd_cmp ok.cl S3 h3 fun t k => ?_)))))
    exact wpAny_holding (wpAny_truthy_bool ⟨σ3, S3, k⟩)
  run_tac endC

theorem snd_TName (H : Snd m prog w F G g os d r) (T : Stat w F G base) (ok : Okk A env ns d) (S : Sit w.params base g os (NS env loc ns) σ s) {x : Str} {p : Pos} {K : Bool → Store → Prop}
    (h : r.E env (.Name x p) loc σ (fun v σ => match v with | .bool b => K b σ | _ => False) X) :
    wpM m (model prog w) A (isTrue (.Name x p) env (eval (.Name x p) env)) (PT w base g os env loc ns K) (PX w base g os env loc ns X) s := by
  run_tac beginC
  show wpM m _ _ (do let v ← eval (.Name x p) env; standAt p; holding [v] (truthy v)) _ _ _
  refine wpM_bind (wpM_mono (H.E _ T _ _ _ _ _ _ _ _ _ ok S h) (fun v s1 hq0 => ?_) fun _ _ x => x)
  obtain ⟨σ1, S1, h1⟩ := hq0
  try dsimp only at h1
  split at h1
  · rename_i b e
    rw [er_bool e]
    exact wpM_bind (wpM_standAt (wpM_holding (.of (wpAny_truthy_bool ⟨σ1, S1, h1⟩))))
  · cases h1
  run_tac endC

/-- a field's text -/
theorem snd_field {v : Value} {Kt : Str → Prop} {Q : Value → Shared → Prop} {E : Value → Shared → Prop} (h : fieldH (er v) Kt) (hq : ∀ x t n, x.length ≤ 100 → Kt x → Q (.str x t) { s with toks := n }) : wpAny (model prog w) A (formatField v Str.empty) Q E s := by
  run_tac beginC
  unfold fieldH at h
  split at h
  · rename_i i _ e
    obtain ⟨t, rfl⟩ := er_int e
    obtain ⟨hi, h⟩ := h
    have hl := int_text_length_le10 (a := i) (k := 12) (by decide) hi
    refine wpAny_formatField_int ?_ (hq _ _ _ ?_ h)
    · by_cases h0 : i.natAbs = 0
      · rw [h0]; decide
      · exact (Nat.log2_lt h0).mpr (Nat.lt_of_lt_of_le hi (by decide +kernel))
    · rw [PySem.ofString_length]
      show (toString i).length ≤ 100
      (run_tac Mine.Lin.om)
  · rename_i x _ e
    obtain ⟨t, rfl⟩ := er_str e
    obtain ⟨hl, h⟩ := h
    exact wpAny_formatField_str (hq _ _ s.toks hl h) (hq _ _ _ hl h) (Nat.le_trans hl (by rw [sizeLine_eq]; decide))
  · cases h
  run_tac endC

theorem asStr_str {M : Model} {E : Value → Shared → Prop} {x : Str} {t : Tok} {Q : Option Str → Shared → Prop} (h : Q (some x) s) : wpAny M A (asStr? (.str x t)) Q E s := wpAny_pure h

theorem snd_join (H : Snd m prog w F G g os d r) (T : Stat w F G base) (ok : Okk A env ns d) : ∀ (es : List PySem.Expr) (acc : Str) (σ : Store) (s : Shared) (K : Str → Store → Prop), acc.length + 100 * es.length ≤ 10000 → Sit w.params base g os (NS env loc ns) σ s → joinH r env loc X es σ K →
    wpM m (model prog w) A (joinParts acc (evalEach es env)) (fun v s' => ∃ x t σ', v = .str (acc ++ x) t ∧ Sit w.params base g os (NS env loc ns) σ' s' ∧ K x σ') (PX w base g os env loc ns X) s := by
  run_tac beginC
  intro es
  induction es with
  | nil =>
    intro acc σ s K hl S h
    exact .of (wpAny_mkStr ⟨_, _, σ, by rw [Str.append_empty], S.toks, h⟩ (by rw [sizeLine_eq]; simp only [List.length_nil] at hl; (run_tac Mine.Lin.om)))
  | cons e es ih =>
    intro acc σ s K hl S h
    rw [List.length_cons] at hl
    have step : ∀ (x : Str) (σ1 : Store) (s1 : Shared), x.length ≤ 100 → Sit w.params base g os (NS env loc ns) σ1 s1 → (joinH r env loc X es σ1 fun t σ => K (x ++ t) σ) →
        wpM m (model prog w) A (if acc.length + x.length > sizeLine then unsupported "str:memory" else joinParts (acc ++ x) (evalEach es env)) (fun v s' => ∃ x t σ', v = .str (acc ++ x) t ∧ Sit w.params base g os (NS env loc ns) σ' s' ∧ K x σ') (PX w base g os env loc ns X) s1 := by
      intro x σ1 s1 hx S1 h1
      rw [if_neg (by rw [sizeLine_eq]; (run_tac Mine.Lin.om))]
      refine wpM_mono (ih (acc ++ x) σ1 s1 _ (by rw [strLen_append]; (run_tac Mine.Lin.om)) S1 h1) (fun v s2 ⟨y, t, σ2, e, S2, k⟩ => ⟨x ++ y, t, σ2, by rw [e, Str.append_assoc], S2, k⟩) fun _ _ x => x
    rw [arm_evalEach_cons]
    unfold joinParts
    replace h : joinStep r env loc X e (joinH r env loc X es) σ K := h
    unfold joinStep at h
    (run_tac invT `h)
    rotate_left
    · rename_i x
      obtain ⟨hx, h⟩ := h
      rw [arm_eval_Constant]
      refine wpM_bind (.of (wpAny_mkText ?_))
      exact wpM_bind (.of (asStr_str (step x _ _ hx S.toks h)))
    · obtain ⟨rfl, h⟩ := h
      rw [arm_eval_FormattedValue]
      refine wpM_bind (wpM_bind (wpM_mono (H.E _ T _ _ _ _ _ _ _ _ _ ok S h) (fun v s1 hq0 => ?_) fun _ _ x => x))
      obtain ⟨σ1, S1, h1⟩ := hq0
      refine wpM_bind (wpM_standAt ?_)
      refine wpM_bind (wpM_holding (wpM_pure ?_))
      refine .of (snd_field h1 fun x t n hx k => ?_)
      exact wpM_bind (.of (asStr_str (step x σ1 _ hx S1.toks k)))
  run_tac endC

theorem snd_JoinedStr (H : Snd m prog w F G g os d r) (T : Stat w F G base) (ok : Okk A env ns d) (S : Sit w.params base g os (NS env loc ns) σ s) {es : List PySem.Expr} {pos : Pos} (hl : (decide (2 ≤ es.length) && decide (es.length ≤ 20)) = true)
    (h : joinH r env loc X es σ fun s σ => K (vS s) σ) : wpM m (model prog w) A (eval (.JoinedStr es pos) env) (PV w base g os env loc ns K) (PX w base g os env loc ns X) s := by
  run_tac beginC
  simp only [Bool.and_eq_true, decide_eq_true_eq] at hl
  rw [arm_eval_JoinedStr]
  have e : joinedStr (evalEach es env) = joinParts Str.empty (evalEach es env) := by
    match es, hl with
    | a :: b :: r, _ => rfl
  rw [e]
  exact wpM_mono (snd_join H T ok es Str.empty σ s _ (by show 0 + _ ≤ _; (run_tac Mine.Lin.om)) S h) (fun v s' ⟨x, t, σ', q, S', k⟩ => ⟨σ', S', by rw [q, Str.empty_append]; exact k⟩) fun _ _ x => x
  run_tac endC
end
end Mine
end

section
open PySem PySem.W PySem.Calls PyProof.Rows PySem.SeqAt
set_option maxRecDepth 100000
namespace Mine

/-! iterators: objects of the walk's own, never told of -/

noncomputable def ItAt (h : Heap) (I : Addr) (g : Store → Prop) (xs : List Value) : Prop :=
  (∃ a i vs, h.IsListIter I a i ∧ (g = fun σ => σ a = some (.list vs)) ∧ xs = vs.drop i) ∨
  (∃ x left, IsRangeIter h I x left 1 ∧ (g = fun _ => True) ∧ 0 ≤ left ∧ left < 2 ^ 62 ∧ xs = rangeItems x (x + left))

noncomputable def ItAt.obj {h : Heap} {I : Addr} {g : Store → Prop} {xs : List Value} (x : ItAt h I g xs) : ∃ o, h.get? I = some o ∧ o.cls ≠ .type "list" ∧ ∀ h', h'.get? I = some o → ItAt h' I g xs := by
  rcases x with ⟨a, i, vs, ⟨o, e, c, dd⟩, r⟩ | ⟨x, left, e, r⟩
  · exact ⟨o, e, by rw [c]; decide, fun h' e' => .inl ⟨a, i, vs, ⟨o, e', c, dd⟩, r⟩⟩
  · exact ⟨_, e, by intro z; simp at z, fun h' e' => .inr ⟨x, left, e', r⟩⟩

section
variable {P : Params} {base : Heap} {g : Array GenState} {os : OsState} {ns : List (Addr × Loc)} {σ : Store} {s : Shared}

/-- an address that nothing tells of -/
structure Prv (base : Heap) (ns : List (Addr × Loc)) (σ : Store) (I : Addr) : Prop where
  b : base.get? I = none
  n : I ∉ ns.map (·.1)
  o : σ I = none

theorem Sit.prv (S : Sit P base g os ns σ s) {I : Addr} (h : s.heap.get? I = none) : Prv base ns σ I := ⟨S.base_none h, S.notNs h, S.free h⟩
/-- what the base holds is not told of, but for the lists that nobody turns -/
theorem Sit.held (S : Sit P base g os ns σ s) {I : Addr} {o : Obj} (h : base.get? I = some o) (hc : o.cls ≠ .type "list") : σ I = none ∧ I ∉ ns.map (·.1) ∧ s.heap.get? I = some o := by
  run_tac beginC
  have e := S.stays I o h
  refine ⟨?_, fun hm => ?_, e⟩
  · cases q : σ I with
    | none => rfl
    | some t =>
      cases r : t.isRo with
      | false => rw [S.own I t q r] at h; cases h
      | true =>
        cases t <;> first | (cases r; done) | skip
        obtain ⟨ob, e', c, _⟩ := S.rep I _ q
        rw [e] at e'; cases e'
        exact absurd c hc
  · obtain ⟨p, hp, rfl⟩ := List.mem_map.mp hm
    rw [(S.nsok p hp).2.1] at h; cases h
  run_tac endC
end

section
variable {prog : Program} {w : World} {F : Frag} {G : Str → Option Value} {base : Heap} {g : Array GenState} {os : OsState} {A : Around} {ns : List (Addr × Loc)} {σ : Store} {s : Shared}

theorem rangeItems_cons {x left : Int} (h : 0 < left) : rangeItems x (x + left) = vI x :: rangeItems (x + 1) (x + 1 + (left - 1)) := by
  run_tac beginC
  obtain ⟨n, rfl⟩ := Int.eq_ofNat_of_zero_le (Int.le_of_lt h)
  obtain ⟨m, rfl⟩ := Nat.exists_eq_succ_of_ne_zero (by (run_tac Mine.Lin.om) : n ≠ 0)
  unfold rangeItems
  have e1 : (x + ((m + 1 : Nat) : Int) - x).toNat = m + 1 := by (run_tac Mine.Lin.om)
  have e2 : (x + 1 + (((m + 1 : Nat) : Int) - 1) - (x + 1)).toNat = m := by (run_tac Mine.Lin.om)
  rw [e1, e2, List.range_succ_eq_map, List.map_cons, List.map_map]
  congr 1
  · simp
  · refine List.map_congr_left fun k _ => ?_
    simp only [Function.comp, vI, Value.int.injEq, and_true]
    (run_tac Mine.Lin.om)
  run_tac endC
theorem rangeItems_nil {x left : Int} (h : left ≤ 0) : rangeItems x (x + left) = [] := by
  run_tac beginC
  unfold rangeItems
  rw [show (x + left - x).toNat = 0 by (run_tac Mine.Lin.om)]
  rfl
  run_tac endC

theorem snd_iter {v : Value} {Ki : List Value → (Store → Prop) → Prop} {Q : Value → Shared → Prop} {E : Value → Shared → Prop} (S : Sit w.params base g os ns σ s) (h : iterH (er v) σ Ki)
    (hq : ∀ I gd xs s', s.heap.get? I = none → Sit w.params base g os ns σ s' → ItAt s'.heap I gd xs → Ki xs gd → Q (.ref I) s') : wpAny (model prog w) A (pyIter v) Q E s := by
  run_tac beginC
  unfold iterH at h
  split at h
  · rename_i a e
    cases er_ref e
    split at h
    · rename_i vs q
      obtain ⟨items, hl, hv, hz⟩ := S.listAt (.inl q)
      refine wpAny_pyIter_list hl (hq _ _ _ _ (Heap.get?_none_of_le (Nat.le_refl _)) (S.keeps (fun b x e => Heap.get?_push_of_some _ e) rfl rfl) ?_ h)
      exact .inl ⟨a, 0, vs, ⟨_, Heap.get?_push_size _ rfl, rfl, rfl⟩, rfl, rfl⟩
    · rename_i lo hi q
      obtain ⟨ob, e, ⟨t, u, v', rfl⟩, b1, b2, b3, b4⟩ := S.rep _ _ q
      refine wpAny_pyIter_range e ?_ (hq _ _ _ _ (Heap.get?_none_of_le (Nat.le_refl _)) (S.keeps (fun b x e => Heap.get?_push_of_some _ e) rfl rfl) ?_ h)
      · exact small_one (by (run_tac Mine.Lin.om)) (by (run_tac Mine.Lin.om)) (by (run_tac Mine.Lin.om)) (by (run_tac Mine.Lin.om))
      · refine .inr ⟨lo, Builtin.Range.rangeSize lo hi 1, Heap.get?_push_size _ rfl, rfl, ?_, ?_, ?_⟩
        · rw [rangeSize_one]; split <;> (run_tac Mine.Lin.om)
        · rw [rangeSize_one]; split <;> (run_tac Mine.Lin.om)
        · unfold rangeItems
          have : (lo + Builtin.Range.rangeSize lo hi 1 - lo).toNat = (hi - lo).toNat := by rw [rangeSize_one]; split <;> (run_tac Mine.Lin.om)
          rw [this]
    · cases h
  · cases h
  run_tac endC

theorem snd_next {I : Addr} {gd : Store → Prop} {xs : List Value} {Q : Option Value → Shared → Prop} {E : Value → Shared → Prop} (hh : A.handled = none) (S : Sit w.params base g os ns σ s) (p : Prv base ns σ I) (it : ItAt s.heap I gd xs) (hg : gd σ)
    (hnil : ∀ s', xs = [] → Sit w.params base g os ns σ s' → Q none s')
    (hcons : ∀ v ys s', xs = er v :: ys → Sit w.params base g os ns σ s' → ItAt s'.heap I gd ys → Q (some v) s') : wpAny (model prog w) A (pyNext (.ref I)) Q E s := by
  run_tac beginC
  rcases it with ⟨a, i, vs, hi, rfl, rfl⟩ | ⟨x, left, hi, rfl, hl, hm, rfl⟩
  · obtain ⟨items, hl, hv, hz⟩ := S.listAt (.inl hg)
    cases q : items[i]? with
    | none =>
      refine wpAny_pyNext_list_end hh hi hl q fun h' hx => hnil _ ?_ (S.extBut (s' := { s with heap := h' }) hx p.b p.n p.o rfl rfl)
      have : items.size ≤ i := by rw [Array.getElem?_eq_none_iff] at q; exact q
      rw [sz_of hv] at this
      exact List.drop_of_length_le this
    | some v =>
      refine wpAny_pyNext_list_item hi hl q fun h' hi' hx => hcons v (vs.drop (i + 1)) _ ?_ (S.extBut (s' := { s with heap := h' }) hx.extBut p.b p.n p.o rfl rfl) (.inl ⟨a, i + 1, vs, hi', rfl, rfl⟩)
      have e : vs[i]? = some (er v) := by
        rw [← hv, List.getElem?_map]
        have : items.toList[i]? = some v := by simpa using q
        rw [this]; rfl
      obtain ⟨hlt, he⟩ := List.getElem?_eq_some_iff.mp e
      rw [List.drop_eq_getElem_cons hlt, he]
  · by_cases h0 : 0 < left
    · refine wpAny_pyNext_range_item hi h0 fun h' hi' hx => hcons _ _ _ (rangeItems_cons h0) (S.extBut (s' := { s with heap := h', toks := s.toks + 1 }) hx.extBut p.b p.n p.o rfl rfl) (.inr ⟨_, _, hi', rfl, by (run_tac Mine.Lin.om), by (run_tac Mine.Lin.om), rfl⟩)
    · exact wpAny_pyNext_range_end hh hi (by (run_tac Mine.Lin.om)) fun h' hx => hnil _ (rangeItems_nil (by (run_tac Mine.Lin.om))) (S.extBut (s' := { s with heap := h' }) hx p.b p.n p.o rfl rfl)
  run_tac endC
end
end Mine
end

section
open PySem PySem.W PySem.Calls PyProof.Rows PySem.SeqAt
set_option maxRecDepth 100000
namespace Mine

theorem forIn_cells {env : Env} {f : Str × NameKind → List (Str × Addr) → Sem (ForInStep (List (Str × Addr)))} (hf : ∀ n k cs, f (n, k) cs = if (k == NameKind.free) = true then (cellOf env n >>= fun a => pure (.yield ((n, a) :: cs))) else pure (.yield cs)) :
    ∀ (l : List (Str × NameKind)) (cs : List (Str × Addr)), (l.all fun x => match x.2 with
      | .free => (env.cells.lookup x.1).isSome
      | .cell => false
      | _ => true) = true → forIn l cs f = (pure (l.foldl (fun cs x => match x.2, env.cells.lookup x.1 with
        | .free, some a => (x.1, a) :: cs
        | _, _ => cs) cs) : Sem _)
  | [], cs, _ => rfl
  | (n, k) :: l, cs, h => by
    rw [List.all_cons, Bool.and_eq_true] at h
    rw [List.forIn_cons, hf, List.foldl_cons]
    dsimp only at h ⊢
    cases k with
    | free =>
      obtain ⟨a, e⟩ := Option.isSome_iff_exists.mp h.1
      rw [if_pos (by decide)]
      unfold cellOf
      rw [e]
      exact forIn_cells hf l _ h.2
    | cell => exact absurd h.1 Bool.false_ne_true
    | _ =>
      rw [if_neg (by decide)]
      exact forIn_cells hf l _ h.2

theorem closure_cells {env : Env} {scope : Scope} (h : cellsThere env scope = true) : closureFor scope env = pure (cellsOfH env scope) := by
  run_tac beginC
  simp only [closureFor]
  rw [forIn_cells (env := env) (fun n k cs => ?_) scope.names [] h]
  · rfl
  · rfl
  run_tac endC

section
variable {m : Bool} {prog : Program} {w : World} {F : Frag} {G : Str → Option Value} {base : Heap} {g : Array GenState} {os : OsState} {d : Nat} {r : Ev} {A : Around} {env : Env} {ns : List (Addr × Loc)} {loc : Loc} {σ : Store} {s : Shared} {K : KV} {X : KX}

theorem codeFields_inv {o : Option Obj} {vs : Array Value} (h : codeFields o = some vs) : ∃ d sl, o = some ⟨.type "code", d, .fields vs, sl⟩ := by
  run_tac beginC
  unfold codeFields at h
  (run_tac invT `h)
  generalize q : (_ == ("code" : String)) = y at h
  rcases y with _ | _
  · cases h
  · cases h
    cases eq_of_beq q
    exact ⟨_, _, rfl⟩
  run_tac endC
theorem tabIn_of {code : Value} {Pt : Addr} (h : tabIn F code = some Pt) : ∃ c, code = .ref c ∧ ∀ {h : Heap}, F.In h → CodeHd h c Pt := by
  run_tac beginC
  unfold tabIn at h
  (run_tac invT `h)
  rename_i c
  generalize hl : codeFields (F.lookup c) = y at h
  rcases y with _ | vs
  · cases h
  obtain ⟨dd, sl, hl⟩ := codeFields_inv hl
  (run_tac invT `h)
  generalize h1 : (vs[11]? : Option Value) = y1 at h
  generalize h2 : vs.getD 18 Value.none = y2 at h
  generalize h3 : vs.getD 7 Value.none = y3 at h
  generalize h4 : vs.getD 9 Value.none = y4 at h
  generalize h5 : vs.getD 10 Value.none = y5 at h
  (run_tac invT `h)
  replace h : (if c = _ then none else some _) = some Pt := h
  split at h
  · cases h
  · rename_i ne
    cases h
    refine ⟨c, rfl, fun {hp} X => ⟨_, vs, _, _, _, _, _, _, _, X _ _ hl, rfl, rfl, h1, ?_, h2, h3, h4, h5, ne⟩⟩
    rw [Array.getD_eq_getD_getElem?, h1]; rfl
  run_tac endC

theorem triples_ind {Q : List Value → Prop} (h0 : Q []) (h1 : ∀ a t b u x rest, Q rest → Q (.int a t :: .int b u :: x :: rest)) : ∀ {l : List Value}, TriplesOk l → Q l
  | [], _ => h0
  | .int a t :: .int b u :: x :: rest, h => h1 a t b u x rest (triples_ind h0 h1 (l := rest) h)
theorem triples_snoc {i j : Int} {t u : Tok} {c : Value} {l : List Value} (h : TriplesOk l) : TriplesOk (l ++ [.int i t, .int j u, c]) :=
  triples_ind (Q := fun l => TriplesOk (l ++ [.int i t, .int j u, c])) trivial (fun _ _ _ _ _ _ h => h) h
theorem among_snoc {pos : Pos} {i j : Int} {t u : Tok} {c cv : Value} : ∀ {l : List Value}, TriplesOk l → codeAmong pos (l ++ [.int i t, .int j u, c]) = some cv → codeAmong pos l = some cv ∨ cv = c := by
  run_tac beginC
  intro l hl
  refine triples_ind (Q := fun l => codeAmong pos (l ++ [.int i t, .int j u, c]) = some cv → codeAmong pos l = some cv ∨ cv = c) ?_ ?_ hl
  · intro h
    simp only [List.nil_append, codeAmong] at h
    split at h
    · cases h; exact .inr rfl
    · cases h
  · intro a t' b u' x rest ih e
    simp only [List.cons_append, codeAmong] at e ⊢
    split at e
    · rename_i q; rw [if_pos q]; exact .inl e
    · rename_i q; rw [if_neg q]; exact ih e
  run_tac endC

theorem setOther {σ : Store} {a b : Addr} {o o' : O} (h : σ a = none) (e : σ b = some o) : (σ.set a o') b = some o := by
  run_tac beginC
  unfold Store.set
  rw [if_neg (fun q => by subst q; rw [h] at e; cases e)]
  exact e
  run_tac endC
theorem setSame {σ : Store} {a : Addr} {o : O} : (σ.set a o) a = some o := by unfold Store.set; rw [if_pos rfl]

/-- a new function told of, with its code -/
theorem Sit.newFn {P : Params} {ns : List (Addr × Loc)} (S : Sit P base g os ns σ s) {f c : Addr} {fd : FuncData} {s' : Shared} (k : ∀ b x, s.heap.get? b = some x → s'.heap.get? b = some x) (hf : s.heap.get? f = none) (e : s'.heap.get? f = some { cls := .type "function", data := .func fd })
    (hc : fd.code = .ref c) (hs : σ c = some (.code fd.qualname)) (hg : s'.gens = s.gens) (ho : s'.os = s.os) : Sit P base g os ns (σ.set f (.fn fd)) s' :=
  have S' := S.keeps k hg ho
  have hσ := S.free hf
  { stays := S'.stays
    nsok := fun p hp => ⟨(S'.nsok p hp).1, (S'.nsok p hp).2.1, by
      have ne : p.1 ≠ f := fun q => S.notNs hf (q ▸ List.mem_map_of_mem (f := (·.1)) hp)
      unfold Store.set
      rw [if_neg ne]
      exact (S'.nsok p hp).2.2⟩
    nd := S'.nd
    rep := fun b x q => by
      unfold Store.set at q
      by_cases z : b = f
      · subst z; rw [if_pos rfl] at q; cases q; exact ⟨_, e, rfl⟩
      · rw [if_neg z] at q; exact S'.rep b x q
    own := fun b x q hr => by
      unfold Store.set at q
      by_cases z : b = f
      · rw [z]; exact S.base_none hf
      · rw [if_neg z] at q; exact S'.own b x q hr
    fns := fun b fd' q => by
      unfold Store.set at q
      by_cases z : b = f
      · subst z; rw [if_pos rfl] at q; cases q; exact ⟨c, hc, setOther hσ hs⟩
      · rw [if_neg z] at q
        obtain ⟨c', h1, h2⟩ := S'.fns b fd' q
        exact ⟨c', h1, setOther hσ h2⟩
    tabs := fun b ps q' q => by
      unfold Store.set at q
      by_cases z : b = f
      · subst z; rw [if_pos rfl] at q; cases q
      · rw [if_neg z] at q
        obtain ⟨mr, h1, h2, h3⟩ := S'.tabs b ps q' q
        exact ⟨mr, h1, h2, fun pos cv hc => let ⟨c', e1, e2⟩ := h3 pos cv hc; ⟨c', e1, setOther hσ e2⟩⟩
    gens := S'.gens
    os := S'.os
    tt := fun b hb => let ⟨q, e⟩ := S'.tt b hb; ⟨q, setOther hσ e⟩ }

/-- a new code told of, put into a table -/
theorem Sit.newCode {P : Params} {ns : List (Addr × Loc)} (S : Sit P base g os ns σ s) {Pt c : Addr} {ps more : Array Value} {q : Str} {pos : Pos} {s' : Shared} (ht : σ Pt = some (.tab ps q)) (k : Heap.ExtBut Pt s.heap s'.heap) (hc : s.heap.get? c = none) (hrec : s'.heap.CodeRec (.ref c) q)
    (hm : s.heap.get? Pt = some (tabObj (ps ++ more))) (htr : TriplesOk (ps ++ more).toList) (hno : codeAmong pos (ps ++ more).toList = none) (e : s'.heap.get? Pt = some (tabObj (ps ++ more ++ #[rawInt pos.line, rawInt pos.col, .ref c]))) 
    (hold : ∀ pos cv, codeAmong pos (ps ++ more).toList = some cv → ∃ c, cv = .ref c ∧ σ c = some (.code q)) (hg : s'.gens = s.gens) (ho : s'.os = s.os) : Sit P base g os ns (σ.set c (.code q)) s' := by
  run_tac beginC
  have hσ := S.free hc
  have hb := S.own _ _ ht rfl
  have hn := S.notNs' ht
  exact {
    stays := fun b x q => k _ _ (fun z => by rw [z, hb] at q; cases q) (S.stays b x q)
    nsok := fun p hp => by
      obtain ⟨x, y, z⟩ := S.nsok p hp
      have ne : p.1 ≠ Pt := fun q => hn (q ▸ List.mem_map_of_mem (f := (·.1)) hp)
      refine ⟨x.keeps fun o e => k _ _ ne e, y, ?_⟩
      have ne2 : p.1 ≠ c := fun q => S.notNs hc (q ▸ List.mem_map_of_mem (f := (·.1)) hp)
      unfold Store.set
      rw [if_neg ne2]
      exact z
    nd := S.nd
    rep := fun b x h => by
      unfold Store.set at h
      by_cases z : b = c
      · subst z; rw [if_pos rfl] at h; cases h
        obtain ⟨c', oc, vs, t, e1, e2, e3, e4⟩ := hrec
        cases e1
        exact ⟨oc, e2, vs, t, e3, e4⟩
      · rw [if_neg z] at h
        by_cases y : b = Pt
        · subst y; rw [ht] at h; cases h
          exact ⟨_, e, more ++ #[rawInt pos.line, rawInt pos.col, .ref c], by rw [Array.append_assoc]⟩
        · obtain ⟨ob, e', r'⟩ := S.rep b x h
          exact ⟨ob, k _ _ y e', r'⟩
    own := fun b x h hr => by
      unfold Store.set at h
      by_cases z : b = c
      · rw [z]; exact S.base_none hc
      · rw [if_neg z] at h; exact S.own b x h hr
    fns := fun b fd' h => by
      unfold Store.set at h
      by_cases z : b = c
      · subst z; rw [if_pos rfl] at h; cases h
      · rw [if_neg z] at h
        obtain ⟨c', h1, h2⟩ := S.fns b fd' h
        exact ⟨c', h1, setOther hσ h2⟩
    tabs := fun b ps' q' h => by
      unfold Store.set at h
      by_cases z : b = c
      · subst z; rw [if_pos rfl] at h; cases h
      · rw [if_neg z] at h
        by_cases y : b = Pt
        · subst y; rw [ht] at h; cases h
          refine ⟨more ++ #[rawInt pos.line, rawInt pos.col, .ref c], by rw [e, Array.append_assoc], ?_, fun p' cv hcv => ?_⟩
          · rw [← Array.append_assoc, Array.toList_append]; exact triples_snoc htr
          · rw [← Array.append_assoc, Array.toList_append] at hcv
            rcases among_snoc htr hcv with h1 | rfl
            · obtain ⟨c', e1, e2⟩ := hold p' cv h1
              exact ⟨c', e1, setOther hσ e2⟩
            · exact ⟨c, rfl, setSame⟩
        · obtain ⟨mr, h1, h2, h3⟩ := S.tabs b ps' q' h
          exact ⟨mr, k _ _ y h1, h2, fun pos cv hc => let ⟨c', e1, e2⟩ := h3 pos cv hc; ⟨c', e1, setOther hσ e2⟩⟩
    gens := hg.trans S.gens
    os := ho.trans S.os
    tt := fun b hb => let ⟨q, e⟩ := S.tt b hb; ⟨q, setOther hσ e⟩ }
  run_tac endC

theorem noDefaults_of {args : Arguments} (h : noDefaults args = true) : defaultsOf args env = ([], []) := by
  run_tac beginC
  unfold noDefaults at h
  (run_tac invT `h)
  rfl
  run_tac endC

theorem snd_Lambda (T : Stat w F G base) (ok : Okk A env ns d) (S : Sit w.params base g os (NS env loc ns) σ s) {args : Arguments} {body : PySem.Expr} {scope : Scope} {pos : Pos} (hs : (cellsThere env scope && noDefaults args) = true)
    (h : match tabIn F env.code with
      | some P => ∃ ps q, σ P = some (.tab ps q) ∧ q = env.qual ++ "<lambda>" ∧ ∀ (σ' : Store) (f : Addr) (fd : FuncData), (∀ b o, σ b = some o → σ' b = some o) → σ f = none → F.lookup f = none → σ' f = some (.fn fd) →
          fd.params = args → fd.body = .expr body → fd.scope = scope → fd.closure = cellsOfH env scope → fd.qualname = q → fd.globals = mainGlobals → fd.builtins = builtinsNs → fd.defaults = .none → K (.ref f) σ'
      | none => False) {E : Value → Shared → Prop} :
    wpAny (model prog w) A (eval (.Lambda args body scope pos) env) (PV w base g os env loc ns K) E s := by
  run_tac beginC
  rw [Bool.and_eq_true] at hs
  split at h
  · rename_i Pt ht
    obtain ⟨c0, hcode, hC⟩ := tabIn_of ht
    have C := hC (T.kin.keeps S.stays)
    obtain ⟨ps, q, hP, rfl, h⟩ := h
    obtain ⟨mg, hmg, bm, ob, b1, b2, b3, b4, b5, b6, b7⟩ := T.glo
    obtain ⟨more, hh, htr, hall⟩ := S.tabs _ _ _ hP
    have hb : s.heap.BuiltinsAt mg Pt := ⟨bm, ob, b1, b2, b3, (fun z => by rw [z, S.own _ _ hP rfl] at b4; cases b4), S.stays _ _ b4, b5, b6, b7⟩
    have hgP : mainGlobals ≠ Pt := fun z => by
      obtain ⟨o, es, ep, e, hd, _⟩ := hmg
      rw [z, S.own _ _ hP rfl] at e; cases e
    have hmg' : s.heap.Ns mainGlobals mg := hmg.keeps S.stays
    have hF : ∀ (s' : Shared) (σ' : Store) (a : Addr), Sit w.params base g os (NS env loc ns) σ' s' → s'.heap.get? a = none → F.lookup a = none := fun s' σ' a S' e => by
      cases q : F.lookup a with
      | none => rfl
      | some o => rw [T.kin.keeps S'.stays _ _ q] at e; cases e
    refine kla_eval (noDefaults_of hs.2) ?_
    cases hf : codeAmong pos (ps ++ more).toList with
    | some cv =>
      obtain ⟨c', rfl, hc'⟩ := hall _ _ hf
      refine kla_makeFunctionHit (mg := mg) (closure_cells hs.1) ok.glob hmg' hcode C hh htr hf hb fun ctv h' tk hk hsz => ?_
      have hfree : s.heap.get? h'.objs.size = none := Heap.get?_none_of_le hsz
      refine ⟨_, S.newFn (s' := { s with heap := h'.push _, toks := tk }) (fun b x e => Heap.get?_push_of_some _ (hk b x e)) hfree (Heap.get?_push_size _ rfl) rfl hc' rfl rfl, h _ _ _ (fun b o e => setOther (S.free hfree) e) (S.free hfree) (hF _ _ _ S hfree) setSame rfl rfl rfl rfl rfl rfl rfl rfl⟩
    | none =>
      refine kla_makeFunction (mg := mg) (closure_cells hs.1) ok.glob hmg' hcode C hh htr hf hgP hb fun c' ctv h' tk hx hge hlt hrec htb => ?_
      have hfc : s.heap.get? c' = none := Heap.get?_none_of_le hge
      have S1 := S.newCode (s' := { s with heap := h', toks := tk }) hP hx hfc hrec hh htr hf htb hall rfl rfl
      have hf1 : h'.get? h'.objs.size = none := Heap.get?_none_of_le (Nat.le_refl _)
      refine ⟨_, S1.newFn (s' := { s with heap := h'.push _, toks := tk }) (fun b x e => Heap.get?_push_of_some _ e) hf1 (Heap.get?_push_size _ rfl) rfl setSame rfl rfl, ?_⟩
      have hσf : σ h'.objs.size = none := by
        cases z : σ h'.objs.size with
        | none => rfl
        | some o =>
          have := S1.free hf1
          rw [setOther (S.free hfc) z] at this; cases this
      exact h _ _ _ (fun b o e => setOther (S1.free hf1) (setOther (S.free hfc) e)) hσf (hF _ _ _ S1 hf1) setSame rfl rfl rfl rfl rfl rfl rfl rfl
  · cases h
  run_tac endC

theorem strOf_inv {k : Option PySem.Expr} {x : Str} (h : strOf k = some x) : ∃ k' p, k = some (.Constant (.str x) k' p) := by
  run_tac beginC
  unfold strOf at h
  (run_tac invT `h)
  cases h
  exact ⟨_, _, rfl⟩
  run_tac endC
/-- the pairs of a display -/
theorem snd_pairs (H : Snd m prog w F G g os d r) (T : Stat w F G base) (ok : Okk A env ns d) {pos : Pos} : ∀ (ks : List (Option PySem.Expr)) (es : List PySem.Expr) (σ : Store) (s : Shared) (K : List (Str × Value) → Store → Prop), Sit w.params base g os (NS env loc ns) σ s → pairsH r env loc X ks es σ K →
    wpM m (model prog w) A (evalPairs (pairTrees ks es env pos)) (fun vs s' => ∃ σ' kvs, Sit w.params base g os (NS env loc ns) σ' s' ∧ Carries (strKind prog w) vs kvs ∧ kvs.length = ks.length ∧ K (kvs.map fun p => (p.1, er p.2)) σ') (PX w base g os env loc ns X) s := by
  run_tac beginC
  intro ks
  induction ks with
  | nil =>
    intro es σ s K S h
    cases es with
    | nil => exact wpM_pure ⟨σ, [], S, trivial, rfl, h⟩
    | cons => exact absurd h id
  | cons k ks ih =>
    intro es σ s K S h
    cases es with
    | nil => exact absurd h id
    | cons e es =>
      replace h : (match strOf k with
        | some s => r.E env e loc σ (fun v σ => pairsH r env loc X ks es σ fun ps σ => K ((s, v) :: ps) σ) X
        | none => False) := h
      generalize qs : strOf k = y at h
      (run_tac invT `h)
      · rename_i x
        obtain ⟨k', p, rfl⟩ := strOf_inv qs
        show wpM m _ _ (do
          let kv ← eval (.Constant (.str x) k' p) env
          let vv ← holding [kv] (do let x ← eval e env; standAt pos; pure x)
          return (kv, vv) :: (← holding [kv, vv] (evalPairs (pairTrees ks es env pos)))) _ _ _
        rw [arm_eval_Constant]
        refine wpM_bind (.of (wpAny_mkText ?_))
        refine wpM_bind (wpM_holding (wpM_bind (wpM_mono (H.E _ T _ _ _ _ _ _ _ _ _ ok S.toks h) (fun v s1 hq0 => ?_) fun _ _ x => x)))
        obtain ⟨σ1, S1, h1⟩ := hq0
        refine wpM_bind (wpM_standAt (wpM_pure ?_))
        refine wpM_bind (wpM_holding (wpM_mono (ih es σ1 s1 _ S1 h1) (fun vs s2 hq0 => ?_) fun _ _ x => x))
        obtain ⟨σ2, kvs, S2, c2, l2, h2⟩ := hq0
        exact wpM_pure ⟨σ2, (x, v) :: kvs, S2, ⟨strKind_is prog w x _, rfl, c2⟩, by simp [l2], h2⟩
  run_tac endC

theorem snd_Dict (H : Snd false prog w F G g os d r) (T : Stat w F G base) (ok : Okk A env ns d) (S : Sit w.params base g os (NS env loc ns) σ s) {ks : List (Option PySem.Expr)} {vs : List PySem.Expr} {pos : Pos}
    (hs : (ks.all (·.isSome) && ks.length == vs.length && decide (ks.length ≤ 15) && !ks.isEmpty) = true)
    (h : ∀ d, Fresh σ d → pairsH r env loc X ks vs (σ.set d (.dict [])) fun ps σ => σ d = some (.dict []) ∧ (ps.map (·.1)).Nodup ∧ K (.ref d) (σ.set d (.dict ps))) :
    wpAny (model prog w) A (eval (.Dict ks vs pos) env) (PV w base g os env loc ns K) (PX w base g os env loc ns X) s := by
  run_tac beginC
  simp only [Bool.and_eq_true, decide_eq_true_eq, beq_iff_eq] at hs
  obtain ⟨⟨⟨h1, h2⟩, h3⟩, h4⟩ := hs
  refine wpAny_Dict_walk (knd := strKind prog w) h1 h2 (fun q => by rw [q] at h4; cases h4) h3 ?_
  have S1 := S.push (o := .dict []) (ob := { cls := .type "dict", data := .dict #[] }) rfl ⟨#[], 0, rfl, .nil, by simp, by simp⟩ rfl (n := s.toks)
  refine wpAny_mono (wpM.all (snd_pairs H T ok (pos := pos) ks vs _ _ _ S1 (h _ S.fresh'))) (fun ps s1 hq0 => ?_) fun _ _ x => x
  obtain ⟨σ1, kvs, S2, hc, hl, hd, hn, hk⟩ := hq0
  obtain ⟨ob, e, r⟩ := S2.rep _ _ hd
  obtain ⟨kv0, hd0, hkv0⟩ := dictOf_of (prog := prog) e r
  have : kv0 = [] := by cases kv0 with | nil => rfl | cons => cases hkv0
  subst this
  refine ⟨kvs, hc, hd0, fun h' hd' hs => ?_⟩
  have hn' : (kvs.map (·.1)).Nodup := by rw [List.map_map] at hn; exact hn
  rw [merged_nil_of_nodup kvs hn'] at hd'
  obtain ⟨ob', i1, i2⟩ := rep_of_dictOf hd' (by (run_tac Mine.Lin.om))
  exact ⟨_, S2.turn (s' := { s1 with heap := h', toks := s1.toks + ps.length }) hd rfl rfl hs.extBut i1 i2 rfl rfl rfl, hk⟩
  run_tac endC
end
end Mine
end

section
open PySem PySem.W PySem.Calls PyProof.Rows PySem.SeqAt
set_option maxRecDepth 100000
namespace Mine

section
variable {m : Bool} {prog : Program} {w : World} {F : Frag} {G : Str → Option Value} {base : Heap} {g : Array GenState} {os : OsState} {d : Nat} {r : Ev} {A : Around} {env : Env} {ns : List (Addr × Loc)} {loc : Loc} {σ : Store} {s : Shared} {K : KV} {X : KX}

theorem snd_letTuple {target : PySem.Expr} {I : Addr} {gd : Store → Prop} {xs : List Value} {v : Value} {Q : Unit → Shared → Prop} {E : Value → Shared → Prop} (it : ItAt s.heap I gd xs) (h : Q () s) : wpAny (model prog w) A (letOwnedTupleGo target (.ref I) v) Q E s := by
  run_tac beginC
  have main : wpAny (model prog w) A (do
      let (.ref r, .ref a) := (Value.ref I, v) | return
      let o ← load r
      match o.cls, o.data with
      | .type n, .fields vs =>
        if ["enumerate", "zip", "dict_itemiterator", "dict_reverseitemiterator", "odict_iterator", "itertools.zip_longest", "itertools.pairwise"].contains n && vs[0]? == some (rawInt a) then
          rule "for.unpacks-the-owned-tuple"
          updateField r 0 .none
      | _, _ => pure ()) Q E s := by
    cases v with
    | ref a =>
      rcases it with ⟨l, i, vs, ⟨o, e, c, dd⟩, _⟩ | ⟨x, left, e, _⟩
      · refine wpAny_bind (wpAny_load e ?_)
        rw [c, dd]
        exact wpAny_pure h
      · refine wpAny_bind (wpAny_load e ?_)
        exact wpAny_pure h
    | _ => exact wpAny_pure h
  unfold letOwnedTupleGo
  cases target with
  | Tuple => exact main
  | List => exact main
  | _ => exact wpAny_pure h
  run_tac endC

theorem Prv.of_sit {σ' : Store} {ns' : List (Addr × Loc)} {base' : Heap} {I : Addr} {o : Obj} (p : Prv base ns σ I) (h : base'.get? I = some o) (hc : o.cls ≠ .type "list") (S : Sit w.params base' g os ns' σ' s) : Prv base ns' σ' I :=
  ⟨p.b, (S.held h hc).2.1, (S.held h hc).1⟩

theorem snd_append {D : Addr} {vs : List Value} {x : Value} {Q : Value → Shared → Prop} {E : Value → Shared → Prop} (S : Sit w.params base g os ns σ s) (hd : σ D = some (.list vs)) (hz : vs.length < LIM)
    (hq : ∀ s', Sit w.params base g os ns (σ.set D (.list (vs ++ [er x]))) s' → Q .none s') : wpAny (model prog w) A (call (.builtin "list.append") [.ref D, x]) Q E s := by
  run_tac beginC
  obtain ⟨ob, e, items, n, rfl, hv, hl⟩ := S.rep _ _ hd
  have hsz := sz_of hv
  refine append_at e (fun h' hs e' => hq _ (S.turn (s' := { s with heap := h' }) hd rfl rfl hs.extBut e' (o := .list (vs ++ [er x])) ⟨_, _, rfl, by simp [hv], by simp; (run_tac Mine.Lin.om)⟩ rfl rfl rfl)) (by rw [hsz, sizeLine_eq]; unfold LIM at hz; (run_tac Mine.Lin.om))
  run_tac endC

theorem comp_loop (H : Snd false prog w F G g os d r) (T : Stat w F G base) {cenv : Env} {ns0 : List (Addr × Loc)} (okc : Okk A cenv ns0 d) {elt tgt iter : PySem.Expr} {ifs : List PySem.Expr} {scope : Scope} {pos : Pos} {I acc : Addr} {gd : Store → Prop} {Kσ : Store → Prop} {R : Result → Shared → Prop}
    (hR : ∀ s' σ' locC', Sit w.params base g os ((cenv.locals, locC') :: ns0) σ' s' → Kσ σ' → R (.ok .next) s') :
    ∀ (xs : List Value) (s : Shared) (σ : Store) (locC : Loc), Sit w.params base g os ((cenv.locals, locC) :: ns0) σ s → Prv base ((cenv.locals, locC) :: ns0) σ I → ItAt s.heap I gd xs →
    compH gd (fun x loc σ K => r.As cenv tgt x loc σ K fun _ _ => False)
          (fun loc σ K => testsH r cenv ifs loc σ K)
          (fun loc σ K => r.E cenv elt loc σ K fun _ _ => False) acc xs locC σ Kσ →
    codeAny (model prog w) A (.compLoop (.ListComp elt [⟨tgt, iter, ifs, 0⟩] scope pos) 0 (.ref I) (.ref acc) cenv) R s := by
  run_tac beginC
  have noX : ∀ {fr : Option Addr} {ns' : List (Addr × Loc)} {b : Heap} {v : Value} {s' : Shared} {α : Prop}, PostX w.params b g os fr ns' (fun _ _ => False) v s' → α := by
    intro fr ns' b v s' α x
    obtain ⟨_, _, _, _, _, _, h⟩ := x
    exact h.elim
  intro xs
  induction xs with
  | nil =>
    intro s σ locC S p it h
    refine codeAny_of_tree ?_
    show wpAny _ A ((compTurn (.ListComp elt [⟨tgt, iter, ifs, 0⟩] scope pos) 0 (.ref I) (.ref acc) cenv).onRaise (fun x => do noteFrame x cenv; theTreesLotGoes x)) _ _ s
    refine wpAny_noted ?_
    rw [compTurn_list]
    refine wpAny_bind (wpAny_standAt (wpAny_bind (snd_next okc.hd S p it h.1 (fun s' _ S' => ?_) (fun v ys s' e _ _ => by cases e))))
    exact wpAny_pure (hR _ _ _ S' h.2)
  | cons x xs ih =>
    intro s σ locC S p it h
    obtain ⟨hg, h⟩ := h
    refine codeAny_of_tree ?_
    show wpAny _ A ((compTurn (.ListComp elt [⟨tgt, iter, ifs, 0⟩] scope pos) 0 (.ref I) (.ref acc) cenv).onRaise (fun x => do noteFrame x cenv; theTreesLotGoes x)) _ _ s
    refine wpAny_noted ?_
    rw [compTurn_list]
    refine wpAny_bind (wpAny_standAt (wpAny_bind (snd_next okc.hd S p it hg (fun s' e _ => by cases e) (fun v ys s1 e S1 it1 => ?_))))
    cases e
    refine wpAny_bind (snd_letTuple it1 ?_)
    obtain ⟨o, hI, hc, hit⟩ := it1.obj
    obtain ⟨base', hbb, S1', hold⟩ := S1.rebase
    have hIb := hold _ _ hI p.o p.n
    have T' := T.up hbb
    have go : ∀ {s2 : Shared} {σ2 : Store} {loc2 : Loc}, Sit w.params base' g os ((cenv.locals, loc2) :: ns0) σ2 s2 → 
        compH gd (fun x loc σ K => r.As cenv tgt x loc σ K fun _ _ => False) (fun loc σ K => testsH r cenv ifs loc σ K) (fun loc σ K => r.E cenv elt loc σ K fun _ _ => False) acc xs loc2 σ2 Kσ → codeAny (model prog w) A (.compLoop (.ListComp elt [⟨tgt, iter, ifs, 0⟩] scope pos) 0 (.ref I) (.ref acc) cenv) R s2 :=
      fun S2 h2 => ih _ _ _ (S2.unbase hbb) (p.of_sit hIb hc S2) (hit _ (S2.held hIb hc).2.2) h2
    refine wpAny_bind (wpAny_mono (wpM.all (H.As _ T' _ _ _ _ _ _ _ _ _ _ okc S1' h)) (fun _ s2 hq0 => ?_) fun _ _ ⟨_, x⟩ => noX x)
    obtain ⟨loc2, σ2, S2, h2⟩ := hq0
    have tests : wpAny (model prog w) A (forIn ifs true fun c r => if r = true then do let ok ← isTrue c cenv (eval c cenv); pure (ForInStep.yield ok) else pure (ForInStep.yield r)) (PostT w.params base' g os ((cenv.locals, loc2) :: ns0) (fun b σ => match b with
        | true => r.E cenv elt loc2 σ (fun v σ => ∃ vs, σ acc = some (.list vs) ∧ vs.length < LIM ∧ compH gd (fun x loc σ K => r.As cenv tgt x loc σ K fun _ _ => False) (fun loc σ K => testsH r cenv ifs loc σ K) (fun loc σ K => r.E cenv elt loc σ K fun _ _ => False) acc xs loc2 (σ.set acc (.list (vs ++ [v]))) Kσ) fun _ _ => False
        | false => compH gd (fun x loc σ K => r.As cenv tgt x loc σ K fun _ _ => False) (fun loc σ K => testsH r cenv ifs loc σ K) (fun loc σ K => r.E cenv elt loc σ K fun _ _ => False) acc xs loc2 σ Kσ)) (notedBy (model prog w) A cenv fun e s' => R (.error e) s') s2 := by
      cases ifs with
      | nil => exact wpAny_tests_nil ⟨σ2, S2, h2⟩
      | cons t rr => cases rr with
        | cons => exact h2.elim
        | nil => exact wpAny_tests_one (wpAny_mono (wpM.all (H.T _ T' _ _ _ _ _ _ _ _ _ okc S2 h2)) (fun _ _ q => q) fun _ _ x => noX x)
    refine wpAny_bind (wpAny_mono tests (fun b s3 hq0 => ?_) fun _ _ x => x)
    obtain ⟨σ3, S3, h3⟩ := hq0
    cases b with
    | false => exact wpAny_pure ⟨rfl, go S3 h3⟩
    | true =>
      refine wpAny_bind (wpAny_bind (wpAny_mono (wpM.all (H.E _ T' _ _ _ _ _ _ _ _ _ okc S3 h3)) (fun v4 s4 hq0 => ?_) fun _ _ x => noX x))
      obtain ⟨σ4, S4, vs, hvs, hz, h4⟩ := hq0
      refine wpAny_bind (snd_append S4 hvs hz fun s5 S5 => ?_)
      exact wpAny_pure (wpAny_pure ⟨rfl, go S5 h4⟩)
  run_tac endC

theorem namesOnce_of {scope : Scope} (h : namesOnce scope = true) : scope.kind = .function ∧ ∀ x ∈ scope.names, x.2 = .local → scope.names.lookup x.1 = some .local := by
  run_tac beginC
  unfold namesOnce at h
  rw [Bool.and_eq_true, beq_iff_eq, List.all_eq_true] at h
  refine ⟨h.1, fun x hx hl => ?_⟩
  have := h.2 x hx
  rw [hl] at this
  simpa using this
  run_tac endC
theorem noCell_of {scope : Scope} (h : cellsThere env scope = true) : ∀ x ∈ scope.names, x.2 ≠ .cell := fun x hx e => by
  have := List.all_eq_true.mp h x hx
  rw [e] at this
  exact absurd this Bool.false_ne_true
theorem folded_of {it : PySem.Expr} (h : notSet it = true) (x : Value) : foldedSetIterable it env x = pure x := by
  run_tac beginC
  unfold foldedSetIterable
  cases it <;> first | rfl | (cases h; done)
  run_tac endC
theorem FramesIn.more {l : List Env} {as bs : List Addr} (h : FramesIn l as) (k : ∀ a ∈ as, a ∈ bs) : FramesIn l bs := fun e he => let ⟨a, L, b, c⟩ := h e he; ⟨a, L, b, k _ c⟩

/-- a comprehension, and what is done with it -/
theorem snd_comp (H : Snd false prog w F G g os d r) (T : Stat w F G base) (ok : Okk A env ns d) (S : Sit w.params base g os (NS env loc ns) σ s) {elt tgt it : PySem.Expr} {ifs : List PySem.Expr} {scope : Scope} {pos : Pos} {use : Option (Value → Sem Unit)} {Q : Value → Shared → Prop} {K : KV} {X : KX}
    (hs : (cellsThere env scope && namesOnce scope && notSet it) = true)
    (h : r.E env it loc σ (fun v σ => iterH v σ fun items g =>
      ∀ acc, Fresh σ acc → ∀ L, Fresh (σ.set acc (.list [])) L →
        compH g (fun x loc σ K => r.As (compEnv scope env L) tgt x loc σ K fun _ _ => False)
          (fun loc σ K => testsH r (compEnv scope env L) ifs loc σ K)
          (fun loc σ K => r.E (compEnv scope env L) elt loc σ K fun _ _ => False) acc items Loc.nil (σ.set acc (.list [])) fun σ => K (.ref acc) σ) X)
    (hQ : ∀ acc L locC σ' s', Sit w.params base g os ((L, locC) :: NS env loc ns) σ' s' → K (.ref acc) σ' → compPost (model prog w) A (PX w base g os env loc ns X) use Q (.ref acc) L (.ok .next) s') :
    wpAny (model prog w) A (comprehension (.ListComp elt [⟨tgt, it, ifs, 0⟩] scope pos) scope env (firstIterPos [⟨tgt, it, ifs, 0⟩] pos) (newList []) false (eval it env) use) Q (PX w base g os env loc ns X) s := by
  run_tac beginC
  simp only [Bool.and_eq_true] at hs
  obtain ⟨⟨h1, h2⟩, h3⟩ := hs
  obtain ⟨hk, hn⟩ := namesOnce_of h2
  refine wpAny_comprehension_free (g := ⟨tgt, it, ifs, 0⟩) (gs := []) rfl (folded_of h3) (closure_cells h1) hk hn ?_
  refine wpAny_mono (wpM.all (H.E _ T _ _ _ _ _ _ _ _ _ ok S h)) (fun v s1 hq0 => ?_) fun _ _ x => x
  obtain ⟨σ1, S1, k1⟩ := hq0
  refine snd_iter S1 k1 fun I gd xs s2 hI S2 it2 k2 => ?_
  refine wpAny_newList ?_ (by simp)
  have S3 := S2.push (o := .list []) (ob := { cls := .type "list", data := .seq #[] }) rfl ⟨#[], 0, rfl, rfl, by simp⟩ rfl (n := s2.toks)
  have hI2 : I < s2.heap.objs.size := let ⟨o, e, _⟩ := it2.obj; Heap.lt_size e
  refine wpAny_newFunctionEnv (noCell_of h1) (fun x hx => by cases hx) (fun h' hns hsb => ?_) hk
  have keep : ∀ b x, (s2.heap.push { cls := .type "list", data := .seq #[] }).get? b = some x → h'.get? b = some x := fun b x e => hsb.extBut b x (Nat.ne_of_lt (Heap.lt_size e)) (Heap.get?_push_of_some _ e)
  have S4 := S3.nsPush (s' := { s2 with heap := h', toks := s2.toks + 0 }) (loc := Loc.nil) keep (Heap.get?_none_of_le (Nat.le_refl _)) ⟨_, hns, fun _ => rfl⟩ rfl rfl
  have fr1 : Fresh σ1 s2.heap.objs.size := S2.fresh'
  have k3 := k2 _ fr1 _ S3.fresh'
  obtain ⟨o, hIo, hc, hit⟩ := it2.obj
  have hIk := keep _ _ (Heap.get?_push_of_some _ hIo)
  have it4 : ItAt h' I gd xs := hit _ hIk
  have p4 : Prv base (((s2.heap.push { cls := .type "list", data := .seq #[] }).objs.size, Loc.nil) :: NS env loc ns) (σ1.set s2.heap.objs.size (.list [])) I := by
    have pI : Prv base (NS env loc ns) σ1 I := ⟨S1.base_none hI, S1.notNs hI, S1.free hI⟩
    refine ⟨pI.b, ?_, ?_⟩
    · rw [List.map_cons, List.mem_cons]
      rintro (q | q)
      · have q' : I = s2.heap.objs.size + 1 := q.trans (Heap.size_push ..)
        exact absurd hI2 (by rw [q']; exact Nat.not_lt.mpr (Nat.le_succ _))
      · exact pI.n q
    · unfold Store.set
      rw [if_neg (Nat.ne_of_lt hI2)]; exact pI.o
  obtain ⟨fr, outer, o1, o2, o3⟩ := ok.frames
  have okc : Okk A (compEnv scope env (s2.heap.push { cls := .type "list", data := .seq #[] }).objs.size) (NS env loc ns) d :=
    ⟨ok.hd, hk, ok.glob, rfl, ⟨fr, outer, o1, o2, o3.more fun a ha => .tail _ ha⟩, ok.depth, ok.units⟩
  have ce : ({ newEnv scope (s2.heap.push { cls := .type "list", data := .seq #[] }).objs.size env.globals (cellsOfH env scope) env.qual none .none (some env) 0 with scope := relabel scope env } : Env) = compEnv scope env (s2.heap.push { cls := .type "list", data := .seq #[] }).objs.size := by
    unfold compEnv newEnv relabel
    rw [← ok.bi]
  show codeAny _ _ (.compStart _ _ _ _ { newEnv scope (s2.heap.push { cls := .type "list", data := .seq #[] }).objs.size env.globals (cellsOfH env scope) env.qual none .none (some env) 0 with scope := relabel scope env }) _ _
  rw [ce]
  have loop := comp_loop H T okc (elt := elt) (tgt := tgt) (iter := it) (ifs := ifs) (scope := scope) (pos := pos) (I := I) (acc := s2.heap.objs.size) (gd := gd) (R := compPost (model prog w) A (PX w base g os env loc ns X) use Q (.ref s2.heap.objs.size) (s2.heap.push { cls := .type "list", data := .seq #[] }).objs.size)
    (fun s' σ' locC' S' k => hQ _ _ _ _ _ S' k) xs _ _ _ S4 p4 it4 k3
  refine codeAny_compStart_list loop ?_
  rcases it4 with ⟨a, i, vs, hl, _⟩ | ⟨x, left, hl, _⟩
  · exact wpAny_pyIter_listiter hl loop
  · exact wpAny_pyIter_rangeiter hl loop
  run_tac endC

theorem snd_ListComp (H : Snd false prog w F G g os d r) (T : Stat w F G base) (ok : Okk A env ns d) (S : Sit w.params base g os (NS env loc ns) σ s) {elt tgt it : PySem.Expr} {ifs : List PySem.Expr} {scope : Scope} {pos : Pos}
    (hs : (cellsThere env scope && namesOnce scope && notSet it) = true)
    (h : r.E env it loc σ (fun v σ => iterH v σ fun items g =>
      ∀ acc, Fresh σ acc → ∀ L, Fresh (σ.set acc (.list [])) L →
        compH g (fun x loc σ K => r.As (compEnv scope env L) tgt x loc σ K fun _ _ => False)
          (fun loc σ K => testsH r (compEnv scope env L) ifs loc σ K)
          (fun loc σ K => r.E (compEnv scope env L) elt loc σ K fun _ _ => False) acc items Loc.nil (σ.set acc (.list [])) fun σ => K (.ref acc) σ) X) :
    wpAny (model prog w) A (eval (.ListComp elt [⟨tgt, it, ifs, 0⟩] scope pos) env) (PV w base g os env loc ns K) (PX w base g os env loc ns X) s := by
  run_tac beginC
  rw [arm_eval_ListComp]
  refine snd_comp H T ok S hs h (Q := PV w base g os env loc ns K) fun acc L locC σ' s' S' k => ?_
  obtain ⟨m, hm, _⟩ := (S'.nsok _ (.head _)).1
  refine ⟨m, hm, fun h' hs => ⟨σ', ?_, k⟩⟩
  have p := S'.nsok _ (.head _)
  have nd := S'.nd
  rw [List.map_cons, List.nodup_cons] at nd
  exact S'.nsPop.extBut (s' := { s' with heap := h' }) hs.extBut p.2.1 nd.1 p.2.2 rfl rfl
  run_tac endC
end
end Mine
end

section
open PySem PySem.W PySem.Calls PyProof.Rows PySem.SeqAt
set_option maxRecDepth 100000
namespace Mine

section
variable {P : Params} {base : Heap} {g : Array GenState} {os : OsState} {ns : List (Addr × Loc)} {σ : Store} {s : Shared}

theorem setSelf {σ : Store} {a : Addr} {o : O} (h : σ a = some o) : σ.set a o = σ := by
  run_tac beginC
  funext b
  unfold Store.set
  split
  · rename_i q; subst q; exact h.symm
  · rfl
  run_tac endC

/-- a told object that turns and is told the same -/
theorem Sit.mod (S : Sit P base g os ns σ s) {s' : Shared} {a : Addr} {o : O} {ob : Obj} (h : σ a = some o) (hr : o.isRo = false) (hp : o.plain = true) (k : Heap.ExtBut a s.heap s'.heap) (e : s'.heap.get? a = some ob) (r : ORep P o ob)
    (hg : s'.gens = s.gens) (ho : s'.os = s.os) : Sit P base g os ns σ s' := by
  run_tac beginC
  have := S.turn (s' := s') h hr hp k e r hp hg ho
  rwa [setSelf h] at this
  run_tac endC

theorem funFrames (S : Sit P base g os ns σ s) : ∀ {l : List Env}, FramesIn l (ns.map (·.1)) → s.heap.FunFrames base l
  | [], _ => trivial
  | env :: r, h => by
    obtain ⟨a, L, b, c⟩ := h env (.head _)
    obtain ⟨p, hp, rfl⟩ := List.mem_map.mp c
    obtain ⟨x, y, z⟩ := S.nsok p hp
    obtain ⟨o, e, hd⟩ := x.there
    exact ⟨a, ⟨_, o, b, y, e, hd⟩, funFrames S fun e he => h e (.tail _ he)⟩

theorem Sit.slots (S : Sit P base g os ns σ s) {l : List Env} (hf : FramesIn l (ns.map (·.1))) {h' : Heap} (k : Heap.SlotsOnly (l.filterMap (·.frame)) s.heap h') {n : Nat} : Sit P base g os ns σ { s with heap := h', toks := n } := by
  run_tac beginC
  have fr : ∀ b, b ∈ l.filterMap (·.frame) → b ∈ ns.map (·.1) := fun b hb => by
    obtain ⟨e, he, q⟩ := List.mem_filterMap.mp hb
    obtain ⟨_, L, x, y⟩ := hf e he
    rw [x] at q; cases q; exact y
  refine S.same (s' := { s with heap := h', toks := n }) ⟨fun b o e => ?_, fun p hp o e => k.2.2 _ _ e, fun a o e ob x => ?_⟩ rfl rfl
  · refine (k.2.1 b fun hb => ?_).trans (S.stays b o e)
    obtain ⟨p, hp, q⟩ := List.mem_map.mp (fr b hb)
    rw [← q, (S.nsok p hp).2.1] at e; cases e
  · refine (k.2.1 a fun hb => ?_).trans x
    obtain ⟨p, hp, q⟩ := List.mem_map.mp (fr a hb)
    rw [← q, (S.nsok p hp).2.2] at e; cases e
  run_tac endC
end

section
variable {m : Bool} {prog : Program} {w : World} {F : Frag} {G : Str → Option Value} {base : Heap} {g : Array GenState} {os : OsState} {d : Nat} {r : Ev} {A : Around} {env : Env} {ns : List (Addr × Loc)} {loc : Loc} {σ : Store} {s : Shared} {K : KV} {X : KX} {E : Value → Shared → Prop}

/-- in flight, the frame noted -/
noncomputable def Noted (fl : Value → Prop) (base : Heap) (ns : List (Addr × Loc)) (σ : Store) (h : Heap) (e : Addr) : Prop := ∃ ob vs, h.get? e = some ob ∧ ob.data = .fields vs ∧ Head fl base ns σ h e vs

/-- the frames that the walk stands in -/
structure Frs (A : Around) (env : Env) (ns : List (Addr × Loc)) (L : Addr) : Prop where
  f : env.frame = some L
  ex : ∃ fr outer, A.frames = some (fr :: outer) ∧ env.frame = fr.frame ∧ FramesIn (fr :: outer) (ns.map (·.1))
theorem Okk.frs (ok : Okk A env ns d) : ∃ L, Frs A env (NS env loc ns) L := by
  run_tac beginC
  obtain ⟨fr, outer, a, b, c⟩ := ok.frames
  obtain ⟨_, L, x, _⟩ := c fr (.head _)
  exact ⟨L, b.trans x, fr, outer, a, b, c⟩
  run_tac endC

theorem newEntryAt {M : Model} {e L : Addr} {C : Addr} {dx : Option Addr} {head : Value} {hn : Bool} {Q : Unit → Shared → Prop} (fs : Frs A env ns L) (S : Sit M.w.params base g os ns σ s) (he : σ e = some (.exc C dx false))
    (h : ∀ s', Sit M.w.params base g os ns σ s' → Noted (fun v => v = rawInt L) base ns σ s'.heap e → Q () s') :
    wpAny M A (do setField (.ref e) 1 (← EntryCells.newEntry head (← PySem.frameOf env) .none (rawInt L) .none (← entryPlaceOf L hn))) Q E s := by
  run_tac beginC
  obtain ⟨fr, outer, a, b, c⟩ := fs.ex
  have ef : PySem.frameOf env = PySem.frameOf fr := by unfold PySem.frameOf; rw [b]
  rw [ef]
  refine wpAny_bind (wpAny_frameOf_fun a (funFrames S c) (b.symm.trans fs.f) fun h₁ k => ?_)
  have S1 := S.slots c k (n := s.toks)
  refine wpAny_bind (wpAny_entryPlaceOf fun pl hpl => ?_)
  unfold EntryCells.newEntry newFields
  refine wpAny_bind (wpAny_newObj_type ?_ (hpl.sizeOk5 _ _ _ _ _))
  have hfree : h₁.get? h₁.objs.size = none := Heap.get?_none_of_le (Nat.le_refl _)
  have S2 := S1.keeps (s' := { s with heap := h₁.push { cls := .type "traceback", dict := none, data := .fields ([head, .ref L, .none, rawInt L, .none] ++ (if pl.isEmpty then List.replicate 6 Value.none else pl)).toArray } }) (fun b o e => Heap.get?_push_of_some _ e) rfl rfl
  obtain ⟨ob, e1, c1, c2, c3, vs, c4, c5, _⟩ := S2.rep _ _ he
  have hT : (h₁.push { cls := .type "traceback", dict := none, data := .fields ([head, .ref L, .none, rawInt L, .none] ++ (if pl.isEmpty then List.replicate 6 Value.none else pl)).toArray }).get? h₁.objs.size = _ := Heap.get?_push_size _ rfl
  have hTe : h₁.objs.size ≠ e := by
    obtain ⟨ob1, e2, _⟩ := S1.rep _ _ he
    exact Nat.ne_of_gt (Heap.lt_size e2)
  refine wpAny_setField e1 c4 (by (run_tac Mine.Lin.om)) (h _ ?_ ?_)
  · refine S2.mod (s' := { s with heap := (h₁.push _).update e _ }) he rfl rfl (fun b o hb q => (Heap.get?_update_other _ _ (Ne.symm hb)).trans q) (Heap.get?_update_self _ e1 (Obj.isFreed_of_fields (Obj.data_mapFields c4 _))) ?_ rfl rfl
    refine ⟨(Obj.cls_mapFields _ _).trans c1, ?_, ?_, _, Obj.data_mapFields c4 _, by simpa using c5, fun q => by cases q⟩
    · obtain ⟨x1, x2, x3, x4⟩ := ob; simp only at c4; subst c4; exact c2
    · obtain ⟨x1, x2, x3, x4⟩ := ob; simp only at c4; subst c4; exact c3
  · refine ⟨_, _, Heap.get?_update_self _ e1 (Obj.isFreed_of_fields (Obj.data_mapFields c4 _)), Obj.data_mapFields c4 _, h₁.objs.size, _, _, rawInt L, by simp [c5], hTe, S1.free hfree, S1.base_none hfree, S1.notNs hfree, (Heap.get?_update_other _ _ (Ne.symm hTe)).trans hT, rfl, ?_, rfl⟩
    first | (simp; done) | (rcases hpl with rfl | ⟨_, _, _, _, _, _, _, rfl⟩ <;> simp)
  run_tac endC

theorem Head.prv {fl : Value → Prop} {h : Heap} {e : Addr} {vs : Array Value} (x : Head fl base ns σ h e vs) : ∃ T oT ts v, vs[1]? = some (.ref T) ∧ T ≠ e ∧ Prv base ns σ T ∧ h.get? T = some oT ∧ oT.data = .fields ts ∧ ts[3]? = some v ∧ fl v := by
  run_tac beginC
  obtain ⟨T, oT, ts, v, a, b, c, dd, e, f⟩ := x
  exact ⟨T, oT, ts, v, a, b, ⟨dd, e, c⟩, f⟩
  run_tac endC

theorem snd_note {e C : Addr} {dx : Option Addr} {L : Addr} {fr : Option Addr} {Q : Unit → Shared → Prop} (fs : Frs A env ns L) (hfr : fr = none ∨ fr = env.frame) (S : Sit w.params base g os ns σ s) (he : σ e = some (.exc C dx false)) (x : Fly fr base ns σ s.heap e)
    (h : ∀ s', Sit w.params base g os ns σ s' → Noted (fun v => v = rawInt L) base ns σ s'.heap e → Q () s') : wpAny (model prog w) A (noteFrame (.ref e) env) Q E s := by
  run_tac beginC
  obtain ⟨ob, vs, e1, e2, hx⟩ := x
  unfold noteFrame
  simp only [fs.f]
  rcases hx with h1 | hx
  · refine wpAny_bind (wpAny_field e1 e2 h1 ?_)
    rw [if_neg (by decide)]
    exact newEntryAt (M := model prog w) fs S he h
  · obtain ⟨T, oT, ts, v, h1, hne, p, hT, hd, h3, hv⟩ := hx.prv
    refine wpAny_bind (wpAny_field e1 e2 h1 ?_)
    rw [if_pos (show (Value.ref T != Value.none) = true from by simp)]
    refine wpAny_bind (wpAny_field hT hd h3 ?_)
    by_cases hq : v = rawInt L
    · subst hq
      rw [if_pos (show (rawInt L == rawInt L) = true from by simp)]
      exact wpAny_pure (h _ S ⟨ob, vs, e1, e2, T, oT, ts, _, h1, hne, p.o, p.b, p.n, hT, hd, h3, rfl⟩)
    · rw [if_neg (show ¬ (v == rawInt L) = true from by simpa using hq)]
      refine wpAny_bind (wpAny_setField hT hd (Array.getElem?_eq_some_iff.mp h3).1 ?_)
      have S1 := S.extBut (s' := { s with heap := s.heap.update T (Obj.mapFields (·.setIfInBounds 3 .none)) }) (fun b o hb q => (Heap.get?_update_other _ _ (Ne.symm hb)).trans q) p.b p.n p.o rfl rfl
      exact newEntryAt (M := model prog w) fs S1 he h
  run_tac endC

theorem snd_flight {e C : Addr} {dx : Option Addr} {L : Addr} {to : Option Addr} {Q : Unit → Shared → Prop} {fl : Value → Prop} (S : Sit w.params base g os ns σ s) (he : σ e = some (.exc C dx false)) (x : Noted fl base ns σ s.heap e)
    (h : ∀ s', Sit w.params base g os ns σ s' → Noted (fun v => v = to.elim .none fun f => rawInt f) base ns σ s'.heap e → Q () s') : wpAny (model prog w) A (setFlight (.ref e) to) Q E s := by
  run_tac beginC
  obtain ⟨ob, vs, e1, e2, hx⟩ := x
  obtain ⟨T, oT, ts, v, h1, hne, p, hT, hd, h3, hv⟩ := hx.prv
  unfold setFlight
  refine wpAny_bind (wpAny_field e1 e2 h1 ?_)
  rw [if_pos (show (Value.ref T != Value.none) = true from by simp)]
  have hsz := (Array.getElem?_eq_some_iff.mp h3).1
  refine wpAny_setField hT hd hsz (h _ (S.extBut (s' := { s with heap := s.heap.update T _ }) (fun b o hb q => (Heap.get?_update_other _ _ (Ne.symm hb)).trans q) p.b p.n p.o rfl rfl) ?_)
  exact ⟨ob, vs, (Heap.get?_update_other _ _ hne).trans e1, e2, T, _, _, _, h1, hne, p.o, p.b, p.n, Heap.get?_update_self _ hT (Obj.isFreed_of_fields (Obj.data_mapFields hd _)), Obj.data_mapFields hd _, by simp [hsz], rfl⟩
  run_tac endC

theorem Noted.fly {to : Option Addr} {h : Heap} {e : Addr} (x : Noted (fun v => v = to.elim .none fun f => rawInt f) base ns σ h e) : Fly to base ns σ h e := by
  run_tac beginC
  obtain ⟨ob, vs, e1, e2, T, oT, ts, v, h1, h2, h3, h4, h5, h6, h7, h8, h9⟩ := x
  refine ⟨ob, vs, e1, e2, .inr ⟨T, oT, ts, v, h1, h2, h3, h4, h5, h6, h7, h8, ?_⟩⟩
  cases to with
  | none => exact .inl h9
  | some f => exact .inr ⟨f, rfl, h9⟩
  run_tac endC

/-- leaving the frame -/
theorem snd_leaving {e C : Addr} {dx : Option Addr} {L : Addr} {fr : Option Addr} {Q : Unit → Shared → Prop} (fs : Frs A env ns L) (hfr : fr = none ∨ fr = env.frame) (S : Sit w.params base g os ns σ s) (he : σ e = some (.exc C dx false)) (x : Fly fr base ns σ s.heap e)
    (h : ∀ s', Sit w.params base g os ns σ s' → Fly none base ns σ s'.heap e → Q () s') : wpAny (model prog w) A (leaving env (.ref e)) Q E s := by
  run_tac beginC
  unfold leaving
  exact wpAny_bind (snd_note fs hfr S he x fun s1 S1 x1 => snd_flight (L := L) S1 he x1 fun s2 S2 x2 => h s2 S2 x2.fly)
  run_tac endC

/-- back from a code of the frame's own -/
theorem snd_back {e C : Addr} {dx : Option Addr} {L : Addr} {fl : Value → Prop} {Q : Unit → Shared → Prop} (S : Sit w.params base g os ns σ s) (he : σ e = some (.exc C dx false)) (x : Noted fl base ns σ s.heap e)
    (h : ∀ s', Sit w.params base g os ns σ s' → Fly env.frame base ns σ s'.heap e → Q () s') : wpAny (model prog w) A (do
    if (← field (.ref e) 1) == .none then unsupported "frame.own-activation:exception-without-traceback"
    setFlight (.ref e) env.frame) Q E s := by
  run_tac beginC
  have x0 := x
  obtain ⟨ob, vs, e1, e2, hx⟩ := x
  obtain ⟨T, oT, ts, v, h1, hne, p, hT, hd, h3, hv⟩ := hx.prv
  refine wpAny_bind (wpAny_field e1 e2 h1 ?_)
  rw [if_neg (show ¬ (Value.ref T == Value.none) = true from by simp)]
  exact snd_flight (L := L) S he x0 fun s2 S2 x2 => h s2 S2 x2.fly
  run_tac endC
end
end Mine
end

section
open PySem PySem.W PySem.Calls PyProof.Rows PySem.SeqAt
set_option maxRecDepth 100000
namespace Mine

section
variable {m : Bool} {prog : Program} {w : World} {F : Frag} {G : Str → Option Value} {base : Heap} {g : Array GenState} {os : OsState} {d : Nat} {r : Ev} {A : Around} {env : Env} {ns : List (Addr × Loc)} {loc : Loc} {σ : Store} {s : Shared} {X : KX}

noncomputable abbrev PL (w : World) (base : Heap) (g : Array GenState) (os : OsState) (env : Env) (ns : List (Addr × Loc)) (K : Loc → Store → Prop) : Unit → Shared → Prop := PostL w.params base g os ns env.locals K
noncomputable abbrev PXa (w : World) (base : Heap) (g : Array GenState) (os : OsState) (env : Env) (ns : List (Addr × Loc)) (X : KX) : Value → Shared → Prop := fun v s' => ∃ loc', PostX w.params base g os env.frame ((env.locals, loc') :: ns) X v s'

theorem snd_bindName {x : Str} {v : Value} {Kl : Loc → Store → Prop} {M : Model} {E : Value → Shared → Prop} (hk : env.scope.kind = .function) (S : Sit M.w.params base g os ((env.locals, loc) :: ns) σ s) (h : storeH env x (er v) loc σ Kl) :
    wpAny M A (bindName env x v) (PostL M.w.params base g os ns env.locals Kl) E s := wpAny_bindName (snd_store hk S h)

theorem snd_AsName (ok : Okk A env ns d) (S : Sit w.params base g os (NS env loc ns) σ s) {x : Str} {pos : Pos} {v : Value} {K : Loc → Store → Prop} {E : Value → Shared → Prop} (h : storeH env x (er v) loc σ K) :
    wpM m (model prog w) A (assign (.Name x pos) env v) (PL w base g os env ns K) E s := by
  run_tac beginC
  rw [arm_assign_Name]
  exact .of (wpAny_bind (wpAny_standAt (snd_bindName (M := model prog w) ok.kind S h)))
  run_tac endC

theorem snd_AsAttr (H : Snd m prog w F G g os d r) (T : Stat w F G base) (ok : Okk A env ns d) (S : Sit w.params base g os (NS env loc ns) σ s) {o : PySem.Expr} {a : Str} {pos : Pos} {v : Value} {K : Loc → Store → Prop}
    (h : r.E env o loc σ (fun ov σ => setAttrH F ov a (er v) σ fun σ => K loc σ) X) :
    wpM m (model prog w) A (assign (.Attribute o a pos) env v) (PL w base g os env ns K) (PXa w base g os env ns X) s := by
  run_tac beginC
  rw [arm_assign_Attribute]
  refine wpM_bind (wpM_holding (wpM_mono (H.E _ T _ _ _ _ _ _ _ _ _ ok S h) (fun ov s1 hq0 => ?_) fun _ _ x => ⟨loc, x⟩))
  obtain ⟨σ1, S1, h1⟩ := hq0
  refine wpM_bind (wpM_standAt (.of (wpAny_bind (wpAny_holding (snd_setAttr T S1 h1 fun σ2 s2 S2 k => ?_)))))
  exact wpAny_release' ⟨loc, σ2, S2, k⟩
  run_tac endC

theorem snd_AsSub (H : Snd m prog w F G g os d r) (T : Stat w F G base) (ok : Okk A env ns d) (S : Sit w.params base g os (NS env loc ns) σ s) {o i : PySem.Expr} {pos : Pos} {v : Value} {K : Loc → Store → Prop}
    (h : r.E env o loc σ (fun ov σ => r.E env i loc σ (fun iv σ => setItemH ov iv (er v) σ fun σ => K loc σ) X) X) :
    wpM m (model prog w) A (assign (.Subscript o i pos) env v) (PL w base g os env ns K) (PXa w base g os env ns X) s := by
  run_tac beginC
  rw [arm_assign_Subscript]
  refine wpM_bind (wpM_holding (wpM_mono (H.E _ T _ _ _ _ _ _ _ _ _ ok S h) (fun ov s1 hq0 => ?_) fun _ _ x => ⟨loc, x⟩))
  obtain ⟨σ1, S1, h1⟩ := hq0
  refine wpM_bind (wpM_holding (wpM_mono (H.E _ T _ _ _ _ _ _ _ _ _ ok S1 h1) (fun iv s2 hq0 => ?_) fun _ _ x => ⟨loc, x⟩))
  obtain ⟨σ2, S2, h2⟩ := hq0
  refine wpM_bind (wpM_standAt (.of (wpAny_bind (wpAny_holding (snd_setItem S2 h2 fun σ3 s3 S3 k => ?_)))))
  exact wpAny_release' ⟨loc, σ3, S3, k⟩
  run_tac endC

theorem assignEach_cons {e : PySem.Expr} {es : List PySem.Expr} (h : noStar e = true) : assignEach (e :: es) env = (false, assign e env) :: assignEach es env := by
  cases e <;> first | rfl | (cases h; done)
theorem assignEach_len : ∀ {es : List PySem.Expr}, es.all noStar = true → (assignEach es env).length = es.length ∧ (assignEach es env).findIdx? (·.1) = none
  | [], _ => ⟨rfl, rfl⟩
  | e :: es, h => by
    rw [List.all_cons, Bool.and_eq_true] at h
    obtain ⟨a, b⟩ := assignEach_len h.2
    rw [assignEach_cons h.1]
    exact ⟨by simp [a], by simp [List.findIdx?_cons, b]⟩

theorem snd_AsAll (H : Snd m prog w F G g os d r) (T : Stat w F G base) (ok : Okk A env ns d) {K : Loc → Store → Prop} : ∀ (ts : List PySem.Expr) (vs : List Value) (loc : Loc) (σ : Store) (s : Shared), ts.all noStar = true → Sit w.params base g os (NS env loc ns) σ s → r.AsAll env X ts (vs.map er) loc σ K →
    wpM m (model prog w) A (assignInOrder ((assignEach ts env).map (·.2)) vs) (PL w base g os env ns K) (PXa w base g os env ns X) s
  | [], [], loc, σ, s, _, S, h => wpM_pure ⟨loc, σ, S, h⟩
  | t :: ts, v :: vs, loc, σ, s, hs, S, h => by
    rw [List.all_cons, Bool.and_eq_true] at hs
    rw [assignEach_cons hs.1]
    show wpM m _ _ (do holding vs (assign t env v); assignInOrder ((assignEach ts env).map (·.2)) vs) _ _ _
    exact wpM_bind (wpM_holding (wpM_mono (H.As _ T _ _ _ _ _ _ _ _ _ _ ok S h) (fun _ s1 ⟨loc1, σ1, S1, h1⟩ => snd_AsAll H T ok ts vs loc1 σ1 s1 hs.2 S1 h1) fun _ _ x => x))
  | [], _ :: _, _, _, _, _, _, h => absurd h id
  | _ :: _, [], _, _, _, _, _, h => absurd h id

theorem snd_AsTuple (H : Snd m prog w F G g os d r) (T : Stat w F G base) (ok : Okk A env ns d) (S : Sit w.params base g os (NS env loc ns) σ s) {ts : List PySem.Expr} {k : Nat} {pos : Pos} {v : Value} {K : Loc → Store → Prop}
    (hs : ts.all noStar = true) (h : seqH (er v) σ fun vs => vs.length = ts.length ∧ r.AsAll env X ts vs loc σ K) :
    wpM m (model prog w) A (assign (.Tuple ts k pos) env v) (PL w base g os env ns K) (PXa w base g os env ns X) s := by
  run_tac beginC
  rw [arm_assign_Tuple]
  unfold seqH at h
  split at h
  · rename_i a e
    cases er_ref e
    split at h
    · rename_i vs q
      obtain ⟨hl, h⟩ := h
      obtain ⟨items, ht, hv, hz⟩ := S.tupAt q
      subst hv
      obtain ⟨l1, l2⟩ := assignEach_len (env := env) hs
      have hlen : (assignEach ts env).length = items.size := by rw [l1, ← hl]; simp
      refine wpM_bind (wpM_standAt ?_)
      unfold unpack
      rw [hlen, l2]
      refine wpM_bind (wpM_holding (.of (wpAny_unpackItems_tuple ok.hd ht fun h' hx => ?_)))
      have S' := S.keeps (s' := { s with heap := h' }) (fun b o e => hx b o (Nat.ne_of_lt (Heap.lt_size e)) e) rfl rfl
      exact snd_AsAll H T ok ts items.toList loc σ _ hs S' h
    · cases h
  · cases h
  run_tac endC

theorem snd_storeAll (ok : Okk A env ns d) {K : Loc → Store → Prop} {E : Value → Shared → Prop} : ∀ (xs : List Str) (vs : List Value) (loc : Loc) (σ : Store) (s : Shared), Sit w.params base g os (NS env loc ns) σ s → storeAll env xs (vs.map er) loc σ K →
    wpAny (model prog w) A (assignInOrder (xs.map fun n => bindName env n) vs) (PL w base g os env ns K) E s
  | [], [], loc, σ, s, S, h => wpAny_pure ⟨loc, σ, S, h⟩
  | x :: xs, v :: vs, loc, σ, s, S, h => by
    show wpAny _ _ (do holding vs (bindName env x v); assignInOrder (xs.map fun n => bindName env n) vs) _ _ _
    exact wpAny_bind (wpAny_holding (wpAny_mono (snd_bindName (M := model prog w) ok.kind S h) (fun _ s1 ⟨loc1, σ1, S1, h1⟩ => snd_storeAll ok xs vs loc1 σ1 s1 S1 h1) fun _ _ x => x))
  | [], _ :: _, _, _, _, _, h => absurd h id
  | _ :: _, [], _, _, _, _, h => absurd h id

noncomputable abbrev PSs (w : World) (base : Heap) (g : Array GenState) (os : OsState) (env : Env) (ns : List (Addr × Loc)) (K : KS) : Flow → Shared → Prop := PostS w.params base g os ns env.locals K
noncomputable abbrev PXs (w : World) (base : Heap) (g : Array GenState) (os : OsState) (env : Env) (ns : List (Addr × Loc)) (X : KXL) : Value → Shared → Prop := PostXL w.params base g os env.frame ns env.locals X

theorem xl {X : KXL} {v : Value} {s : Shared} (x : PX w base g os env loc ns (fun x σ => X x loc σ) v s) : PXs w base g os env ns X v s := by
  run_tac beginC
  obtain ⟨e, σ', a, b, c, dd, f⟩ := x
  exact ⟨e, loc, σ', a, b, c, dd, f⟩
  run_tac endC
theorem xa {E : Value → Shared → Prop} {v : Value} {s : Shared} (x : PXa w base g os env ns (fun _ _ => False) v s) : E v s := by
  obtain ⟨_, _, _, _, _, _, _, f⟩ := x
  exact f.elim
end
end Mine
end

section
open PySem PySem.W PySem.Calls PyProof.Rows PySem.SeqAt
set_option maxRecDepth 100000
namespace Mine

section
variable {m : Bool} {prog : Program} {w : World} {F : Frag} {G : Str → Option Value} {base : Heap} {g : Array GenState} {os : OsState} {d : Nat} {r : Ev} {A : Around} {env : Env} {ns : List (Addr × Loc)} {loc : Loc} {σ : Store} {s : Shared} {K : KS} {X : KXL}

theorem snd_Ss (H : Snd m prog w F G g os d r) (T : Stat w F G base) (ok : Okk A env ns d) : ∀ (b : List Stmt) (loc : Loc) (σ : Store) (s : Shared) (K : KS), Sit w.params base g os (NS env loc ns) σ s → r.Ss env b loc σ K X →
    wpM m (model prog w) A (execs b env) (PSs w base g os env ns K) (PXs w base g os env ns X) s
  | [], loc, σ, s, K, S, h => wpM_pure ⟨loc, σ, S, h⟩
  | t :: b, loc, σ, s, K, S, h => by
    rw [arm_execs_cons]
    refine wpM_bind (wpM_mono (H.S _ T _ _ _ _ _ _ _ _ _ ok S h) (fun f s1 hq0 => ?_) fun _ _ x => x)
    obtain ⟨loc1, σ1, S1, h1⟩ := hq0
    cases f with
    | next => exact snd_Ss H T ok b loc1 σ1 s1 K S1 h1
    | brk => exact wpM_pure ⟨loc1, σ1, S1, h1⟩
    | cont => exact wpM_pure ⟨loc1, σ1, S1, h1⟩
    | ret v => exact wpM_pure ⟨loc1, σ1, S1, h1⟩

theorem notInter (ok : Okk A env ns d) : interactive env = false := by unfold interactive; rw [ok.kind]; rfl

theorem snd_SExpr (H : Snd m prog w F G g os d r) (T : Stat w F G base) (ok : Okk A env ns d) (S : Sit w.params base g os (NS env loc ns) σ s) {f : PySem.Expr} {as : List PySem.Expr} {ks : List Keyword} {p pos : Pos}
    (h : r.E env (.Call f as ks p) loc σ (fun _ σ => K .next loc σ) (fun x σ => X x loc σ)) :
    wpM m (model prog w) A (exec (.Expr (.Call f as ks p) pos) env) (PSs w base g os env ns K) (PXs w base g os env ns X) s := by
  run_tac beginC
  rw [exec_Expr env _ pos (notInter ok) rfl]
  refine wpM_bind (wpM_standAt (wpM_bind (wpM_mono (H.E _ T _ _ _ _ _ _ _ _ _ ok S h) (fun v s1 hq0 => ?_) fun _ _ x => xl x)))
  obtain ⟨σ1, S1, h1⟩ := hq0
  exact .of (wpAny_dropValue ⟨loc, σ1, S1, h1⟩)
  run_tac endC

theorem snd_SReturn (H : Snd m prog w F G g os d r) (T : Stat w F G base) (ok : Okk A env ns d) (S : Sit w.params base g os (NS env loc ns) σ s) {e : PySem.Expr} {pos : Pos}
    (h : r.E env e loc σ (fun v σ => K (.ret v) loc σ) (fun x σ => X x loc σ)) :
    wpM m (model prog w) A (exec (.Return (some e) pos) env) (PSs w base g os env ns K) (PXs w base g os env ns X) s := by
  run_tac beginC
  rw [arm_exec_Return]
  refine wpM_bind (wpM_standAt ?_)
  show wpM m _ _ (eval e env >>= fun x => pure (Flow.ret x)) _ _ _
  exact wpM_bind (wpM_mono (H.E _ T _ _ _ _ _ _ _ _ _ ok S h) (fun v s1 ⟨σ1, S1, h1⟩ => wpM_pure ⟨loc, σ1, S1, h1⟩) fun _ _ x => xl x)
  run_tac endC

theorem snd_SIf (H : Snd m prog w F G g os d r) (T : Stat w F G base) (ok : Okk A env ns d) (S : Sit w.params base g os (NS env loc ns) σ s) {t : PySem.Expr} {a b : List Stmt} {pos : Pos}
    (h : r.T env t loc σ (fun q σ => match q with | true => r.Ss env a loc σ K X | false => r.Ss env b loc σ K X) (fun x σ => X x loc σ)) :
    wpM m (model prog w) A (exec (.If t a b pos) env) (PSs w base g os env ns K) (PXs w base g os env ns X) s := by
  run_tac beginC
  rw [arm_exec_If]
  refine wpM_bind (wpM_standAt (wpM_bind (wpM_mono (H.T _ T _ _ _ _ _ _ _ _ _ ok S h) (fun q s1 hq0 => ?_) fun _ _ x => xl x)))
  obtain ⟨σ1, S1, h1⟩ := hq0
  cases q
  · exact snd_Ss H T ok b loc σ1 s1 K S1 h1
  · exact snd_Ss H T ok a loc σ1 s1 K S1 h1
  run_tac endC

theorem noSwap {t e : PySem.Expr} {line : Nat} (h : notComp e = true) : swapsWithSole [t] e line env = pure false := by
  run_tac beginC
  show swapsWith e (some t) line env = pure false
  unfold swapsWith
  cases e <;> first | rfl | (cases h; done)
  run_tac endC

theorem snd_SAssign (H : Snd m prog w F G g os d r) (T : Stat w F G base) (ok : Okk A env ns d) (S : Sit w.params base g os (NS env loc ns) σ s) {t e : PySem.Expr} {pos : Pos} (hc : notComp e = true) (ht : noStar t = true)
    (h : r.E env e loc σ (fun v σ => (match swappedStores [t] e env with
      | .pure (some xs) => seqH v σ fun vs => vs.length = xs.length ∧ storeAll env xs.reverse vs.reverse loc σ fun loc σ => K .next loc σ
      | .pure none => r.As env t v loc σ (fun loc σ => K .next loc σ) fun _ _ => False
      | _ => False)) (fun x σ => X x loc σ)) :
    wpM m (model prog w) A (exec (.Assign [t] e pos) env) (PSs w base g os env ns K) (PXs w base g os env ns X) s := by
  run_tac beginC
  rw [arm_exec_Assign, noSwap hc]
  refine wpM_bind (wpM_standAt (wpM_bind (wpM_pure ?_)))
  rw [if_neg Bool.false_ne_true]
  refine wpM_bind (wpM_mono (H.E _ T _ _ _ _ _ _ _ _ _ ok S h) (fun v s1 hq0 => ?_) fun _ _ x => xl x)
  obtain ⟨σ1, S1, h1⟩ := hq0
  try dsimp only at h1
  generalize hsw : swappedStores [t] e env = y at h1
  (run_tac invT `h1)
  · refine wpM_bind (wpM_pure ?_)
    show wpM m _ _ (do assignAll v ((assignEach [t] env).map (·.2)); pure Flow.next) _ _ _
    rw [assignEach_cons ht]
    show wpM m _ _ (assign t env v >>= fun _ => pure Flow.next) _ _ _
    exact wpM_bind (wpM_mono (H.As _ T _ _ _ _ _ _ _ _ _ _ ok S1 h1) (fun _ s2 q => wpM_pure q) fun _ _ x => xa x)
  · rename_i xs
    refine wpM_bind (wpM_pure ?_)
    unfold seqH at h1
    generalize e' : er v = y at h1
    (run_tac invT `h1)
    · rename_i a
      cases er_ref e'
      generalize q : σ1 a = y at h1
      (run_tac invT `h1)
      · rename_i vs
        obtain ⟨hl, h1⟩ := h1
        obtain ⟨items, hit, hv, hz⟩ := S1.tupAt q
        have hlen : xs.length = items.size := by rw [← hl, ← hv]; simp
        show wpM m _ _ (do rule "assign.swapped-stores"; let items ← unpackItems (.ref a) xs.length none; assignInOrder (xs.reverse.map fun n => bindName env n) items.reverse; pure Flow.next) _ _ _
        rw [hlen]
        refine .of (wpAny_bind (wpAny_rule (wpAny_bind (wpAny_unpackItems_tuple ok.hd hit fun h' hx => ?_))))
        have S' := S1.keeps (s' := { s1 with heap := h' }) (fun b o e => hx b o (Nat.ne_of_lt (Heap.lt_size e)) e) rfl rfl
        rw [← hv, ← List.map_reverse] at h1
        exact wpAny_bind (wpAny_mono (snd_storeAll ok xs.reverse items.toList.reverse loc σ1 _ S' h1) (fun _ s2 q => wpAny_pure q) fun _ _ x => x)
  run_tac endC

theorem Sit.swap {P : Params} {a b : Addr × Loc} (S : Sit P base g os (a :: b :: ns) σ s) : Sit P base g os (b :: a :: ns) σ s :=
  { S with
    nsok := fun p hp => S.nsok p (by
      rcases List.mem_cons.mp hp with rfl | hp
      · exact .tail _ (.head _)
      · rcases List.mem_cons.mp hp with rfl | hp
        · exact .head _
        · exact .tail _ (.tail _ hp))
    nd := by
      have := S.nd
      simp only [List.map_cons, List.nodup_cons, List.mem_cons, not_or] at this ⊢
      exact ⟨⟨fun q => this.1.1 q.symm, this.2.1⟩, this.1.2, this.2.2⟩ }

theorem snd_SAug (H : Snd false prog w F G g os d r) (T : Stat w F G base) (ok : Okk A env ns d) (S : Sit w.params base g os (NS env loc ns) σ s) {x : Str} {e : PySem.Expr} {p pos : Pos}
    (h : lookH G env x loc σ fun a => r.E env e loc σ (fun b σ => (match a, b with
      | .int i _, .int j _ => storeH env x (vI (i + j)) loc σ fun loc σ => K .next loc σ
      | _, _ => False)) (fun x σ => X x loc σ)) :
    wpAny (model prog w) A (exec (.AugAssign (.Name x p) .Add e pos) env) (PSs w base g os env ns K) (PXs w base g os env ns X) s := by
  run_tac beginC
  rw [arm_exec_AugAssign]
  refine wpAny_bind (wpAny_standAt (wpAny_bind (snd_load T ok.kind ok.glob ok.bi S h fun a h1 => ?_)))
  refine wpAny_bind (wpAny_holding (wpAny_mono (wpM.all (H.E _ T _ _ _ _ _ _ _ _ _ ok S h1)) (fun b s1 hq0 => ?_) fun _ _ x => xl x))
  obtain ⟨σ1, S1, h2⟩ := hq0
  try dsimp only at h2
  split at h2
  · rename_i i _ j _ e1 e2
    obtain ⟨t, rfl⟩ := er_int e1
    obtain ⟨u, rfl⟩ := er_int e2
    refine wpAny_bind (wpAny_standAt (wpAny_bind (wpAny_operate' (wpAny_iadd_int ?_))))
    refine wpAny_bind (wpAny_standAt ?_)
    refine wpAny_bind (wpAny_mono (snd_bindName (M := model prog w) ok.kind S1.toks (v := .int (i + j) _) h2) (fun _ s2 ⟨loc2, σ2, S2, h3⟩ => wpAny_pure ⟨loc2, σ2, S2, h3⟩) fun _ _ x => x)
  · cases h2
  run_tac endC
end
end Mine
end

section
open PySem PySem.W PySem.Calls PyProof.Rows PySem.SeqAt
set_option maxRecDepth 100000
namespace Mine

section
variable {m : Bool} {prog : Program} {w : World} {F : Frag} {G : Str → Option Value} {base : Heap} {g : Array GenState} {os : OsState} {d : Nat} {r : Ev} {A : Around} {env : Env} {ns : List (Addr × Loc)} {loc : Loc} {σ : Store} {s : Shared} {K : KS} {X : KXL}

theorem swaps_pure {t elt : PySem.Expr} {gens : List Comprehension} {scope : Scope} {lp : Pos} {line : Nat} : ∃ b, swapsWithSole [t] (.ListComp elt gens scope lp) line env = pure b := by
  run_tac beginC
  show ∃ b, swapsWith (.ListComp elt gens scope lp) (some t) line env = pure b
  cases t <;> exact ⟨_, rfl⟩
  run_tac endC

theorem evalUse_eq {elt tgt it : PySem.Expr} {ifs : List PySem.Expr} {scope : Scope} {lp : Pos} {use : Value → Sem Unit} : evalThenUse (.ListComp elt [⟨tgt, it, ifs, 0⟩] scope lp) env use =
    (comprehension (.ListComp elt [⟨tgt, it, ifs, 0⟩] scope lp) scope env (firstIterPos [⟨tgt, it, ifs, 0⟩] lp) (newList []) false (eval it env) (some use) >>= fun _ => pure ()) := by
  rw [arm_evalThenUse_ListComp]; rfl

theorem snd_SComp (H : Snd false prog w F G g os d r) (T : Stat w F G base) (ok : Okk A env ns d) (S : Sit w.params base g os (NS env loc ns) σ s) {t elt tgt it : PySem.Expr} {ifs : List PySem.Expr} {scope : Scope} {lp pos : Pos} (ht : noStar t = true)
    (h : listCompH r elt tgt it ifs scope env loc σ (fun v σ => r.As env t v loc σ (fun loc σ => K .next loc σ) fun _ _ => False) fun x σ => X x loc σ) :
    wpAny (model prog w) A (exec (.Assign [t] (.ListComp elt [⟨tgt, it, ifs, 0⟩] scope lp) pos) env) (PSs w base g os env ns K) (PXs w base g os env ns X) s := by
  run_tac beginC
  obtain ⟨hs, h⟩ := h
  obtain ⟨b, hb⟩ := swaps_pure (env := env) (t := t) (elt := elt) (gens := [⟨tgt, it, ifs, 0⟩]) (scope := scope) (lp := lp) (line := pos.line)
  rw [arm_exec_Assign, hb]
  refine wpAny_bind (wpAny_standAt (wpAny_bind (wpAny_pure ?_)))
  cases b with
  | true =>
    rw [if_pos rfl, evalUse_eq]
    refine wpAny_bind (wpAny_bind ?_)
    refine (wpAny_mono (snd_comp H T ok S hs (K := fun v σ => r.As env t v loc σ (fun loc σ => K .next loc σ) fun _ _ => False) h (Q := fun _ s' => PSs w base g os env ns K .next s') fun acc L locC σ' s' S' k => ?_) (fun _ s' q => wpAny_pure (wpAny_pure q)) fun _ _ x => xl x)
    have S2 := S'.swap
    obtain ⟨fr, outer, o1, o2, o3⟩ := ok.frames
    have ok2 : Okk A env ((L, locC) :: ns) d := ⟨ok.hd, ok.kind, ok.glob, ok.bi, ⟨fr, outer, o1, o2, o3.more fun a ha => by
      rcases List.mem_cons.mp ha with q | q
      · rw [q]; exact .head _
      · exact .tail _ (.tail _ q)⟩, ok.depth, ok.units⟩
    show wpAny _ _ (assignAll (.ref acc) ((assignEach [t] env).map (·.2))) _ _ _
    rw [assignEach_cons ht]
    show wpAny _ _ (assign t env (.ref acc)) _ _ _
    refine wpAny_mono (wpM.all (H.As _ T _ _ ((L, locC) :: ns) _ _ _ (.ref acc) _ _ _ ok2 S2 k)) (fun _ s2 hq0 => ?_) fun _ _ x => xa x
    obtain ⟨loc2, σ2, S3, h2⟩ := hq0
    have S4 := S3.swap
    obtain ⟨mm, hm, _⟩ := (S4.nsok _ (.head _)).1
    have p := S4.nsok _ (.head _)
    have nd := S4.nd
    rw [List.map_cons, List.nodup_cons] at nd
    exact ⟨mm, hm, fun h' hx => ⟨loc2, σ2, S4.nsPop.extBut (s' := { s2 with heap := h' }) hx.extBut p.2.1 nd.1 p.2.2 rfl rfl, h2⟩⟩
  | false =>
    rw [if_neg Bool.false_ne_true]
    refine wpAny_bind (wpAny_mono (snd_ListComp H T ok S hs (K := fun v σ => r.As env t v loc σ (fun loc σ => K .next loc σ) fun _ _ => False) h) (fun v s1 hq0 => ?_) fun _ _ x => xl x)
    obtain ⟨σ1, S1, h1⟩ := hq0
    have hsw : swappedStores [t] (.ListComp elt [⟨tgt, it, ifs, 0⟩] scope lp) env = pure none := by cases t <;> rfl
    rw [hsw]
    refine wpAny_bind (wpAny_pure ?_)
    show wpAny _ _ (do assignAll v ((assignEach [t] env).map (·.2)); pure Flow.next) _ _ _
    rw [assignEach_cons ht]
    show wpAny _ _ (assign t env v >>= fun _ => pure Flow.next) _ _ _
    exact wpAny_bind (wpAny_mono (wpM.all (H.As _ T _ _ _ _ _ _ _ _ _ _ ok S1 h1)) (fun _ s2 ⟨loc2, σ2, S2, h2⟩ => wpAny_pure ⟨loc2, σ2, S2, h2⟩) fun _ _ x => xa x)
  run_tac endC

/-- an exception noted in the frame -/
noncomputable def PXn (w : World) (base : Heap) (g : Array GenState) (os : OsState) (env : Env) (ns : List (Addr × Loc)) (L : Addr) (X : KXL) : Value → Shared → Prop := fun v s' =>
  ∃ e loc' σ', v = .ref e ∧ Sit w.params base g os (NS env loc' ns) σ' s' ∧ Noted (fun v => v = rawInt L) base (NS env loc' ns) σ' s'.heap e ∧ (∃ C dx, σ' e = some (.exc C dx false)) ∧ X e loc' σ'

theorem note_of {L : Addr} {v : Value} {Q : Unit → Shared → Prop} {E : Value → Shared → Prop} (fs : Frs A env (NS env loc ns) L) (x : PXs w base g os env ns X v s) (h : ∀ s', PXn w base g os env ns L X v s' → Q () s') : wpAny (model prog w) A (noteFrame v env) Q E s := by
  run_tac beginC
  obtain ⟨e, loc', σ', rfl, S, fl, ⟨C, dx, he⟩, hx⟩ := x
  exact snd_note (ns := NS env loc' ns) ⟨fs.f, fs.ex⟩ (.inr rfl) S he fl fun s1 S1 n1 => h s1 ⟨e, loc', σ', rfl, S1, n1, ⟨C, dx, he⟩, hx⟩
  run_tac endC
theorem back_of {L : Addr} {v : Value} {Q : Unit → Shared → Prop} {E : Value → Shared → Prop} (x : PXn w base g os env ns L X v s) (h : ∀ s', PXs w base g os env ns X v s' → Q () s') : wpAny (model prog w) A (do
    if (← field v 1) == .none then unsupported "frame.own-activation:exception-without-traceback"
    setFlight v env.frame) Q E s := by
  run_tac beginC
  obtain ⟨e, loc', σ', rfl, S, fl, ⟨C, dx, he⟩, hx⟩ := x
  exact snd_back (L := L) S he fl fun s1 S1 n1 => h s1 ⟨e, loc', σ', rfl, S1, n1, ⟨C, dx, he⟩, hx⟩
  run_tac endC
theorem flight_of {L : Addr} {v : Value} {Q : Unit → Shared → Prop} {E : Value → Shared → Prop} (x : PXn w base g os env ns L X v s) (h : ∀ s', PXn w base g os env ns L X v s' ∨ (∃ e loc' σ', v = .ref e ∧ Sit w.params base g os (NS env loc' ns) σ' s' ∧ Noted (fun v => v = .none) base (NS env loc' ns) σ' s'.heap e ∧ (∃ C dx, σ' e = some (.exc C dx false)) ∧ X e loc' σ') → Q () s') :
    wpAny (model prog w) A (setFlight v none) Q E s := by
  run_tac beginC
  obtain ⟨e, loc', σ', rfl, S, fl, ⟨C, dx, he⟩, hx⟩ := x
  exact snd_flight (L := L) S he fl fun s1 S1 n1 => h s1 (.inr ⟨e, loc', σ', rfl, S1, n1, ⟨C, dx, he⟩, hx⟩)
  run_tac endC

theorem for_loop (H : Snd m prog w F G g os d r) (T : Stat w F G base) (ok : Okk A env ns d) {L : Addr} (fs : Frs A env (NS env loc ns) L) {tgt : PySem.Expr} {body : List Stmt} {I : Addr} {gd : Store → Prop} {R : Result → Shared → Prop}
    (hR : ∀ f s', PSs w base g os env ns K f s' → R (.ok f) s') (hX : ∀ v s', PXn w base g os env ns L X v s' → R (.error v) s') :
    ∀ (xs : List Value) (s : Shared) (σ : Store) (loc : Loc), Sit w.params base g os (NS env loc ns) σ s → Prv base (NS env loc ns) σ I → ItAt s.heap I gd xs →
    forH gd (fun x loc σ K => r.As env tgt x loc σ K fun _ _ => False) (fun loc σ K => r.Ss env body loc σ K X) xs loc σ K →
    codeM m (model prog w) A (.forLoop tgt (.ref I) body [] env) R s := by
  run_tac beginC
  intro xs
  induction xs with
  | nil =>
    intro s σ loc S p it h
    refine codeM_of_tree ?_
    show wpM m _ A ((forTurn tgt (.ref I) body [] env).onRaise (fun x => do noteFrame x env; theTreesLotGoes x)) _ _ s
    refine wpM_onRaise (E := fun e s' => R (.error e) s') ?_
    simp only [forTurn]
    refine wpM_bind (wpM_standAt (wpM_bind (wpM_onRaise (.of (snd_next ok.hd S p it h.1 (fun s' _ S' => ?_) (fun v ys s' e _ _ => by cases e))))))
    refine wpM_pure ⟨rfl, rfl, .of (codeAny_block (wpAny_execs_nil (hR _ _ ⟨loc, σ, S', h.2⟩)))⟩
  | cons x xs ih =>
    intro s σ loc S p it h
    obtain ⟨hg, h⟩ := h
    refine codeM_of_tree ?_
    show wpM m _ A ((forTurn tgt (.ref I) body [] env).onRaise (fun x => do noteFrame x env; theTreesLotGoes x)) _ _ s
    refine wpM_onRaise (E := fun e s' => R (.error e) s') ?_
    simp only [forTurn]
    refine wpM_bind (wpM_standAt (wpM_bind (wpM_onRaise (.of (snd_next ok.hd S p it hg (fun s' e _ => by cases e) (fun v ys s1 e S1 it1 => ?_))))))
    cases e
    refine wpM_bind (.of (snd_letTuple it1 ?_))
    obtain ⟨o, hI, hc, hit⟩ := it1.obj
    obtain ⟨base', hbb, S1', hold⟩ := S1.rebase
    have hIb := hold _ _ hI p.o p.n
    have T' := T.up hbb
    have go : ∀ {s2 : Shared} {σ2 : Store} {loc2 : Loc}, Sit w.params base' g os (NS env loc2 ns) σ2 s2 →
        forH gd (fun x loc σ K => r.As env tgt x loc σ K fun _ _ => False) (fun loc σ K => r.Ss env body loc σ K X) xs loc2 σ2 K → codeM m (model prog w) A (.forLoop tgt (.ref I) body [] env) R s2 :=
      fun S2 h2 => ih _ _ _ (S2.unbase hbb) (p.of_sit hIb hc S2) (hit _ (S2.held hIb hc).2.2) h2
    refine wpM_bind (wpM_mono (H.As _ T' _ _ _ _ _ _ _ _ _ _ ok S1' h) (fun _ s2 hq0 => ?_) fun _ _ x => (xa (E := fun _ _ => False) x).elim)
    obtain ⟨loc2, σ2, S2, h2⟩ := hq0
    have out : ∀ {v : Value} {s' : Shared}, PXs w base' g os env ns X v s' → wpM m (model prog w) A (do noteFrame v env; theTreesLotGoes v) (fun _ s'' => R (.error v) s'') (fun e s' => R (.error e) s') s' := by
      rintro v s' ⟨e, loc', σ', rfl, S', fl, he, hx⟩
      refine .of (wpAny_bind (note_of (w := w) (X := X) (base := base) (ns := ns) fs ⟨e, loc', σ', rfl, S'.unbase hbb, fl.unbase hbb, he, hx⟩ fun s3 n3 => ?_))
      exact wpAny_theTreesLotGoes (hX _ _ n3)
    refine wpM_bind (wpM_mono (snd_Ss H T' ok body loc2 σ2 s2 _ S2 h2) (fun f s3 hq0 => ?_) fun _ _ x => out x)
    obtain ⟨loc3, σ3, S3, h3⟩ := hq0
    cases f with
    | next => exact wpM_pure ⟨rfl, rfl, go S3 h3⟩
    | cont => exact wpM_pure ⟨rfl, rfl, go S3 h3⟩
    | brk => exact wpM_pure (hR _ _ ⟨loc3, σ3, S3.unbase hbb, h3⟩)
    | ret v => exact wpM_pure (hR _ _ ⟨loc3, σ3, S3.unbase hbb, h3⟩)
  run_tac endC

theorem snd_SFor (H : Snd m prog w F G g os d r) (T : Stat w F G base) (ok : Okk A env ns d) (S : Sit w.params base g os (NS env loc ns) σ s) {t it : PySem.Expr} {body : List Stmt} {pos : Pos} (hs : notSet it = true)
    (h : r.E env it loc σ (fun v σ => iterH v σ fun items g => forH g (fun x loc σ K => r.As env t x loc σ K fun _ _ => False) (fun loc σ K => r.Ss env body loc σ K X) items loc σ K) (fun x σ => X x loc σ)) :
    wpM m (model prog w) A (exec (.For t it body [] pos) env) (PSs w base g os env ns K) (PXs w base g os env ns X) s := by
  run_tac beginC
  obtain ⟨L, fs⟩ := ok.frs (loc := loc)
  rw [arm_exec_For]
  refine wpM_bind (wpM_standAt (wpM_bind (wpM_mono (H.E _ T _ _ _ _ _ _ _ _ _ ok S h) (fun v s1 hq0 => ?_) fun _ _ x => xl x)))
  obtain ⟨σ1, S1, k1⟩ := hq0
  rw [folded_of hs]
  refine wpM_bind (wpM_pure (wpM_bind (wpM_standAt (wpM_bind (wpM_holding (.of (snd_iter S1 k1 fun I gd xs s2 hI S2 it2 k2 => ?_)))))))
  unfold runOwn
  refine wpM_onRaise (wpM_run rfl ?_)
  show codeM m _ (A.mark none) _ _ _
  have hA : A.mark none = A := rfl
  rw [hA]
  exact for_loop H T ok fs (fun f s' q => q) (fun v s' n => .of (back_of n fun s3 q => q)) xs s2 σ1 loc S2 ⟨S1.base_none hI, S1.notNs hI, S1.free hI⟩ it2 k2
  run_tac endC
end
end Mine
end

section
open PySem PySem.W PySem.Calls PyProof.Rows PySem.SeqAt
set_option maxRecDepth 100000
namespace Mine

section
variable {m : Bool} {prog : Program} {w : World} {F : Frag} {G : Str → Option Value} {base : Heap} {g : Array GenState} {os : OsState} {d : Nat} {r : Ev} {A : Around} {env : Env} {ns : List (Addr × Loc)} {loc : Loc} {σ : Store} {s : Shared} {K : KS} {X : KXL}

/-- the class of a told exception -/
theorem Sit.excType {M : Model} {P : Params} (S : Sit P base g os ns σ s) {e C : Addr} {dx : Option Addr} {n : Bool} (h : σ e = some (.exc C dx n)) : Looks M s.heap (typeOf (.ref e)) (.ref C) := by
  run_tac beginC
  obtain ⟨ob, e1, c1, _⟩ := S.rep _ _ h
  intro A Q E s' k q
  unfold typeOf
  refine wpAny_bind (wpAny_loadPart (k _ _ e1) ?_)
  rw [c1]
  exact wpAny_pure q
  run_tac endC

theorem snd_isExc {e C : Addr} {dx : Option Addr} {n : Bool} {Q : Bool → Shared → Prop} {E : Value → Shared → Prop} (S : Sit w.params base g os ns σ s) (h : σ e = some (.exc C dx n)) (hq : Q false s) :
    wpAny (model prog w) A (isType (.ref e)) Q E s := by
  run_tac beginC
  obtain ⟨ob, e1, c1, c2, c3, vs, c4, c5, c6⟩ := S.rep _ _ h
  refine wpAny_bind (wpAny_loadPart e1 ?_)
  rw [c4]
  exact wpAny_pure hq
  run_tac endC

theorem snd_SRaise (H : Snd false prog w F G g os d r) (T : Stat w F G base) (ok : Okk A env ns d) (S : Sit w.params base g os (NS env loc ns) σ s) {e : PySem.Expr} {pos : Pos}
    (h : r.E env e loc σ (fun v σ => (match v with
      | .ref x => (match σ x with
          | some (.exc C dx true) => raiseOk F C = true ∧ X x loc (σ.set x (.exc C dx false))
          | _ => False)
      | _ => False)) (fun x σ => X x loc σ)) :
    wpAny (model prog w) A (exec (.Raise (some e) none pos) env) (PSs w base g os env ns K) (PXs w base g os env ns X) s := by
  run_tac beginC
  rw [arm_exec_Raise]
  show wpAny _ _ (do standAt pos; raiseStmt env (some (do let v ← eval e env; standAt pos; pure v)) none) _ _ _
  refine wpAny_bind (wpAny_standAt ?_)
  unfold raiseStmt
  refine wpAny_bind (wpAny_bind (wpAny_mono (wpM.all (H.E _ T _ _ _ _ _ _ _ _ _ ok S h)) (fun v s1 hq0 => ?_) fun _ _ x => xl x))
  obtain ⟨σ1, S1, h1⟩ := hq0
  refine wpAny_bind (wpAny_standAt (wpAny_pure ?_))
  try dsimp only at h1
  generalize ex : er v = y at h1
  (run_tac invT `h1)
  · rename_i x
    cases er_ref ex
    generalize hx : σ1 x = y at h1
    (run_tac invT `h1)
    · rename_i C dx
      obtain ⟨hr, h1⟩ := h1
      simp only [raiseOk, Bool.and_eq_true, beq_iff_eq] at hr
      obtain ⟨r2, r3⟩ := hr
      have X1 : F.In s1.heap := T.kin.keeps S1.stays
      have LT := S1.excType (M := model prog w) hx
      obtain ⟨ob, e1, c1, c2, c3, vs, c4, c5, c6⟩ := S1.rep _ _ hx
      have fin : PXs w base g os env ns X (.ref x) s1 := by
        refine ⟨x, loc, σ1.set x (.exc C dx false), rfl, S1.turn (s' := s1) hx rfl rfl (fun b o _ e => e) e1 (o := .exc C dx false) ⟨c1, c2, c3, vs, c4, c5, fun q => by cases q⟩ rfl rfl rfl, ⟨ob, vs, e1, c4, .inl (c6 rfl)⟩, ⟨C, dx, setSame⟩, h1⟩
      refine wpAny_bind (wpAny_pure ?_)
      refine wpAny_bind (wpAny_holding ?_)
      · unfold excFromValue isExcClass
        refine wpAny_bind (wpAny_bind (snd_isExc S1 hx ?_))
        rw [if_neg Bool.false_ne_true]
        refine wpAny_pure ?_
        rw [if_neg Bool.false_ne_true]
        refine wpAny_bind ?_
        unfold isInstance
        refine wpAny_bind (LT.here ((looks_subIn X1 r2).here ?_))
        rw [if_pos rfl]
        refine wpAny_pure ?_
        refine wpAny_bind (snd_isExc S1 hx ?_)
        rw [if_neg Bool.false_ne_true]
        unfold raisedInstance
        refine wpAny_bind (wpAny_bind (LT.here (wpAny_bind ((looks_typeIn X1 r3).here ?_))))
        rw [if_pos (by decide)]
        refine wpAny_pure ?_
        unfold setFlight
        refine wpAny_bind (wpAny_bind (wpAny_field e1 c4 (c6 rfl) ?_))
        rw [if_neg (by decide)]
        exact wpAny_pure (wpAny_raiseNew_none ok.hd fin)
  run_tac endC

/-- what a clause of simple parts returns -/
theorem snd_Name' {A : Around} (T : Stat w F G base) (ok : env.scope.kind = .function ∧ env.globals = mainGlobals ∧ env.builtins = builtinsNs) (S : Sit w.params base g os (NS env loc ns) σ s) {x : Str} {p : Pos} {Kv : Value → Prop} {Q : Value → Shared → Prop} {E : Value → Shared → Prop} (h : lookH G env x loc σ Kv)
    (hq : ∀ v, Kv (er v) → Q v s) : wpAny (model prog w) A (eval (.Name x p) env) Q E s := by
  run_tac beginC
  rw [arm_eval_Name]
  have hx : (x == ("__debug__" : Str)) = false := by
    unfold lookH at h
    split at h
    · cases h
    · assumption
  refine wpAny_bind (wpAny_standAt ?_)
  rw [hx, if_neg Bool.false_ne_true]
  exact snd_load T ok.1 ok.2.1 ok.2.2 S h hq
  run_tac endC

theorem snd_simpE {A : Around} (T : Stat w F G base) (ok : env.scope.kind = .function ∧ env.globals = mainGlobals ∧ env.builtins = builtinsNs) (S : Sit w.params base g os (NS env loc ns) σ s) {e : PySem.Expr} {Kv : Value → Prop} {Q : Value → Shared → Prop} {E : Value → Shared → Prop} (h : simpE F G env e loc σ Kv)
    (hq : ∀ v s', Sit w.params base g os (NS env loc ns) σ s' → Kv (er v) → Q v s') : wpAny (model prog w) A (eval e env) Q E s := by
  run_tac beginC
  unfold simpE at h
  (run_tac invT `h)
  · rename_i c k pos
    have h' : cstH c fun v => (fun v σ' => σ' = σ ∧ Kv v) v σ := by
      unfold cstH at h ⊢
      cases c <;> first | exact ⟨rfl, h⟩ | exact h
    exact wpAny_mono (snd_cst (K := fun v σ' => σ' = σ ∧ Kv v) S h') (fun v s' ⟨σ', S', e, k⟩ => by subst e; exact hq v s' S' k) fun _ _ x => x
  · rename_i x p a pos
    rw [arm_eval_Attribute, attrBase rfl]
    refine wpAny_bind (snd_Name' T ok S h fun v h1 => ?_)
    refine wpAny_bind (wpAny_standAt (wpAny_bind (wpAny_holding (snd_getAttr T S h1 fun u n k => ?_))))
    exact wpAny_bind (wpAny_letTemporaryGo (wpAny_pure (hq _ _ S.toks k)))
  run_tac endC

theorem snd_simpEs {A : Around} (T : Stat w F G base) (ok : env.scope.kind = .function ∧ env.globals = mainGlobals ∧ env.builtins = builtinsNs) {pos : Pos} {E : Value → Shared → Prop} : ∀ (es : List PySem.Expr) (s : Shared) (Kv : List Value → Prop) (Q : List Value → Shared → Prop), Sit w.params base g os (NS env loc ns) σ s → simpEs F G env loc σ es Kv →
    (∀ vs s', Sit w.params base g os (NS env loc ns) σ s' → Kv (vs.map er) → Q vs s') → wpAny (model prog w) A (spliced (backTo pos (starEach es env))) Q E s
  | [], s, Kv, Q, S, h, hq => wpAny_pure (hq [] s S h)
  | e :: es, s, Kv, Q, S, h, hq => by
    have hn : ∀ x p, e ≠ .Starred x p := fun x p q => by
      subst q
      exact absurd h id
    rw [starEach_cons hn]
    show wpAny _ _ (do let v ← eval e env; let here ← (pure [v] : Sem (List Value)); return here ++ (← holding here (spliced (backTo pos (starEach es env))))) _ _ _
    refine wpAny_bind (snd_simpE T ok S h fun v s1 S1 h1 => ?_)
    refine wpAny_bind (wpAny_pure (wpAny_bind (wpAny_holding ?_)))
    exact snd_simpEs T ok es s1 _ _ S1 h1 fun vs s2 S2 h2 => wpAny_pure (hq (v :: vs) s2 S2 h2)

/-- a clause's suite: one return of a tuple -/
theorem snd_suite {A : Around} (T : Stat w F G base) (ok : env.scope.kind = .function ∧ env.globals = mainGlobals ∧ env.builtins = builtinsNs) (S : Sit w.params base g os (NS env loc ns) σ s) {elts : List PySem.Expr} {k : Nat} {p1 p2 : Pos} {K1 : KV} {Q : Flow → Shared → Prop} {E : Value → Shared → Prop}
    (h : simpEs F G env loc σ elts fun vs => vs.length ≤ 1000 ∧ alloc (.tup vs) σ K1) (hq : ∀ v σ' s', Sit w.params base g os (NS env loc ns) σ' s' → K1 (er v) σ' → Q (.ret v) s') :
    wpAny (model prog w) A (execs [.Return (some (.Tuple elts k p1)) p2] env) Q E s := by
  run_tac beginC
  rw [arm_execs_cons, arm_exec_Return]
  refine wpAny_bind (wpAny_bind (wpAny_standAt ?_))
  show wpAny _ _ (eval (.Tuple elts k p1) env >>= fun x => pure (Flow.ret x)) _ _ _
  rw [arm_eval_Tuple]
  refine wpAny_bind (wpAny_bind (wpAny_standAt (wpAny_bind (snd_simpEs T ok elts s _ _ S h fun vs s1 S1 hq0 => ?_))))
  obtain ⟨hl, h1⟩ := hq0
  rw [List.length_map] at hl
  refine wpAny_newTuple ?_ (by rw [sizeLine_eq]; (run_tac Mine.Lin.om))
  obtain ⟨σ', S', k1⟩ := snd_alloc_seq S1 rfl (o := .tup (vs.map er)) (ob := { cls := .type "tuple", data := .seq vs.toArray }) ⟨rfl, ⟨_, _, rfl, by simp⟩, by rw [List.length_map]; unfold LIM; (run_tac Mine.Lin.om)⟩ rfl h1 (n := s1.toks)
  exact wpAny_pure (wpAny_pure (hq _ σ' _ S' k1))
  run_tac endC

theorem looks_isType {M : Model} {h : Heap} {D : Addr} (X : F.In h) (hc : (clsIn F D).isSome = true) : Looks M h (isType (.ref D)) true := by
  run_tac beginC
  intro A Q E s k q
  unfold clsIn at hc
  split at hc
  · rename_i hl
    exact wpAny_bind (wpAny_loadPart (k _ _ (X _ _ hl)) (wpAny_pure q))
  · cases hc
  run_tac endC

theorem snd_match {A : Around} {e C D : Addr} {dx : Option Addr} {n b : Bool} {Q : Bool → Shared → Prop} {E : Value → Shared → Prop} {ns : List (Addr × Loc)} (T : Stat w F G base) (S : Sit w.params base g os ns σ s) (h : σ e = some (.exc C dx n)) (hm : matchIn F C D = some b) (hq : Q b s) :
    wpAny (model prog w) A (excMatches (.ref e) (.ref D)) Q E s := by
  run_tac beginC
  unfold matchIn at hm
  split at hm
  · rename_i hc
    simp only [Bool.and_eq_true, beq_iff_eq] at hc
    obtain ⟨⟨h1, h2⟩, h3⟩ := hc
    have X1 : F.In s.heap := T.kin.keeps S.stays
    have LT := S.excType (M := model prog w) h
    unfold excMatches
    refine wpAny_bind ((looks_instIn X1 h1).here ?_)
    rw [if_neg Bool.false_ne_true]
    refine wpAny_bind (wpAny_pure ?_)
    simp only [List.forIn_cons, List.forIn_nil]
    unfold isExcClass
    refine wpAny_bind ?_
    refine wpAny_bind (wpAny_bind (wpAny_bind ((looks_isType X1 h2).here ?_)))
    rw [if_pos rfl]
    refine (looks_subIn X1 h3).here ?_
    rw [if_neg (by decide)]
    refine wpAny_pure (wpAny_pure ?_)
    refine wpAny_bind (LT.here ?_)
    refine wpAny_bind (wpAny_bind (wpAny_bind ((looks_subIn X1 hm).here ?_)))
    cases b with
    | true =>
      rw [if_pos rfl]
      exact wpAny_pure (wpAny_pure (wpAny_pure hq))
    | false =>
      rw [if_neg Bool.false_ne_true]
      exact wpAny_pure (wpAny_pure (wpAny_pure hq))
  · cases hm
  run_tac endC

theorem Okk.three (ok : Okk A env ns d) : env.scope.kind = .function ∧ env.globals = mainGlobals ∧ env.builtins = builtinsNs := ⟨ok.kind, ok.glob, ok.bi⟩

theorem snd_handlers (T : Stat w F G base) (ok : Okk A env ns d) {x C : Addr} {dx : Option Addr} {fl : Value → Prop} {E : Value → Shared → Prop} :
    ∀ (hs : List ExceptHandler) (s : Shared), Sit w.params base g os (NS env loc ns) σ s → σ x = some (.exc C dx false) → Noted fl base (NS env loc ns) σ s.heap x → handH F G env x C loc σ K hs →
    wpAny (model prog w) A (handleBy (.ref x) env hs) (PSs w base g os env ns K) E s := by
  run_tac beginC
  intro hs
  induction hs generalizing fl with
  | nil => intro s S hx n h; exact absurd h id
  | cons hd rest ih =>
    intro s S hx n h
    replace h : handStep F G env x C loc σ K hd (handH F G env x C loc σ K rest) := h
    unfold handStep at h
    (run_tac invT `h)
    · rename_i name p4 cn p1 p3 elts k p2
      generalize q1 : env.scope.names.lookup cn = y1 at h
      generalize q2 : G cn = y2 at h
      (run_tac invT `h)
      · rename_i D
        have hl : lookH G env cn loc σ fun v => v = .ref D := by
          unfold lookH lookB
          obtain ⟨mg, mb, val, _, _, _, _, hne⟩ := T.glob _ _ q2
          have : (cn == ("__debug__" : Str)) = false := by simpa using hne
          rw [this, q1, q2]
        have test : ∀ (b : Bool), matchIn F C D = some b → ∀ {R : Result → Shared → Prop}, R (.ok (if b then .brk else .next)) s → codeAny (model prog w) (A.mark (some (.ref x))) (.handlers (.ref x) [.ExceptHandler (some (.Name cn p1)) none [] p4] env) R s := by
          intro b hb R hR
          refine codeAny_handlers_test (snd_Name' T ok.three S hl fun v hv => ?_)
          have hv' : v = .ref D := er_ref hv
          rw [hv']
          exact snd_match T S hx hb hR
        generalize hb : matchIn F C D = y at h
        rcases y with _ | b
        · exact h.elim
        rcases b with _ | _
        rotate_left
        · refine wpAny_handleBy_cons (test true hb ?_) (by intro q; cases q)
          cases name with
          | none =>
            refine codeAny_handlers_suite (snd_flight (L := 0) S hx n fun s1 S1 n1 => ?_)
            exact snd_suite T ok.three S1 h fun v σ' s' S' k => ⟨loc, σ', S', k⟩
          | some nm =>
            refine codeAny_handlers_suite_as (snd_flight (L := 0) S hx n fun s1 S1 n1 => ?_)
            refine wpAny_mono (snd_store (M := model prog w) ok.kind S1 (v := .ref x) h) (fun _ s2 hq0 => ?_) fun _ _ x => x
            obtain ⟨loc2, σ2, S2, hl2, h2⟩ := hq0
            refine snd_suite T ok.three S2 h2 fun v σ' s' S' k => ?_
            refine wpAny_bind ?_
            have st : storeH env nm (er .none) loc2 σ' fun loc σ => loc = loc2.put nm .none ∧ σ = σ' := by
              unfold storeH
              rw [hl2]
              exact ⟨rfl, rfl⟩
            refine wpAny_mono (snd_bindName (M := model prog w) ok.kind S' st) (fun _ s3 hq0 => ?_) fun _ _ x => x
            obtain ⟨loc3, σ3, S3, e1, e2⟩ := hq0
            subst e1 e2
            obtain ⟨⟨mm, hm, hmm⟩, hb3, ho3⟩ := S3.nsok _ (.head _)
            have em : (mm nm).map er = some .none := (hmm nm).trans (by unfold Loc.put; exact if_pos rfl)
            obtain ⟨u, hu, _⟩ := Option.map_eq_some_iff.mp em
            unfold unbindBehindTheSuite
            refine wpAny_onRaise (wpAny_unbindName_local hl2 hm hu (by rw [ok.kind]; rfl) fun h' u' hn hs => ?_)
            refine ⟨fun y => if y = nm then u'.map er else loc2 y, _, S3.nsSet (s' := { s3 with heap := h' }) hs.extBut ⟨_, hn, fun y => ?_⟩ rfl rfl, k _⟩
            dsimp only
            split
            · rfl
            · rename_i hy
              exact (hmm y).trans (by unfold Loc.put; exact if_neg hy)
        · exact wpAny_handleBy_cons (test false hb (ih s S hx n h)) (by intro q; cases q)
  run_tac endC

theorem snd_STry (H : Snd m prog w F G g os d r) (T : Stat w F G base) (ok : Okk A env ns d) (S : Sit w.params base g os (NS env loc ns) σ s) {body : List Stmt} {hd : ExceptHandler} {hs : List ExceptHandler} {pos : Pos}
    (h : r.Ss env body loc σ (fun fl loc σ => match fl with
      | .ret v => K (.ret v) loc σ
      | _ => False) (fun x loc σ => (match σ x with
          | some (.exc C _ _) => handH F G env x C loc σ K (hd :: hs)
          | _ => False))) :
    wpM m (model prog w) A (exec (.Try body (hd :: hs) [] [] pos) env) (PSs w base g os env ns K) (PXs w base g os env ns X) s := by
  run_tac beginC
  obtain ⟨L, fs⟩ := ok.frs (loc := loc)
  rw [arm_exec_Try]
  refine wpM_bind (wpM_standAt ?_)
  unfold tryStmt
  simp only [List.isEmpty_nil, if_true, List.isEmpty_cons, Bool.false_and, Bool.false_eq_true, if_false]
  refine wpM_bind (wpM_attempt (wpM_mono (snd_Ss H T ok body loc σ s _ S h) (fun f s1 ⟨loc1, σ1, S1, h1⟩ => ?_) fun v s1 x => ?_))
  · cases f with
    | ret v => exact wpM_pure ⟨loc1, σ1, S1, h1⟩
    | next => exact absurd h1 id
    | brk => exact absurd h1 id
    | cont => exact absurd h1 id
  · refine .of ?_
    show wpAny _ _ (do noteFrame v env; setFlight v none; handleBy v env (hd :: hs)) _ _ _
    refine wpAny_bind (note_of fs x fun s2 hq0 => ?_)
    obtain ⟨e, loc', σ', q, S2, n2, ⟨C, dx, he⟩, hx⟩ := hq0
    subst q
    refine wpAny_bind (snd_flight (L := L) S2 he n2 fun s3 S3 n3 => ?_)
    try dsimp only at hx
    rw [he] at hx
    exact snd_handlers T ok (hd :: hs) s3 S3 he n3 hx
  run_tac endC
end
end Mine
end

section
open PySem PySem.W PySem.Calls PyProof.Rows PySem.SeqAt
set_option maxRecDepth 100000
namespace Mine

section
variable {m : Bool} {prog : Program} {w : World} {F : Frag} {G : Str → Option Value} {base : Heap} {g : Array GenState} {os : OsState} {d : Nat} {r : Ev} {A : Around} {env : Env} {ns : List (Addr × Loc)} {loc : Loc} {σ : Store} {s : Shared}

theorem compG_inv {K :  PySem.Expr → PySem.Expr → List PySem.Expr → Prop} {gens : List Comprehension} (h : compG K gens) : ∃ tgt it ifs, gens = [⟨tgt, it, ifs, 0⟩] ∧ K tgt it ifs := by
  run_tac beginC
  cases gens with
  | nil => exact False.elim h
  | cons x xs =>
    cases x with
    | mk tgt it ifs n =>
      cases xs with
      | cons => exact False.elim h
      | nil =>
        replace h : (match n == 0 with | true => K tgt it ifs | false => False) := h
        cases q : n == 0 with
        | false => rw [q] at h; exact False.elim h
        | true =>
          rw [q] at h
          exact ⟨tgt, it, ifs, by rw [eq_of_beq q], h⟩
  run_tac endC
theorem sliceOf_inv {i : PySem.Expr} {x} (h : sliceOf i = some x) : ∃ p, i = .Slice x.1 x.2.1 x.2.2 p := by
  run_tac beginC
  cases i with
  | Slice l u st p => cases h; exact ⟨p, rfl⟩
  | _ => cases h
  run_tac endC
theorem compOf_inv {e : PySem.Expr} {x} (h : compOf e = some x) : ∃ p, e = .ListComp x.1 x.2.1 x.2.2 p := by
  run_tac beginC
  cases e with
  | ListComp elt gens scope p => cases h; exact ⟨p, rfl⟩
  | _ => cases h
  run_tac endC

theorem sound_E (H : Snd m prog w F G g os d r) {cf : CallF} (C : SndC m prog w F G g os d cf) (CO : CallOk F cf) {e : PySem.Expr} (hm : m = true → isIE e = true) (T : Stat w F G base) (ok : Okk A env ns d) {K : KV} {X : KX} (S : Sit w.params base g os (NS env loc ns) σ s) (h : stepE F G cf r env e loc σ K X) :
    wpM m (model prog w) A (eval e env) (PV w base g os env loc ns K) (PX w base g os env loc ns X) s := by
  run_tac beginC
  cases e with
  | Constant c k p => exact .of (snd_cst S h)
  | Name x p => exact .of (snd_Name' T ok.three S h fun v k => ⟨σ, S, k⟩)
  | BinOp l op q p => exact snd_BinOp H T ok S h
  | Compare l ops qs p =>
    cases ops with
    | nil => exact False.elim h
    | cons op ops =>
      cases ops with
      | cons => exact False.elim h
      | nil =>
        cases qs with
        | nil => exact False.elim h
        | cons q qs =>
          cases qs with
          | cons => exact False.elim h
          | nil => exact snd_Compare H T ok S (And.left h) (And.right h)
  | IfExp t a b p => exact snd_IfExp H T ok S h
  | Attribute o a p => exact snd_Attribute H T ok S (And.left h) (And.right h)
  | Subscript v i p =>
    replace h : subE r env v i loc σ K X := h
    unfold subE at h
    cases hq : sliceOf i with
    | none => rw [hq] at h; exact snd_SubItem H T ok S h
    | some x =>
      obtain ⟨l, u, st⟩ := x
      rw [hq] at h
      obtain ⟨p', rfl⟩ := sliceOf_inv hq
      cases st with
      | none => exact snd_SubSlice H T ok S h
      | some => exact False.elim h
  | Tuple es c p => exact snd_Tuple H T ok S (And.left h) (And.right h)
  | List es p => exact snd_List H T ok S (And.left h) (And.right h)
  | Dict ks vs p =>
    cases m with
    | true => exact absurd (hm rfl) Bool.false_ne_true
    | false => exact .of (snd_Dict H T ok S (And.left h) (And.right h))
  | JoinedStr es p => exact snd_JoinedStr H T ok S (And.left h) (And.right h)
  | Lambda args body scope p => exact .of (snd_Lambda T ok S (And.left h) (And.right h))
  | ListComp elt gens scope p =>
    cases m with
    | true => exact absurd (hm rfl) Bool.false_ne_true
    | false =>
      obtain ⟨tgt, it, ifs, rfl, h⟩ := compG_inv h
      exact .of (snd_ListComp H T ok S (And.left h) (And.right h))
  | Call f args kws p =>
    cases kws with
    | cons => exact False.elim h
    | nil =>
      cases f with
      | Attribute o a q => exact snd_CallMeth H T C CO ok S (And.left h) (And.right h)
      | Name x q => exact snd_CallName H T C CO ok S (And.left h) (And.right h)
      | _ => exact False.elim h
  | _ => exact False.elim h
  run_tac endC

theorem sound_T (H : Snd m prog w F G g os d r) (T : Stat w F G base) (ok : Okk A env ns d) {e : PySem.Expr} {K : Bool → Store → Prop} {X : KX} (S : Sit w.params base g os (NS env loc ns) σ s) (h : stepT r env e loc σ K X) :
    wpM m (model prog w) A (isTrue e env (eval e env)) (PT w base g os env loc ns K) (PX w base g os env loc ns X) s := by
  run_tac beginC
  cases e with
  | UnaryOp op x p =>
    cases op with
    | Not => exact snd_Not H T ok S h
    | _ => exact False.elim h
  | BoolOp op xs p =>
    cases op with
    | And =>
      cases xs with
      | nil => exact False.elim h
      | cons a xs => cases xs with
        | nil => exact False.elim h
        | cons b xs => cases xs with
          | nil => exact snd_And2 H T ok S h
          | cons => exact False.elim h
    | Or =>
      cases xs with
      | nil => exact False.elim h
      | cons a xs => cases xs with
        | nil => exact False.elim h
        | cons b xs => cases xs with
          | nil =>
            rw [arm_isTrue_BoolOp]
            exact snd_OrC H T ok S h fun σ1 s1 S1 h1 => snd_Or1 H T ok S1 h1
          | cons c xs => cases xs with
            | nil =>
              rw [arm_isTrue_BoolOp]
              exact snd_OrC H T ok S h fun σ1 s1 S1 h1 => snd_OrC H T ok S1 h1 fun σ2 s2 S2 h2 => snd_Or1 H T ok S2 h2
            | cons => exact False.elim h
  | Compare l ops qs p =>
    cases ops with
    | nil => exact False.elim h
    | cons op ops =>
      cases ops with
      | nil =>
        cases qs with
        | nil => exact False.elim h
        | cons q qs =>
          cases qs with
          | cons => exact False.elim h
          | nil => exact snd_T1 H T ok S (And.left h) (And.right h)
      | cons op' ops =>
        cases ops with
        | cons => exact False.elim h
        | nil =>
          cases qs with
          | nil => exact False.elim h
          | cons q qs =>
            cases qs with
            | nil => exact False.elim h
            | cons q' qs =>
              cases qs with
              | cons => exact False.elim h
              | nil => exact snd_T2 H T ok S (And.left h) (And.right h)
  | Name x p => exact snd_TName H T ok S h
  | _ => exact False.elim h
  run_tac endC

theorem sound_A (H : Snd m prog w F G g os d r) (T : Stat w F G base) (ok : Okk A env ns d) {t : PySem.Expr} {v : Value} {K : Loc → Store → Prop} {X : KX} (S : Sit w.params base g os (NS env loc ns) σ s) (h : stepA F r env t (er v) loc σ K X) :
    wpM m (model prog w) A (assign t env v) (PL w base g os env ns K) (PXa w base g os env ns X) s := by
  run_tac beginC
  cases t with
  | Name x p => exact snd_AsName ok S h
  | Attribute o a p => exact snd_AsAttr H T ok S h
  | Subscript o i p => exact snd_AsSub H T ok S h
  | Tuple ts c p => exact snd_AsTuple H T ok S (And.left h) (And.right h)
  | _ => exact False.elim h
  run_tac endC

theorem sound_S (H : Snd m prog w F G g os d r) {t : Stmt} (hm : m = true → isIS t = true) (T : Stat w F G base) (ok : Okk A env ns d) {K : KS} {X : KXL} (S : Sit w.params base g os (NS env loc ns) σ s) (h : stepS F G r env t loc σ K X) :
    wpM m (model prog w) A (exec t env) (PSs w base g os env ns K) (PXs w base g os env ns X) s := by
  run_tac beginC
  cases t with
  | Expr e p =>
    cases e with
    | Call f as ks q => exact snd_SExpr H T ok S h
    | _ => exact False.elim h
  | Pass p => rw [arm_exec_Pass]; exact wpM_bind (wpM_standAt (wpM_pure ⟨loc, σ, S, h⟩))
  | Return v p =>
    cases v with
    | some e => exact snd_SReturn H T ok S h
    | none => rw [arm_exec_Return]; exact wpM_bind (wpM_standAt (wpM_pure ⟨loc, σ, S, h⟩))
  | Assign ts e p =>
    cases ts with
    | nil => exact False.elim h
    | cons t ts =>
      cases ts with
      | cons => exact False.elim h
      | nil =>
        replace h : assignS r env t e loc σ K X := h
        unfold assignS at h
        cases hq : compOf e with
        | none => rw [hq] at h; exact snd_SAssign H T ok S (And.left h) (And.left (And.right h)) (And.right (And.right h))
        | some x =>
          obtain ⟨elt, gens, scope⟩ := x
          rw [hq] at h
          obtain ⟨p', rfl⟩ := compOf_inv hq
          obtain ⟨tgt, it, ifs, q1, h⟩ := compG_inv h
          subst q1
          cases m with
          | true => exact absurd (hm rfl) Bool.false_ne_true
          | false => exact .of (snd_SComp H T ok S (And.left h) (And.right h))
  | AugAssign t op e p =>
    cases t with
    | Name x q =>
      cases op with
      | Add =>
        cases m with
        | true => exact absurd (hm rfl) Bool.false_ne_true
        | false => exact .of (snd_SAug H T ok S h)
      | _ => exact False.elim h
    | _ => exact False.elim h
  | If t a b p => exact snd_SIf H T ok S h
  | Raise e c p =>
    cases e with
    | none => exact False.elim h
    | some e =>
      cases c with
      | some => exact False.elim h
      | none =>
        cases m with
        | true => exact absurd (hm rfl) Bool.false_ne_true
        | false => exact .of (snd_SRaise H T ok S h)
  | For t it body els p =>
    cases els with
    | nil => exact snd_SFor H T ok S (And.left h) (And.right h)
    | cons => exact False.elim h
  | Try body hs els fin p =>
    cases hs with
    | nil => exact False.elim h
    | cons x hs =>
      cases els with
      | cons => exact False.elim h
      | nil =>
        cases fin with
        | cons => exact False.elim h
        | nil => exact snd_STry H T ok S h
  | _ => exact False.elim h
  run_tac endC

theorem snd_ev {cf : CallF} (C : SndC false prog w F G g os d cf) (CO : CallOk F cf) : ∀ n, Snd false prog w F G g os d (ev F G cf n)
  | 0 => ⟨fun _ _ _ _ _ _ _ _ _ _ _ _ _ h => h.elim, fun _ _ _ _ _ _ _ _ _ _ _ _ _ h => h.elim, fun _ _ _ _ _ _ _ _ _ _ _ _ _ _ h => h.elim, fun _ _ _ _ _ _ _ _ _ _ _ _ _ h => h.elim, fun _ _ _ _ _ _ _ h => h, fun _ _ _ _ _ _ _ _ h => h⟩
  | n + 1 =>
    have H := snd_ev C CO n
    ⟨fun _ T _ _ _ _ _ _ _ _ _ ok S h => sound_E H C CO (fun q => by cases q) T ok S h, fun _ T _ _ _ _ _ _ _ _ _ ok S h => sound_T H T ok S h, fun _ T _ _ _ _ _ _ _ _ _ _ ok S h => sound_A H T ok S h,
      fun _ T _ _ _ _ _ _ _ _ _ ok S h => sound_S H (fun q => by cases q) T ok S h, fun _ _ _ _ _ _ _ h => h, fun _ _ _ _ _ _ _ _ h => h⟩

theorem evI_E {cf cfI : CallF} {n : Nat} {e : PySem.Expr} {K : KV} {X : KX} : (evI F G cf cfI (n + 1)).E env e loc σ K X = (match isIE e with
  | true => stepE F G cfI (evI F G cf cfI n) env e loc σ K X
  | false => stepE F G cf (ev F G cf n) env e loc σ K X) := rfl
theorem evI_S {cf cfI : CallF} {n : Nat} {t : Stmt} {K : KS} {X : KXL} : (evI F G cf cfI (n + 1)).S env t loc σ K X = (match isIS t with
  | true => stepS F G (evI F G cf cfI n) env t loc σ K X
  | false => stepS F G (ev F G cf n) env t loc σ K X) := rfl

theorem snd_evI {cf cfI : CallF} (C : SndC false prog w F G g os d cf) (CO : CallOk F cf) (CI : SndC true prog w F G g os d cfI) (COI : CallOk F cfI) : ∀ n, Snd true prog w F G g os d (evI F G cf cfI n)
  | 0 => ⟨fun _ _ _ _ _ _ _ _ _ _ _ _ _ h => h.elim, fun _ _ _ _ _ _ _ _ _ _ _ _ _ h => h.elim, fun _ _ _ _ _ _ _ _ _ _ _ _ _ _ h => h.elim, fun _ _ _ _ _ _ _ _ _ _ _ _ _ h => h.elim, fun _ _ _ _ _ _ _ h => h, fun _ _ _ _ _ _ _ _ h => h⟩
  | n + 1 =>
    have H := snd_evI C CO CI COI n
    have HP := snd_ev C CO n
    ⟨fun _ T _ _ _ _ _ e _ _ _ ok S h => by
      rw [evI_E] at h
      cases q : isIE e with
      | true => rw [q] at h; exact sound_E H CI COI (fun _ => q) T ok S h
      | false => rw [q] at h; exact (sound_E HP C CO (fun q => by cases q) T ok S h).up,
     fun _ T _ _ _ _ _ _ _ _ _ ok S h => (sound_T HP T ok S h).up, fun _ T _ _ _ _ _ _ _ _ _ _ ok S h => (sound_A HP T ok S h).up,
     fun _ T _ _ _ _ _ t _ _ _ ok S h => by
      rw [evI_S] at h
      cases q : isIS t with
      | true => rw [q] at h; exact sound_S H (fun _ => q) T ok S h
      | false => rw [q] at h; exact (sound_S HP (fun q => by cases q) T ok S h).up,
     fun _ _ _ _ _ _ _ h => h, fun _ _ _ _ _ _ _ _ h => h⟩
end
end Mine
end

section
open PySem PySem.W PySem.Calls PyProof.Rows PySem.SeqAt
set_option maxRecDepth 100000
namespace Mine

theorem lookup_er (l : List (Str × Value)) (x : Str) : (l.map fun p => (p.1, er p.2)).lookup x = (l.lookup x).map er := by
  run_tac beginC
  induction l with
  | nil => rfl
  | cons p r ih =>
    obtain ⟨y, v⟩ := p
    rw [List.map_cons, List.lookup_cons, List.lookup_cons]
    cases q : x == y <;> simp [ih]
  run_tac endC

theorem fold_er : ∀ (ps : List (Str × Value)) (sl : List (Str × Value)),
    ((ps.map fun p => (p.1, er p.2)).foldl (fun (sl : List (Str × Value)) p => if (sl.lookup p.1).isNone then sl ++ [p] else sl) (sl.map fun p => (p.1, er p.2))) =
      (ps.foldl (fun (sl : List (Str × Value)) p => if (sl.lookup p.1).isNone then sl ++ [p] else sl) sl).map fun p => (p.1, er p.2)
  | [], _ => rfl
  | p :: ps, sl => by
    rw [List.map_cons, List.foldl_cons, List.foldl_cons]
    dsimp only
    rw [lookup_er, Option.isNone_map]
    by_cases q : (sl.lookup p.1).isNone = true
    · rw [if_pos q, if_pos q]
      have := fold_er ps (sl ++ [p])
      rw [List.map_append] at this
      exact this
    · rw [if_neg q, if_neg q]
      exact fold_er ps sl

theorem zip_er (ns : List Str) (vs : List Value) : ns.zip (vs.map er) = (ns.zip vs).map fun p => (p.1, er p.2) := by
  run_tac beginC
  induction ns generalizing vs with
  | nil => rfl
  | cons n ns ih => cases vs with
    | nil => rfl
    | cons v vs => simp [ih]
  run_tac endC

/-- binding does not look at tokens -/
theorem bindBy_er {names : List Str} {ds args : List Value} {binds : List (Str × Value)} (h : bindBy names (ds.map er) (args.map er) = some binds) :
    ∃ b0, bindBy names ds args = some b0 ∧ b0.map (fun p => (p.1, er p.2)) = binds := by
  run_tac beginC
  unfold bindBy at h ⊢
  simp only [List.length_map] at h ⊢
  split at h
  · rename_i hl
    rw [if_pos hl]
    simp only [zip_er, ← List.map_drop, List.length_map, lookup_er, Option.isNone_map] at h ⊢
    split at h
    · rename_i hm
      rw [if_pos hm]
      refine ⟨_, rfl, ?_⟩
      cases h
      rw [fold_er, List.map_filterMap]
      congr 1
      funext n
      rw [lookup_er]
      cases List.lookup n _ <;> rfl
    · cases h
  · cases h
  run_tac endC

theorem forIn_fold {α β : Type} {f : α → β → Sem (ForInStep β)} {g : α → β → β} (h : ∀ a b, f a b = pure (.yield (g a b))) : ∀ (l : List α) (b : β), forIn l b f = pure (l.foldl (fun b a => g a b) b)
  | [], b => rfl
  | a :: l, b => by
    rw [List.forIn_cons, h]
    exact forIn_fold h l (g a b)


section
variable {M : Model} {A : Around} {E : Value → Shared → Prop} {s : Shared}
theorem bind_at {fd : FuncData} {as : List Arg} {kw : List PySem.Expr} {args ds : List Value} {Q : List (Str × Value) → Shared → Prop} {b : List (Str × Value)}
    (hp : fd.params = ⟨[], as, none, [], [], none, kw⟩) (hd : ∀ {R : Option (Array Value) → Shared → Prop}, (∀ r, (r.getD #[]).toList = ds → R r s) → wpAny M A (seqItems? fd.defaults) R E s) (hb : bindBy (as.map (·.arg)) ds args = some b) (hq : Q b s) :
    wpAny M A (bindArgs fd ⟨args, []⟩) Q E s := by
  run_tac beginC
  unfold bindBy at hb
  split at hb
  · rename_i hl
    dsimp only at hb
    split at hb
    · rename_i hm
      cases hb
      unfold bindArgs
      rw [hp]
      dsimp only [List.map_nil, List.nil_append]
      refine wpAny_bind (wpAny_pure ?_)
      simp only [List.map_nil, List.nil_append]
      refine wpAny_bind (hd fun r hr => ?_)
      rw [hr]
      rw [if_neg (by simp only [Option.isNone_none, Bool.and_true, decide_eq_true_eq]; (run_tac Mine.Lin.om)), if_neg (by simpa using hm)]
      rw [forIn_fold (g := fun (p : Str × Value) (sl : List (Str × Value)) => if (sl.lookup p.1).isNone then sl ++ [p] else sl) (fun a b => by split <;> rfl)]
      refine wpAny_bind (wpAny_pure ?_)
      refine wpAny_bind (wpAny_pure ?_)
      rw [if_neg (by simp), List.append_nil]
      exact wpAny_pure hq
    · cases hb
  · cases hb
  run_tac endC
end

theorem cellsFrom_names : ∀ (l : List (Str × NameKind)) (n m : Nat) (acc acc' : List (Str × Addr)), acc.map (·.1) = acc'.map (·.1) → (cellsFrom n l acc).map (·.1) = (cellsFrom m l acc').map (·.1)
  | [], _, _, _, _, h => h
  | (x, k) :: l, n, m, acc, acc', h => by
    unfold cellsFrom
    split
    · exact cellsFrom_names l _ _ _ _ (by simp [h])
    · exact cellsFrom_names l _ _ _ _ h
theorem lookup_some {α : Type} {l : List (Str × α)} {x : Str} : (l.lookup x).isSome = true ↔ x ∈ l.map (·.1) := by
  run_tac beginC
  induction l with
  | nil => simp
  | cons p r ih =>
    obtain ⟨y, v⟩ := p
    rw [List.lookup_cons, List.map_cons, List.mem_cons]
    cases q : x == y with
    | true => simp [beq_iff_eq.mp q]
    | false =>
      have : ¬ x = y := by simpa using q
      simp [ih, this]
  run_tac endC
theorem cells_there {l : List (Str × NameKind)} {x : Str} {n : Nat} (h : ((cellsFrom 0 l []).lookup x).isSome = true) : ((cellsFrom n l []).lookup x).isSome = true := by
  run_tac beginC
  rw [lookup_some] at h ⊢
  rw [cellsFrom_names l n 0 [] [] rfl]
  exact h
  run_tac endC

theorem lookup_mem {α : Type} : ∀ {l : List (Str × α)} {x : Str} {c : α}, (l.map (·.1)).Nodup → (x, c) ∈ l → l.lookup x = some c
  | (y, v) :: r, x, c, hn, h => by
    rw [List.map_cons, List.nodup_cons] at hn
    rw [List.lookup_cons]
    rcases List.mem_cons.mp h with q | q
    · cases q; rw [beq_self_eq_true]
    · have : (x == y) = false := by
        have : ¬ x = y := fun e => hn.1 (by rw [← e]; exact List.mem_map_of_mem (f := (·.1)) q)
        simpa using this
      rw [this]
      exact lookup_mem hn.2 q
theorem cells_mem {sc : Scope} (h : cellsOnce sc = true) {n : Nat} {x : Str} {c : Addr} (hm : (x, c) ∈ cellsFrom n sc.names []) : (cellsFrom n sc.names []).lookup x = some c := by
  run_tac beginC
  refine lookup_mem ?_ hm
  rw [cellsFrom_names sc.names n 0 [] [] rfl]
  exact of_decide_eq_true h
  run_tac endC

theorem bindL_er {k : Str → Option NameKind} : ∀ (bs : List (Str × Value)) (m : Str → Option Value) (x : Str), (bindL k bs m x).map er = bindL k (bs.map fun p => (p.1, er p.2)) (fun y => (m y).map er) x
  | [], _, _ => rfl
  | (n, v) :: r, m, x => by
    rw [List.map_cons]
    unfold bindL
    rw [bindL_er r]
    congr 1
    funext y
    split
    · dsimp only; split <;> rfl
    · rfl
theorem bindC_er {k : Str → Option NameKind} : ∀ (bs : List (Str × Value)) (m : Str → Option Value) (x : Str), (bindC k bs m x).map er = bindC k (bs.map fun p => (p.1, er p.2)) (fun y => (m y).map er) x
  | [], _, _ => rfl
  | (n, v) :: r, m, x => by
    rw [List.map_cons]
    unfold bindC
    rw [bindC_er r]
    congr 1
    funext y
    split
    · rfl
    · dsimp only; split <;> rfl

section
variable {m : Bool} {prog : Program} {w : World} {F : Frag} {G : Str → Option Value} {base : Heap} {g : Array GenState} {os : OsState} {d : Nat} {r : Ev} {A : Around} {env : Env} {ns : List (Addr × Loc)} {loc : Loc} {σ : Store} {s : Shared} {K : KV} {X : KX}

/-- an object that stands, told of from now on -/
theorem Sit.tell {P : Params} (S : Sit P base g os ns σ s) {a : Addr} {o : O} {ob : Obj} (hb : base.get? a = none) (hn : a ∉ ns.map (·.1)) (e : s.heap.get? a = some ob) (r : ORep P o ob) (hp : o.plain = true) (hold : ∀ o', σ a = some o' → o'.plain = true) :
    Sit P base g os ns (σ.set a o) s := S.put (s' := s) (fun _ _ _ q => q) hb hn e r hp hold rfl rfl

theorem Sit.cells {P : Params} {scope : Scope} {binds : List (Str × Value)} {s0 : Shared} {cm : Str → Option Value} (hcm : ∀ x, (cm x).map er = bindC (kindIn scope) binds (fun _ => none) x) (hb : ∀ a, s0.heap.get? a = none → base.get? a = none ∧ a ∉ ns.map (·.1))
    (hσ : ∀ a, s0.heap.get? a = none → σ a = none) {L : Addr} {loc : Loc} (hL : s0.heap.objs.size ≤ L) (S : Sit P base g os ((L, loc) :: ns) σ s) :
    ∀ cells : List (Str × Addr), (∀ x c, (x, c) ∈ cells → L < c ∧ s.heap.IsCell c (cm x)) → Sit P base g os ((L, loc) :: ns) (cellStore scope binds cells σ) s ∧ ∀ a o, cellStore scope binds cells σ a = some o → s0.heap.get? a = none → o.plain = true
  | [], _ => ⟨S, fun a o e h => by rw [show cellStore scope binds [] σ a = σ a from rfl, hσ a h] at e; cases e⟩
  | (x, c) :: r, h => by
    obtain ⟨S1, p1⟩ := Sit.cells hcm hb hσ hL S r fun y c hy => h y c (.tail _ hy)
    obtain ⟨hc, ob, e1, e2⟩ := h x c (.head _)
    have hfree : s0.heap.get? c = none := Heap.get?_none_of_le (Nat.le_trans hL (Nat.le_of_lt hc))
    refine ⟨S1.tell (hb _ hfree).1 ?_ e1 ⟨_, e2, hcm x⟩ rfl fun o' q => p1 c o' q hfree, fun a o e h' => ?_⟩
    · rw [List.map_cons, List.mem_cons]
      rintro (q | q)
      · exact absurd q (Nat.ne_of_gt hc)
      · exact (hb _ hfree).2 q
    · unfold cellStore Store.set at e
      split at e
      · cases e; rfl
      · exact p1 a o e h'

theorem flyPop {fr : Option Addr} {p : Addr × Loc} {h : Heap} {e : Addr} (x : Fly fr base (p :: ns) σ h e) : Fly fr base ns σ h e := by
  run_tac beginC
  obtain ⟨ob, vs, e1, e2, e4⟩ := x
  refine ⟨ob, vs, e1, e2, e4.imp id fun x => ?_⟩
  obtain ⟨T, oT, ts, v, h1, h2, h3, h4, h5, h6⟩ := x
  exact ⟨T, oT, ts, v, h1, h2, h3, h4, fun q => h5 (by rw [List.map_cons]; exact .tail _ q), h6⟩
  run_tac endC

/-- a body run in a frame of its own -/
theorem snd_func (H : Snd m prog w F G g os d r) (T : Stat w F G base) (ok : Okk (A.deeper env) env ns d) (hf : env.frame = some env.locals) (S : Sit w.params base g os (NS env loc ns) σ s) {body : List Stmt}
    (h : r.Ss env body loc σ (fun fl _ σ => K (match fl with | .ret v => v | _ => .none) σ) (fun x _ σ => X x σ)) {R : Result → Shared → Prop}
    (hR : ∀ v s', PostV w.params base g os ns K v s' → R (.ok (.ret v)) s') (hX : ∀ v s', PostX w.params base g os none ns X v s' → R (.error v) s') :
    codeM m (model prog w) A (.func body env) R s := by
  run_tac beginC
  obtain ⟨L, fs⟩ := ok.frs (loc := loc)
  refine codeM_of_tree ?_
  show wpM m _ (A.deeper env) (do point; match ← (execs body env).onRaise (leaving env) with | .ret v => ret v | _ => ret .none) _ _ s
  refine wpM_bind (wpM_point (wpM_bind (wpM_onRaise (wpM_mono (snd_Ss H T ok body loc σ s _ S h) (fun f s1 ⟨loc1, σ1, S1, h1⟩ => ?_) fun v s1 x => ?_))))
  · have S2 := S1.nsPop
    cases f with
    | ret v => exact wpM_pure (hR _ _ ⟨σ1, S2, h1⟩)
    | next => exact wpM_pure (hR .none _ ⟨σ1, S2, h1⟩)
    | brk => exact wpM_pure (hR .none _ ⟨σ1, S2, h1⟩)
    | cont => exact wpM_pure (hR .none _ ⟨σ1, S2, h1⟩)
  · obtain ⟨e, loc1, σ1, rfl, S1, fl, ⟨C, dx, he⟩, hx⟩ := x
    refine .of (snd_leaving (ns := NS env loc1 ns) ⟨fs.f, fs.ex⟩ (.inr rfl) S1 he fl fun s2 S2 f2 => hX _ _ ⟨e, σ1, rfl, S2.nsPop, flyPop f2, ⟨C, dx, he⟩, hx⟩)
  run_tac endC

theorem snd_exprCode (H : Snd m prog w F G g os d r) (T : Stat w F G base) (ok : Okk (A.deeper env) env ns d) (S : Sit w.params base g os (NS env loc ns) σ s) {e : PySem.Expr}
    (h : r.E env e loc σ K X) {R : Result → Shared → Prop}
    (hR : ∀ v s', PostV w.params base g os ns K v s' → R (.ok (.ret v)) s') (hX : ∀ v s', PostX w.params base g os none ns X v s' → R (.error v) s') :
    codeM m (model prog w) A (.expr e env) R s := by
  run_tac beginC
  obtain ⟨L, fs⟩ := ok.frs (loc := loc)
  refine codeM_of_tree ?_
  show wpM m _ (A.deeper env) (do point; ret (← (eval e env).onRaise (leaving env))) _ _ s
  refine wpM_bind (wpM_point (wpM_bind (wpM_onRaise (wpM_mono (H.E _ T _ _ _ _ _ _ _ _ _ ok S h) (fun v s1 ⟨σ1, S1, h1⟩ => ?_) fun v s1 x => ?_))))
  · exact wpM_pure (hR _ _ ⟨σ1, S1.nsPop, h1⟩)
  · obtain ⟨e, σ1, rfl, S1, fl, ⟨C, dx, he⟩, hx⟩ := x
    refine .of (snd_leaving (ns := NS env loc ns) ⟨fs.f, fs.ex⟩ (.inr rfl) S1 he fl fun s2 S2 f2 => hX _ _ ⟨e, σ1, rfl, S2.nsPop, flyPop f2, ⟨C, dx, he⟩, hx⟩)
  run_tac endC

theorem codeRec_of {fd : FuncData} {h : Heap} (hc : codeIn F fd = true) (X : F.In h) : h.CodeRec fd.code fd.qualname := by
  run_tac beginC
  unfold codeIn at hc
  (run_tac invE `hc)
  rename_i c q1 _ _ _ vs ql _ t
  rw [beq_iff_eq] at hc
  subst hc
  exact ⟨c, _, vs, t, rfl, X _ _ ql, rfl, q⟩
  run_tac endC

theorem plainScope_of {sc : Scope} (h : plainScope sc = true) : sc.kind = .function ∧ sc.isGenerator = false ∧ sc.isCoroutine = false := by
  run_tac beginC
  unfold plainScope at h
  simp only [Bool.and_eq_true, beq_iff_eq, Bool.not_eq_true'] at h
  exact ⟨h.1.1, h.1.2, h.2⟩
  run_tac endC

theorem defaults_of {fd : FuncData} {ds : List Value} {M : Model} {E : Value → Shared → Prop} (h : defaultsOfF F fd = some ds) (X : F.In s.heap) :
    ∃ d0, d0.map er = ds ∧ ∀ {R : Option (Array Value) → Shared → Prop}, (∀ r : Option (Array Value), (r.getD #[]).toList = d0 → R r s) → wpAny M A (seqItems? fd.defaults) R E s := by
  run_tac beginC
  unfold defaultsOfF at h
  split at h
  · rename_i e
    cases h
    refine ⟨[], rfl, fun hR => ?_⟩
    rw [e]
    first | exact wpAny_pure (hR none rfl) | exact wpAny_bind (wpAny_pure (wpAny_pure (hR none rfl)))
  · rename_i t e
    split at h
    · rename_i vs _ _ hl
      cases h
      refine ⟨vs.toList, rfl, fun hR => ?_⟩
      rw [e]
      exact wpAny_seqItems (X _ _ hl) rfl (hR (some vs) rfl)
    · cases h
  · cases h
  run_tac endC

theorem FramesIn.cons {l : List Env} {as : List Addr} {e : Env} {L : Addr} (h : FramesIn l as) (hk : e.scope.kind = .function) (hf : e.frame = some L) : FramesIn (e :: l) (L :: as) := by
  run_tac beginC
  intro x hx
  rcases List.mem_cons.mp hx with rfl | hx
  · exact ⟨by rw [hk]; decide, L, hf, .head _⟩
  · obtain ⟨a, L', b, c⟩ := h x hx
    exact ⟨a, L', b, .tail _ c⟩
  run_tac endC

theorem snd_body (H : Snd m prog w F G g os d r) (T : Stat w F G base) {l : List Env} {a : Addr} {vals : List Value} {o1 : Value} {o2 : Option Addr} {o4 : Array (Option Value)} {fd : FuncData} (hh : A.handled = none) (hfr : A.frames = some l) (hin : FramesIn l (ns.map (·.1))) (hdp : A.depth + 1 + 4 * d ≤ 900) (hun : A.units + 3 + 100 * d ≤ 9000)
    (S : Sit w.params base g os ns σ s) (hl : F.lookup a = some ⟨o1, o2, .func fd, o4⟩) (h : bodyH F r fd a (vals.map er) σ K X) :
    wpM m (model prog w) A (call (.ref a) vals) (PostV w.params base g os ns K) (PostX w.params base g os none ns X) s := by
  run_tac beginC
  have XF : F.In s.heap := T.kin.keeps S.stays
  obtain ⟨hs, h⟩ := h
  simp only [Bool.and_eq_true, beq_iff_eq, List.isEmpty_iff] at hs
  obtain ⟨⟨⟨⟨h1, h2⟩, h3⟩, h4⟩, h5⟩ := hs
  obtain ⟨hk, hgen, hco⟩ := plainScope_of h1
  (run_tac invE `h)
  · rename_i body hbody binds
    have hb := q
    obtain ⟨hbo, h⟩ := h
    rw [Bool.and_eq_true] at hbo
    obtain ⟨hbo, hco2⟩ := hbo
    unfold bindF at hb
    clear q
    (run_tac invE `hb)
    · rename_i as kw hp ds
      · have hds := q
        obtain ⟨d0, hd0, hdef⟩ := defaults_of (M := model prog w) (A := A.in1) (E := fun _ _ => False) hds XF
        rw [← hd0] at hb
        obtain ⟨b0, hb0, hbe⟩ := bindBy_er hb
        refine wpM_call (codeM_of_tree ?_)
        show wpM m _ A.in1 (callAny (.ref a) ⟨vals, []⟩) _ _ s
        simp only [callAny]
        refine wpM_leaf (wpAny_load (XF _ _ hl) ?_)
        obtain ⟨c, oc, vs, tq, hc, hoc, hdc, hq⟩ := codeRec_of h5 XF
        simp only [callFunction, hco, hgen, hbody, hc]
        refine wpM_leaf (m := m) (t := field (.ref c) 1) (wpAny_field hoc hdc hq (wpM_bind (wpM_pure ?_)))
        refine wpM_leaf (wpAny_mono (bind_at hp hdef hb0 (Q := fun b s' => b = b0 ∧ s' = s) ⟨rfl, rfl⟩) (fun b s' q => ?_) fun _ _ x => x.elim)
        obtain ⟨rfl, rfl⟩ := q
        have hkind : ∀ x ∈ b, fd.scope.names.lookup x.1 = some .local ∨ (fd.scope.names.lookup x.1 = some .cell ∧ ((cellsFrom (s'.heap.objs.size + 1) fd.scope.names []).lookup x.1).isSome = true) := by
          intro x hx
          have := List.all_eq_true.mp hbo (x.1, er x.2) (by rw [← hbe]; exact List.mem_map_of_mem (f := fun p => (p.1, er p.2)) hx)
          dsimp only at this
          split at this
          · rename_i e; exact .inl e
          · rename_i e; exact .inr ⟨e, cells_there this⟩
          · cases this
        rw [h4]
        refine wpM_leaf (wpAny_newFunctionEnv_cells hk hkind fun env he s1 x => ?_)
        subst he
        have hsz := s'.heap.objs.size
        obtain ⟨⟨hp', tk, q⟩, hns, hkeep, hfresh⟩ := x.toInCall
        refine wpM_leaf (wpAny_enterFrame (T.nolimit.keeps fun b o e => hkeep _ _ (S.stays b o e)) (by show A.depth < recursionLimit; unfold recursionLimit; (run_tac Mine.Lin.om)) (wpM_pure ⟨rfl, rfl, ?_⟩))
        have e0 : newEnv fd.scope s'.heap.objs.size fd.globals (cellsFrom (s'.heap.objs.size + 1) fd.scope.names []) (fd.qualname ++ ".<locals>.") (some a) (.ref c) none fd.builtins = envH fd a s'.heap.objs.size (cellsFrom (s'.heap.objs.size + 1) fd.scope.names []) := by
          unfold newEnv envH
          rw [h2, h3, hc]
        rw [e0] at x hns ⊢
        have hfree : s'.heap.get? s'.heap.objs.size = none := Heap.get?_none_of_le (Nat.le_refl _)
        have S1 : Sit w.params base g os ((s'.heap.objs.size, locOf fd.scope binds) :: ns) σ s1 := by
          refine S.nsPush hkeep hfree ⟨_, hns, fun y => ?_⟩ (by rw [q]) (by rw [q])
          rw [bindL_er, hbe]; rfl
        obtain ⟨S2, _⟩ := S1.cells (scope := fd.scope) (binds := binds) (s0 := s') (cm := bindC (Env.kindOf (envH fd a s'.heap.objs.size (cellsFrom (s'.heap.objs.size + 1) fd.scope.names []))) b fun _ => none) (ns := ns) (fun y => by rw [bindC_er, hbe]; rfl)
          (fun b hb => ⟨S.base_none hb, S.notNs hb⟩) (fun b hb => S.free hb) (Nat.le_refl _) (cellsFrom (s'.heap.objs.size + 1) fd.scope.names []) (fun y c hy => ⟨x.above y c hy, x.cell y c (cells_mem hco2 hy)⟩)
        · have ok : Okk (A.deeper (envH fd a s'.heap.objs.size (cellsFrom (s'.heap.objs.size + 1) fd.scope.names []))) (envH fd a s'.heap.objs.size (cellsFrom (s'.heap.objs.size + 1) fd.scope.names [])) ns d := by
            refine ⟨hh, hk, rfl, rfl, ⟨_, l, ?_, rfl, hin.cons hk rfl⟩, hdp, hun⟩
            show A.frames.map _ = _
            rw [hfr]; rfl
          exact snd_func H T ok rfl S2 (h _ S.fresh') (fun v s' q => q) (fun v s' q => q)
  run_tac endC
end
end Mine
end

section
open PySem PySem.W PySem.Calls PyProof.Rows PySem.SeqAt
set_option maxRecDepth 100000
namespace Mine

section
variable {m : Bool} {prog : Program} {w : World} {F : Frag} {G : Str → Option Value} {base : Heap} {g : Array GenState} {os : OsState} {d : Nat} {r : Ev} {A : Around} {env : Env} {ns : List (Addr × Loc)} {loc : Loc} {σ : Store} {s : Shared} {K : KV} {X : KX}

theorem snd_lam (H : Snd m prog w F G g os d r) (T : Stat w F G base) {l : List Env} {a : Addr} {vals : List Value} {fd : FuncData} (hh : A.handled = none) (hfr : A.frames = some l) (hin : FramesIn l (ns.map (·.1))) (hdp : A.depth + 1 + 4 * d ≤ 900) (hun : A.units + 3 + 100 * d ≤ 9000)
    (S : Sit w.params base g os ns σ s) (hl : σ a = some (.fn fd)) (h : lamH r fd a (vals.map er) σ K X) :
    wpM m (model prog w) A (call (.ref a) vals) (PostV w.params base g os ns K) (PostX w.params base g os none ns X) s := by
  run_tac beginC
  obtain ⟨hs, hv, h⟩ := h
  have : vals = [] := by cases vals with | nil => rfl | cons => cases hv
  subst this
  simp only [Bool.and_eq_true, beq_iff_eq] at hs
  obtain ⟨⟨⟨⟨h1, hnd⟩, h2⟩, h3⟩, hdf⟩ := hs
  obtain ⟨hk, hgen, hco⟩ := plainScope_of h1
  (run_tac invE `h)
  · rename_i e
    have hbody := q
    obtain ⟨hcell, h⟩ := h
    obtain ⟨ob, ho, rfl⟩ := S.rep _ _ hl
    obtain ⟨c, hc, hcode⟩ := S.fns _ _ hl
    obtain ⟨oc, hoc, vs, tq, hdc, hq⟩ := S.rep _ _ hcode
    have hp : fd.params = ⟨[], [], none, [], [], none, []⟩ := by
      unfold noDefaults at hnd
      revert hnd
      generalize fd.params = pp
      intro hnd
      (run_tac invT `hnd)
      rfl
    refine wpM_call (codeM_of_tree ?_)
    show wpM m _ A.in1 (callAny (.ref a) ⟨[], []⟩) _ _ s
    simp only [callAny]
    refine wpM_leaf (wpAny_load ho ?_)
    simp only [callFunction, hco, hgen, hbody, hc]
    refine wpM_leaf (m := m) (t := field (.ref c) 1) (wpAny_field hoc hdc hq (wpM_bind (wpM_pure ?_)))
    refine wpM_leaf (wpAny_mono (bind_at (E := fun _ _ => False) (ds := []) (b := []) hp (fun hR => by rw [hdf]; first | exact wpAny_pure (hR none rfl) | exact wpAny_bind (wpAny_pure (wpAny_pure (hR none rfl)))) rfl (Q := fun b s' => b = [] ∧ s' = s) ⟨rfl, rfl⟩) (fun b s' q => ?_) fun _ _ x => x.elim)
    obtain ⟨rfl, rfl⟩ := q
    refine wpM_leaf (wpAny_newFunctionEnv (fun x hx => ?_) (fun x hx => by cases hx) (fun h' hns hsb => ?_) hk)
    · have := List.all_eq_true.mp hcell x hx
      simpa using this
    have hkeep : ∀ b o, s'.heap.get? b = some o → h'.get? b = some o := fun b o e => hsb.extBut b o (Nat.ne_of_lt (Heap.lt_size e)) (Heap.get?_push_of_some _ e)
    refine wpM_leaf (wpAny_enterFrame (T.nolimit.keeps fun b o e => hkeep _ _ (S.stays b o e)) (by show A.depth < recursionLimit; unfold recursionLimit; (run_tac Mine.Lin.om)) (wpM_pure ⟨rfl, rfl, ?_⟩))
    have e0 : newEnv fd.scope s'.heap.objs.size fd.globals fd.closure (fd.qualname ++ ".<locals>.") (some a) (.ref c) none fd.builtins = envH fd a s'.heap.objs.size fd.closure := by
      unfold newEnv envH
      rw [h2, h3, hc]
    rw [e0]
    have hfree : s'.heap.get? s'.heap.objs.size = none := Heap.get?_none_of_le (Nat.le_refl _)
    have S1 : Sit w.params base g os ((s'.heap.objs.size, Loc.nil) :: ns) σ { s' with heap := h', toks := s'.toks + ([] : List (Str × Value)).length } :=
      S.nsPush (s' := { s' with heap := h', toks := s'.toks + ([] : List (Str × Value)).length }) hkeep hfree ⟨_, hns, fun y => rfl⟩ rfl rfl
    have ok : Okk (A.deeper (envH fd a s'.heap.objs.size fd.closure)) (envH fd a s'.heap.objs.size fd.closure) ns d := by
      refine ⟨hh, hk, rfl, rfl, ⟨_, l, ?_, rfl, hin.cons hk rfl⟩, hdp, hun⟩
      show A.frames.map _ = _
      rw [hfr]; rfl
    exact snd_exprCode H T ok S1 (h _ S.fresh') (fun v s' q => q) (fun v s' q => q)
  run_tac endC
end
end Mine
end

section
open PySem PySem.W PySem.Calls PyProof.Rows PySem.SeqAt Builtin
set_option maxRecDepth 100000
set_option maxHeartbeats 4000000
namespace Mine

section
variable {prog : Program} {w : World} {m : Bool} {A : Around} {K : Frag} {C : Addr} {R : Result → Shared → Prop} {h : Heap} {g : Array GenState} {d : Drawn} {t : Nat} {os : OsState}

theorem frames_builtin {l : List Env} {id : String} {args : Args} (h : A.frames = some l) : (A.under (.builtin id args)).frames = some l := by
  run_tac beginC
  unfold Around.under pushEnvs
  rw [h]
  rfl
  run_tac endC

theorem codeM_call_builtin_at {s : Shared} {id : String} {args : Args} {b : Builtin} (hq : (Code.builtin id args).quiet = true) (ok : badIds.contains id = false) (hb : entryFor table id = some b)
    (h : wpM m (model prog w) A.in1 (checkBuiltinCall id args) (fun _ s₁ => wpM m (model prog w) (A.under (.builtin id args)) (b args)
      (fun fin s' => match fin with | .done f => R (.ok f) s' | .again c' => c'.quiet = true ∧ okB c' = true ∧ codeM m (model prog w) A c' R s') (fun e s' => R (.error e) s') s₁)
      (fun e s' => R (.error e) s') s) : codeM m (model prog w) A (.call (.builtin id) args) R s := by
  run_tac beginC
  refine codeM_of_tree ?_
  show wpM m _ A.in1 (do checkBuiltinCall id args; again (.builtin id args)) _ _ s
  refine wpM_bind (wpM_mono h (fun _ s₁ h₁ => wpM_pure ⟨hq, by simp only [okB, ok, Bool.not_false], codeM_of_tree ?_⟩) fun _ _ h' => h')
  show wpM m _ _ (match entryFor table id with | some b => b args | none => unsupported ((withoutEnding? id "#data").getD id)) _ _ s₁
  rw [hb]; exact h₁
  run_tac endC

theorem mk_core {rest : List Value} {init : Value} (Y : Makes (model prog w) h C) (hi : Looks (model prog w) h (typeLookup (.ref C) "__init__") (some init))
    (hb : ∀ self, Looks (model prog w) h (bindSpecial init self) (init, [self])) (hne : (some init != some (Value.builtin "object.__init__")) = true ∨ (rest = []))
    (hq : wpM m (model prog w) (A.under (.builtin "type.__call__" ⟨.ref C :: rest, []⟩)) (PySem.call init (.ref (h.objs.size + 1) :: rest)) (fun v s' => v = .none ∧ R (.ok (.ret (.ref (h.objs.size + 1)))) s') (fun e s' => R (.error e) s') ⟨(h.push emptyDict).push (instObj C h.objs.size), g, d, t, os⟩) :
    codeM m (model prog w) A (.call (.ref C) ⟨rest, []⟩) R ⟨h, g, d, t, os⟩ := by
  run_tac beginC
  have Y' := Y
  obtain ⟨⟨oc, od, cd, sl, hC, e1, e2, e4⟩, made, base, self, top, call, typ⟩ := Y
  refine codeM_of_tree ?_
  show wpM m _ _ (callAny (.ref C) _) _ _ _
  refine wpM_leaf (wpAny_load hC ?_)
  show wpM m _ _ (callAny.viaDunder (.ref C) _) _ _ _
  unfold callAny.viaDunder
  refine wpM_leaf (call.at ?_)
  dsimp only
  rw [tc_bind]
  refine wpM_bind (wpM_pure (wpM_bind (wpM_pure ?_)))
  refine wpM_pure (a := Fin.again (.call (.builtin "type.__call__") ⟨.ref C :: rest, []⟩)) ⟨rfl, rfl, ?_⟩
  refine codeM_call_builtin_at (Code.quiet_builtin _ (by decide +kernel)) (by decide +kernel) entry_typeCall (.of (check_slot tc_kind tc_split typ (tc_args _ _ _) ?_))
  unfold Builtin.«type.__call__»
  have hm : Looks (model prog w) h (mroOf (.ref C)) cd.mro := ((Looks.ld (part := none) hC).andThen .now).andThen .now
  dsimp only [List.cons_append]
  simp only [show (Value.ref C == Value.type "type") = false from rfl, Bool.false_eq_true, if_false]
  refine wpM_leaf (t := mroOf (.ref C)) (hm.here ?_)
  rw [e4]
  simp only [Bool.false_eq_true, if_false]
  refine wpM_leaf (t := Bind.madeBy (.ref C)) (made.here ?_)
  dsimp only
  refine wpM_bind (wpM_pure ?_)
  refine wpM_leaf (wpAny_holding (wpAny_call (codeAny_mono (new_K (R := fun r s' => r = .ok (.ret (.ref (h.objs.size + 1))) ∧ s' = ⟨(h.push emptyDict).push (instObj C h.objs.size), g, d, t, os⟩) Y' hi (hne.imp id fun q => ⟨q, rfl⟩) ⟨rfl, rfl⟩) fun r s' q => ?_)))
  obtain ⟨rfl, rfl⟩ := q
  dsimp only
  have k : ∀ b o, h.get? b = some o → ((h.push emptyDict).push (instObj C h.objs.size)).get? b = some o := fun b o e => Heap.get?_push_of_some _ (Heap.get?_push_of_some _ e)
  have hx : ((h.push emptyDict).push (instObj C h.objs.size)).get? (h.objs.size + 1) = some (instObj C h.objs.size) := by heap_get
  have t1 : Looks (model prog w) ((h.push emptyDict).push (instObj C h.objs.size)) (typeOf (.ref (h.objs.size + 1))) (.ref C) := (Looks.ld hx).andThen .now
  have s1 := self.keeps k
  have i1 := hi.keeps k
  have b1 := (hb (.ref (h.objs.size + 1))).keeps k
  have q1 : Looks (model prog w) ((h.push emptyDict).push (instObj C h.objs.size)) (isInstance (.ref (h.objs.size + 1)) (.ref C)) true := by unfold isInstance; exact t1.andThen s1
  have q2 : Looks (model prog w) ((h.push emptyDict).push (instObj C h.objs.size)) (specialOf (.ref (h.objs.size + 1)) "__init__") (some init) := by unfold specialOf; exact t1.andThen i1
  refine wpM_leaf (t := isInstance (.ref (h.objs.size + 1)) (.ref C)) (q1.here ?_)
  simp only [Bool.not_true, Bool.false_eq_true, if_false]
  refine wpM_bind (wpM_holding ?_)
  unfold callSpecial?
  refine wpM_leaf (t := specialOf _ _) (q2.here ?_)
  dsimp only
  refine wpM_holding (wpM_leaf (b1.here ?_))
  refine wpM_bind (wpM_mono hq (fun v s' z => ?_) fun _ _ z => z)
  obtain ⟨rfl, z⟩ := z
  exact wpM_pure (wpM_pure z)
  run_tac endC
end

/-- an object of an own class, made -/
theorem snd_make {prog : Program} {w : World} {m : Bool} {A : Around} {F : Frag} {G : Str → Option Value} {base : Heap} {g : Array GenState} {os : OsState} {d : Nat} {ns : List (Addr × Loc)} {σ : Store} {s : Shared} {K : KV} {X : KX} {cf : CallF} {l : List Env} {a : Addr} {vals : List Value}
    (C : SndC m prog w F G g os d cf) (T : Stat w F G base) (hh : A.handled = none) (hfr : A.frames = some l) (hin : FramesIn l (ns.map (·.1))) (hdp : A.depth + 1 + 4 * d ≤ 900) (hun : A.units + 1 + 100 * d ≤ 9000)
    (S : Sit w.params base g os ns σ s) (h : makeH F a cf (vals.map er) σ K X) :
    wpM m (model prog w) A (call (.ref a) vals) (PostV w.params base g os ns K) (PostX w.params base g os none ns X) s := by
  run_tac beginC
  have XF : F.In s.heap := T.kin.keeps S.stays
  unfold makeH at h
  split at h
  · rename_i fI hm
    obtain ⟨hmk, h⟩ := h
    simp only [Bool.and_eq_true] at hmk
    obtain ⟨hmk, hf⟩ := hmk
    have hi : findIn F (.ref a) "__init__" = some (some (.ref fI)) := by
      unfold methOf at hm
      split at hm
      · rename_i f q; cases hm; exact q
      · cases hm
    obtain ⟨hp, gg, dr, tk, os'⟩ := s
    refine wpM_call (mk_core (makes_of XF hmk) (looks_findIn XF hi) (fun self => bind_fn XF self (beq_iff_eq.mp hf)) (.inl rfl) ?_)
    have hsz : hp.get? hp.objs.size = none := Heap.get?_none_of_le (Nat.le_refl _)
    have S1 : Sit w.params base g os ns (σ.set hp.objs.size (.dict [])) ⟨hp.push emptyDict, gg, dr, tk, os'⟩ :=
      S.new (s' := ⟨hp.push emptyDict, gg, dr, tk, os'⟩) (fun b x e => Heap.get?_push_of_some _ e) hsz (Heap.get?_push_at rfl rfl) ⟨#[], 0, rfl, .nil, by decide, by decide⟩ rfl rfl rfl
    have hsz2 : (hp.push emptyDict).objs.size = hp.objs.size + 1 := Heap.size_push _ _
    have S2 : Sit w.params base g os ns ((σ.set hp.objs.size (.dict [])).set (hp.objs.size + 1) (.inst a hp.objs.size)) ⟨(hp.push emptyDict).push (instObj a hp.objs.size), gg, dr, tk, os'⟩ :=
      S1.new (s' := ⟨(hp.push emptyDict).push (instObj a hp.objs.size), gg, dr, tk, os'⟩) (fun b x e => Heap.get?_push_of_some _ e) (Heap.get?_none_of_le (by rw [hsz2]; exact Nat.le_refl _)) (Heap.get?_push_at hsz2.symm rfl) rfl rfl rfl rfl
    have fr1 : Fresh σ hp.objs.size := S.fresh (Nat.le_refl _)
    have fr2 : Fresh (σ.set hp.objs.size (.dict [])) (hp.objs.size + 1) := S1.fresh (by rw [hsz2]; exact Nat.le_refl _)
    have h2 := h _ fr1 _ fr2
    have z := C base T (A.under (.builtin "type.__call__" ⟨.ref a :: vals, []⟩)) ns _ (.ref fI) (.ref (hp.objs.size + 1) :: vals) _ _ _ l hh (frames_builtin hfr) hin (by show A.depth + 1 + 4 * d ≤ 900; exact hdp) (by show A.units + 1 + 100 * d ≤ 9000; exact hun) S2 h2
    refine wpM_mono z (fun v s' ⟨σ1, S1, hv, hk⟩ => ⟨er_none hv, σ1, S1, hk⟩) fun v s' x => x
  · cases h
  run_tac endC
end Mine
end

section
open PySem PySem.W PySem.Calls PyProof.Rows PySem.SeqAt Builtin
set_option maxRecDepth 100000
set_option maxHeartbeats 4000000
namespace Mine

section
variable {prog : Program} {w : World} {m : Bool} {A : Around} {C : Addr} {R : Result → Shared → Prop} {h : Heap} {g : Array GenState} {d : Drawn} {t : Nat} {os : OsState}
variable {nm q : Str} {N : Addr} {bs bm : List Value} {hdct : Bool} {sn : List Str} {sub : List Value} {ab : Bool} {col : Option Bool} {dd : Option Addr} {k0 k1 k2 k3 k5 : Option Value}

noncomputable abbrev excObj (C t : Addr) : Obj := { cls := .ref C, data := .fields #[.ref t, .none, .none, .none, .bool false, .none] }
noncomputable abbrev excArgs (rest : List Value) : Obj := { cls := .type "tuple", data := .seq rest.toArray }

theorem exc_new {rest : List Value} (hC : h.get? C = some (excClassObj nm q C N bs bm hdct sn sub ab col dd k0 k1 k2 k3 k5 "ValueError.__new__")) (b1 : bm.contains (.type "ValueError") = true) (b2 : bm.contains (.type "AttributeError") = false) (b3 : bm.contains (.type "NameError") = false)
    (hq : R (.ok (.ret (.ref (h.objs.size + 1)))) ⟨(h.push (excArgs rest)).push (excObj C h.objs.size), g, d, t, os⟩) (hrest : rest.length ≤ sizeLine) :
    codeAny (model prog w) A (.call (.builtin "ValueError.__new__") ⟨.ref C :: rest, []⟩) R ⟨h, g, d, t, os⟩ := by
  run_tac beginC
  have F := PySem.F.excBase_ValueError
  have hends := F.ends
  have hcB : (Value.ref C :: bm).contains (.type "ValueError") = true := by rw [List.contains_cons, b1, Bool.or_true]
  have hcA : (Value.ref C :: bm).contains (.type "AttributeError") = false := by rw [List.contains_cons, b2]; rfl
  have hcN : (Value.ref C :: bm).contains (.type "NameError") = false := by rw [List.contains_cons, b3]; rfl
  have hstar := F.noStar
  refine codeAny_call_builtin_code (Code.quiet_builtin _ F.quiet) ?_
  simp only [checkBuiltinCall, F.newKind, F.newSplit, F.newRow]
  repeat (first | refine wpAny_loadPart_at hC ?_ | (refine wpAny_isSubtype_exc hC ?_; rw [hcB]) | refine wpAny_staticBase_exc hC ?_ | refine wpAny_madeBy_exc hC ?_ | simp only [bne_self_eq_false, Bool.false_eq_true, if_false] | wp_step)
  refine codeAny_builtinAt F.entry ?_
  unfold Builtin.«BaseException.__new__»
  refine PySem.wpAt_bind ?_
  show PySem.wpAt _ _ _ (stack >>= _) _ _ _
  refine PySem.wpAt_bind (PySem.wpAt_stack fun p below => PySem.wpAt_of_wpAny ?_)
  wp_walk
  refine PySem.wpAt_of_wpAny ?_
  rw [F.owner]
  repeat (first | with_reducible refine wpAny_madeHere_exc F.canon hC ?_ | with_reducible refine wpAny_loadPart_at hC ?_ | (with_reducible refine wpAny_isSubtype_exc hC ?_; first | rw [hcB] | rw [hcA] | rw [hcN]) | wp_step)
  show R _ _
  rw [Heap.size_push]
  exact hq
  run_tac endC

theorem exc_core {rest : List Value} {init : Value} (hC : h.get? C = some (excClassObj nm q C N bs bm hdct sn sub ab col dd k0 k1 k2 k3 k5 "ValueError.__new__")) (b1 : bm.contains (.type "ValueError") = true) (b2 : bm.contains (.type "AttributeError") = false) (b3 : bm.contains (.type "NameError") = false)
    (call : Looks (model prog w) h (specialOf (.ref C) "__call__") (some (.builtin "type.__call__"))) (typ : Looks (model prog w) h (isInstance (.ref C) (.type "type")) true)
    (hi : Looks (model prog w) h (typeLookup (.ref C) "__init__") (some init))
    (hb : ∀ self, Looks (model prog w) h (bindSpecial init self) (init, [self])) (hrest : rest.length ≤ sizeLine)
    (hq : wpM m (model prog w) (A.under (.builtin "type.__call__" ⟨.ref C :: rest, []⟩)) (PySem.call init (.ref (h.objs.size + 1) :: rest)) (fun v s' => v = .none ∧ R (.ok (.ret (.ref (h.objs.size + 1)))) s') (fun e s' => R (.error e) s') ⟨(h.push (excArgs rest)).push (excObj C h.objs.size), g, d, t, os⟩) :
    codeM m (model prog w) A (.call (.ref C) ⟨rest, []⟩) R ⟨h, g, d, t, os⟩ := by
  run_tac beginC
  refine codeM_of_tree ?_
  show wpM m _ _ (callAny (.ref C) _) _ _ _
  refine wpM_leaf (wpAny_load hC ?_)
  show wpM m _ _ (callAny.viaDunder (.ref C) _) _ _ _
  unfold callAny.viaDunder
  refine wpM_leaf (call.at ?_)
  dsimp only
  rw [tc_bind]
  refine wpM_bind (wpM_pure (wpM_bind (wpM_pure ?_)))
  refine wpM_pure (a := Fin.again (.call (.builtin "type.__call__") ⟨.ref C :: rest, []⟩)) ⟨rfl, rfl, ?_⟩
  refine codeM_call_builtin_at (Code.quiet_builtin _ (by decide +kernel)) (by decide +kernel) entry_typeCall (.of (check_slot tc_kind tc_split typ (tc_args _ _ _) ?_))
  unfold Builtin.«type.__call__»
  dsimp only [List.cons_append]
  simp only [show (Value.ref C == Value.type "type") = false from rfl, Bool.false_eq_true, if_false]
  refine wpM_leaf (t := mroOf (.ref C)) (wpAny_mroOf_exc hC ?_)
  simp only [List.isEmpty_cons, Bool.false_eq_true, if_false]
  refine wpM_leaf (t := Bind.madeBy (.ref C)) (wpAny_madeBy_exc hC ?_)
  dsimp only
  refine wpM_bind (wpM_pure ?_)
  refine wpM_leaf (wpAny_holding (wpAny_call (codeAny_mono (exc_new (R := fun r s' => r = .ok (.ret (.ref (h.objs.size + 1))) ∧ s' = ⟨(h.push (excArgs rest)).push (excObj C h.objs.size), g, d, t, os⟩) hC b1 b2 b3 ⟨rfl, rfl⟩ hrest) fun r s' q => ?_)))
  obtain ⟨rfl, rfl⟩ := q
  dsimp only
  have k : ∀ b o, h.get? b = some o → ((h.push (excArgs rest)).push (excObj C h.objs.size)).get? b = some o := fun b o e => Heap.get?_push_of_some _ (Heap.get?_push_of_some _ e)
  have hx : ((h.push (excArgs rest)).push (excObj C h.objs.size)).get? (h.objs.size + 1) = some (excObj C h.objs.size) := by heap_get
  have t1 : Looks (model prog w) ((h.push (excArgs rest)).push (excObj C h.objs.size)) (typeOf (.ref (h.objs.size + 1))) (.ref C) := (Looks.ld hx).andThen .now
  have i1 := hi.keeps k
  have b1' := (hb (.ref (h.objs.size + 1))).keeps k
  have q2 : Looks (model prog w) ((h.push (excArgs rest)).push (excObj C h.objs.size)) (specialOf (.ref (h.objs.size + 1)) "__init__") (some init) := by unfold specialOf; exact t1.andThen i1
  have q1 : ∀ {A' : Around} {E : Value → Shared → Prop} {Q : Bool → Shared → Prop}, Q true ⟨(h.push (excArgs rest)).push (excObj C h.objs.size), g, d, t, os⟩ → wpAny (model prog w) A' (isInstance (.ref (h.objs.size + 1)) (.ref C)) Q E ⟨(h.push (excArgs rest)).push (excObj C h.objs.size), g, d, t, os⟩ := fun hq => by
    unfold isInstance
    refine wpAny_bind (t1.here (wpAny_isSubtype_exc (k _ _ hC) ?_))
    rw [show (Value.ref C :: bm).contains (Value.ref C) = true by simp]
    exact hq
  refine wpM_leaf (t := isInstance (.ref (h.objs.size + 1)) (.ref C)) (q1 ?_)
  simp only [Bool.not_true, Bool.false_eq_true, if_false]
  refine wpM_bind (wpM_holding ?_)
  unfold callSpecial?
  refine wpM_leaf (t := specialOf _ _) (q2.here ?_)
  dsimp only
  refine wpM_holding (wpM_leaf (b1'.here ?_))
  refine wpM_bind (wpM_mono hq (fun v s' z => ?_) fun _ _ z => z)
  obtain ⟨rfl, z⟩ := z
  exact wpM_pure (wpM_pure z)
  run_tac endC
end

theorem slots_inv {l : List (Option Value)} (h : slotsVE l = true) : ∃ k0 k1 k2 k3 k5, l = [k0, k1, k2, k3, some (.builtin "ValueError.__new__"), k5] := by
  run_tac beginC
  unfold slotsVE isNewVE at h
  (run_tac invT `h)
  rw [beq_iff_eq] at h
  subst h
  exact ⟨_, _, _, _, _, rfl⟩
  run_tac endC
theorem makesExc_inv {F : Frag} {C : Addr} (h : makesExcIn F C = true) : ∃ dd nm bs bm N q hd sn sub ab col sl k0 k1 k2 k3 k5, F.lookup C = some ⟨.type "type", dd, .cls ⟨nm, bs, .ref C :: bm, N, q, hd, sn, sub, ab, col, false⟩, sl⟩ ∧
    bm.contains (.type "ValueError") = true ∧ bm.contains (.type "AttributeError") = false ∧ bm.contains (.type "NameError") = false ∧ sl.toList = [k0, k1, k2, k3, some (.builtin "ValueError.__new__"), k5] ∧
    specialIn F (.ref C) "__call__" = some (some (.builtin "type.__call__")) ∧ instIn F (.ref C) (.type "type") = some true := by
  run_tac beginC
  unfold makesExcIn at h
  generalize hl : F.lookup C = y at h
  (run_tac invT `h)
  simp only [Bool.and_eq_true, beq_iff_eq, Bool.not_eq_true'] at h
  obtain ⟨⟨⟨⟨⟨⟨⟨rfl, rfl⟩, h1⟩, h2⟩, h3⟩, h4⟩, h5⟩, h6⟩ := h
  obtain ⟨k0, k1, k2, k3, k5, h4⟩ := slots_inv h4
  exact ⟨_, _, _, _, _, _, _, _, _, _, _, _, _, _, _, _, _, rfl, h1, h2, h3, h4, h5, h6⟩
  run_tac endC

theorem snd_makeExc {prog : Program} {w : World} {m : Bool} {A : Around} {F : Frag} {G : Str → Option Value} {base : Heap} {g : Array GenState} {os : OsState} {d : Nat} {ns : List (Addr × Loc)} {σ : Store} {s : Shared} {K : KV} {X : KX} {cf : CallF} {l : List Env} {a : Addr} {vals : List Value}
    (C : SndC m prog w F G g os d cf) (T : Stat w F G base) (hh : A.handled = none) (hfr : A.frames = some l) (hin : FramesIn l (ns.map (·.1))) (hdp : A.depth + 1 + 4 * d ≤ 900) (hun : A.units + 1 + 100 * d ≤ 9000)
    (S : Sit w.params base g os ns σ s) (h : makeExcH F a cf (vals.map er) σ K X) :
    wpM m (model prog w) A (call (.ref a) vals) (PostV w.params base g os ns K) (PostX w.params base g os none ns X) s := by
  run_tac beginC
  have XF : F.In s.heap := T.kin.keeps S.stays
  unfold makeExcH at h
  split at h
  · rename_i fI hm
    obtain ⟨hmk, h⟩ := h
    simp only [Bool.and_eq_true] at hmk
    obtain ⟨⟨hmk, hf⟩, hlen⟩ := hmk
    rw [decide_eq_true_eq, List.length_map] at hlen
    have hi : findIn F (.ref a) "__init__" = some (some (.ref fI)) := by
      unfold methOf at hm
      split at hm
      · rename_i f q; cases hm; exact q
      · cases hm
    · obtain ⟨dd, nm, bs, bm, N, q, hd, sn, sub, ab, col, sl, k0, k1, k2, k3, k5, hl, h1, h2, h3, hsl, h5, h6⟩ := makesExc_inv hmk
      generalize hC' : a = C' at *
      · obtain ⟨hp, gg, dr, tk, os'⟩ := s
        have hC : hp.get? C' = some (excClassObj nm q C' N bs bm hd sn sub ab col dd k0 k1 k2 k3 k5 "ValueError.__new__") := by
          rw [XF _ _ hl]
          have : sl = #[k0, k1, k2, k3, some (.builtin "ValueError.__new__"), k5] := by rw [← Array.toList_inj, hsl]
          rw [this]
        refine wpM_call (exc_core hC h1 h2 h3 (looks_specialIn XF h5) (looks_instIn XF h6) (looks_findIn XF hi) (fun self => bind_fn XF self (beq_iff_eq.mp hf)) (by rw [sizeLine_eq]; (run_tac Mine.Lin.om)) ?_)
        have hsz : hp.get? hp.objs.size = none := Heap.get?_none_of_le (Nat.le_refl _)
        have S1 : Sit w.params base g os ns σ ⟨hp.push (excArgs vals), gg, dr, tk, os'⟩ :=
          S.keeps (s' := ⟨hp.push (excArgs vals), gg, dr, tk, os'⟩) (fun b x e => Heap.get?_push_of_some _ e) rfl rfl
        have hsz2 : (hp.push (excArgs vals)).objs.size = hp.objs.size + 1 := Heap.size_push _ _
        have S2 : Sit w.params base g os ns (σ.set (hp.objs.size + 1) (.exc C' none true)) ⟨(hp.push (excArgs vals)).push (excObj C' hp.objs.size), gg, dr, tk, os'⟩ :=
          S1.new (s' := ⟨(hp.push (excArgs vals)).push (excObj C' hp.objs.size), gg, dr, tk, os'⟩) (fun b x e => Heap.get?_push_of_some _ e) (Heap.get?_none_of_le (by rw [hsz2]; exact Nat.le_refl _)) (Heap.get?_push_at hsz2.symm rfl) ⟨rfl, rfl, rfl, _, rfl, rfl, fun _ => rfl⟩ rfl rfl rfl
        have h2 := h _ (S1.fresh (a := hp.objs.size + 1) (by rw [hsz2]; exact Nat.le_refl _))
        have z := C base T (A.under (.builtin "type.__call__" ⟨.ref C' :: vals, []⟩)) ns _ (.ref fI) (.ref (hp.objs.size + 1) :: vals) _ _ _ l hh (frames_builtin hfr) hin (by show A.depth + 1 + 4 * d ≤ 900; exact hdp) (by show A.units + 1 + 100 * d ≤ 9000; exact hun) S2 h2
        refine wpM_mono z (fun v s' ⟨σ1, S1, hv, hk⟩ => ⟨er_none hv, σ1, S1, hk⟩) fun v s' x => x
  · cases h
  run_tac endC
end Mine
end

section
open PySem PySem.W PySem.Calls PyProof.Rows PySem.SeqAt Builtin
set_option maxRecDepth 100000
set_option maxHeartbeats 4000000
namespace Mine

theorem er1 {vs : List Value} {x : Value} (h : vs.map er = [x]) : ∃ v, vs = [v] ∧ er v = x := by
  run_tac beginC
  cases vs with
  | nil => cases h
  | cons v vs =>
    cases vs with
    | nil => exact ⟨v, rfl, (List.cons.inj h).1⟩
    | cons => exact absurd (congrArg List.length h) (by simp)
  run_tac endC
theorem er2 {vs : List Value} {x y : Value} (h : vs.map er = [x, y]) : ∃ v u, vs = [v, u] ∧ er v = x ∧ er u = y := by
  run_tac beginC
  cases vs with
  | nil => cases h
  | cons v vs =>
    cases vs with
    | nil => exact absurd (congrArg List.length h) (by simp)
    | cons u vs =>
      cases vs with
      | nil => exact ⟨v, u, rfl, (List.cons.inj h).1, (List.cons.inj (List.cons.inj h).2).1⟩
      | cons => exact absurd (congrArg List.length h) (by simp)
  run_tac endC
theorem er0 {vs : List Value} (h : vs.map er = []) : vs = [] := by cases vs with | nil => rfl | cons => cases h

theorem intsOf_is : ∀ {items : List Value} {ns : List Int}, intsOf (items.map er) = some ns → IntsAre items ns
  | [], ns, h => by cases h; exact .nil
  | v :: r, ns, h => by
    rw [List.map_cons] at h
    cases v with
    | int i t =>
      obtain ⟨ms, h1, rfl⟩ := Option.map_eq_some_iff.mp (show (intsOf (r.map er)).map (i :: ·) = some ns from h)
      exact .cons _ _ (intsOf_is h1)
    | _ => cases h

theorem Store.set_id {σ : Store} {a : Addr} {o : O} (h : σ a = some o) : σ.set a o = σ := by
  run_tac beginC
  funext b
  unfold Store.set
  split
  · rename_i e; rw [e, h]
  · rfl
  run_tac endC

section
variable {prog : Program} {w : World} {A : Around} {F : Frag} {G : Str → Option Value} {base : Heap} {g : Array GenState} {os : OsState} {ns : List (Addr × Loc)} {σ : Store} {s : Shared} {K : KV} {E : Value → Shared → Prop}

theorem verr_init (T : Stat w F G base) (S : Sit w.params base g os ns σ s) {x C : Addr} {dx : Option Addr} {n : Bool} {v : Value} (hx : σ x = some (.exc C dx n)) (hC : excOk F C = true)
    (hq : ∀ s', Sit w.params base g os ns σ s' → E .none s') {X : Value → Shared → Prop} : wpAny (model prog w) A (call (.builtin "ValueError.__init__") [.ref x, v]) E X s := by
  run_tac beginC
  have XF : F.In s.heap := T.kin.keeps S.stays
  have B := PySem.F.excBase_ValueError
  obtain ⟨⟨ob1, ob2, ob3, ob4⟩, e, hcls, hdict, hsl, vs, hvs, hsz, hn⟩ := S.rep _ _ hx
  dsimp only at hcls hdict hsl hvs
  subst hcls hdict hsl hvs
  have hnb := S.own _ _ hx rfl
  obtain ⟨hp, gg, dr, tk, os'⟩ := s
  have top : Looks (model prog w) hp (isInstance (.ref x) (.type "ValueError")) true := by
    unfold excOk at hC
    simp only [Bool.and_eq_true] at hC
    obtain ⟨cd, hcd, ht⟩ := any_some hC.2
    have has : ∀ {l : List Value}, excTail l = true → l.contains (.type "ValueError") = true := by
      intro l
      induction l with
      | nil => intro h; cases h
      | cons a r ih =>
        intro h
        cases a with
        | ref _ => rw [List.contains_cons, ih h, Bool.or_true]
        | _ =>
          have := beq_iff_eq.mp h
          rw [this]; simp
    have ne : cd.mro.isEmpty = false := by cases q : cd.mro with | nil => rw [q] at ht; cases ht | cons _ _ => rfl
    have t1 : Looks (model prog w) hp (typeOf (.ref x)) (.ref C) := by
      have := (Looks.ld (M := model prog w) (part := none) e).andThen (f := fun o => pure o.cls) .now
      exact this
    unfold isInstance
    exact t1.andThen (looks_mroIn XF (by unfold mroIn; rw [hcd, Option.bind_some, if_neg (by rw [ne]; decide), has ht]))
  have hstar := B.noStar
  refine wpAny_call (codeAny_call_builtin B.init.plain B.initEntry ?_)
  simp only [checkBuiltinCall, B.initKind, B.initSplit, B.initRow]
  refine wpAny_bind (top.here ?_)
  simp only [Bool.not_true, Bool.false_eq_true, if_false]
  have hcd : ∃ oC cd, hp.get? C = some oC ∧ oC.data = .cls cd := by
    unfold excOk at hC
    simp only [Bool.and_eq_true] at hC
    obtain ⟨cd, hcd, ht⟩ := any_some hC.2
    unfold clsIn at hcd
    split at hcd
    · rename_i hl; cases hcd; exact ⟨_, _, XF _ _ hl, rfl⟩
    · cases hcd
  obtain ⟨⟨o1, o2, o3, o4⟩, cd, hoC, hdC⟩ := hcd
  dsimp only at hdC
  subst hdC
  repeat (first | with_reducible refine wpAny_loadPart_at e ?_ | with_reducible refine wpAny_loadPart_at hoC ?_ | wp_step)
  obtain ⟨v0, hv0⟩ : ∃ v0, vs[0]? = some v0 := ⟨_, Array.getElem?_eq_getElem (by (run_tac Mine.Lin.om))⟩
  have hx1 := Heap.get?_push_of_some { cls := .type "tuple", data := .seq #[v] } e
  show wpAny _ _ _ _ _ _
  rw [hv0]
  refine wpAny_pure (wpAny_bind (wpAny_setField (s := ⟨hp.push { cls := .type "tuple", data := .seq #[v] }, gg, dr, tk, os'⟩) (i := 0) hx1 rfl (by show 0 < vs.size; (run_tac Mine.Lin.om)) ?_))
  have S1 : Sit w.params base g os ns σ ⟨hp.push { cls := .type "tuple", data := .seq #[v] }, gg, dr, tk, os'⟩ := S.keeps (s' := ⟨hp.push { cls := .type "tuple", data := .seq #[v] }, gg, dr, tk, os'⟩) (fun b o e => Heap.get?_push_of_some _ e) rfl rfl
  have S2 : Sit w.params base g os ns σ ⟨(hp.push { cls := .type "tuple", data := .seq #[v] }).update x (Obj.mapFields (·.setIfInBounds 0 (.ref hp.objs.size))), gg, dr, tk, os'⟩ := by
    have := S1.turn (s' := ⟨(hp.push { cls := .type "tuple", data := .seq #[v] }).update x (Obj.mapFields (·.setIfInBounds 0 (.ref hp.objs.size))), gg, dr, tk, os'⟩) hx rfl rfl (Heap.SameBut.update ..).extBut (Heap.get?_update_self _ hx1 rfl) (o := .exc C ob2 n)
      ⟨rfl, rfl, rfl, _, rfl, by simpa using hsz, fun q => by rw [← hn q]; simp⟩ rfl rfl rfl
    rwa [Store.set_id hx] at this
  have fin := hq _ S2
  split
  · exact wpAny_mono (wpAny_letGo (Q := fun _ s' => s' = ⟨(hp.push { cls := .type "tuple", data := .seq #[v] }).update x (Obj.mapFields (·.setIfInBounds 0 (.ref hp.objs.size))), gg, dr, tk, os'⟩) rfl) (fun _ s' q => by subst q; exact wpAny_pure fin) fun _ _ z => z
  · exact wpAny_pure (wpAny_pure fin)
  run_tac endC

theorem one_of {v : Value} {P : Value → Prop} (h : arg1 ([v].map er) P) : P (er v) := h
theorem arg1_inv {vals : List Value} {P : Value → Prop} (h : arg1 (vals.map er) P) : ∃ v, vals = [v] ∧ P (er v) := by
  run_tac beginC
  cases vals with
  | nil => exact False.elim h
  | cons v vs =>
    cases vs with
    | nil => exact ⟨v, rfl, h⟩
    | cons => exact False.elim h
  run_tac endC
theorem arg2_inv {vals : List Value} {P : Value → Value → Prop} (h : arg2 (vals.map er) P) : ∃ u v, vals = [u, v] ∧ P (er u) (er v) := by
  run_tac beginC
  cases vals with
  | nil => exact False.elim h
  | cons u vs =>
    cases vs with
    | nil => exact False.elim h
    | cons v vs =>
      cases vs with
      | nil => exact ⟨u, v, rfl, h⟩
      | cons => exact False.elim h
  run_tac endC
theorem refV_inv {x : VK} {P : Addr → Prop} (h : refV x P) : ∃ a, x = .ref a ∧ P a := by
  run_tac beginC
  cases x with
  | ref a => exact ⟨a, rfl, h⟩
  | _ => exact False.elim h
  run_tac endC
theorem strV_inv {x : VK} {P : Prop} (h : strV x P) : P := by
  run_tac beginC
  cases x with
  | str s => exact h
  | _ => exact False.elim h
  run_tac endC
theorem absV_inv {x : VK} {σ : Store} {K : KV} (h : absV x σ K) : ∃ i, x = .int i ∧ K (vI (i.natAbs : Nat)) σ := by
  run_tac beginC
  cases x with
  | int i => exact ⟨i, rfl, h⟩
  | _ => exact False.elim h
  run_tac endC
theorem range1_inv {x : VK} {σ : Store} {K : KV} (h : range1 x σ K) : ∃ n, x = .int n ∧ -(2 ^ 30) < n ∧ n < 2 ^ 30 ∧ alloc (.rng 0 n) σ K := by
  run_tac beginC
  cases x with
  | int i => exact ⟨i, rfl, h⟩
  | _ => exact False.elim h
  run_tac endC
theorem intT_inv {v : Value} {σ : Store} {K : KV} (h : intT (er v) σ K) : ∃ b, v = .bool b ∧ K (vI (if b then 1 else 0)) σ := by
  run_tac beginC
  cases v with
  | bool b => exact ⟨b, rfl, h⟩
  | _ => exact False.elim h
  run_tac endC

theorem snd_lenA (T : Stat w F G base) {a : Addr} (S : Sit w.params base g os ns σ s) (h : lenA a σ K) :
    wpAny (model prog w) A (call (.builtin "len") [.ref a]) (PostV w.params base g os ns K) E s := by
  run_tac beginC
  unfold lenA at h
  cases hσ : σ a with
  | none => rw [hσ] at h; exact False.elim h
  | some o =>
    rw [hσ] at h
    cases o with
    | list vs =>
      obtain ⟨ob, e, items, n, rfl, hv, hl⟩ := S.rep _ _ hσ
      have hsz := sz_of hv
      refine call_len_list ⟨_, e, rfl, _, rfl⟩ (by rw [hsz]; unfold LIM at hl; (run_tac Mine.Lin.om)) ?_
      exact ⟨σ, S.toks, by rw [show er (Value.int (items.size : Nat) (s.toks + 1)) = vI (items.size : Nat) from rfl, hsz]; exact h⟩
    | rlist vs =>
      obtain ⟨ob, e, hc, ⟨items, n, hd, hv⟩, hl⟩ := S.rep _ _ hσ
      have hsz := sz_of hv
      refine call_len_list ⟨_, e, hc, _, hd⟩ (by rw [hsz]; unfold LIM at hl; (run_tac Mine.Lin.om)) ?_
      exact ⟨σ, S.toks, by rw [show er (Value.int (items.size : Nat) (s.toks + 1)) = vI (items.size : Nat) from rfl, hsz]; exact h⟩
    | tup vs =>
      obtain ⟨ob, e, hc, ⟨items, n, hd, hv⟩, hl⟩ := S.rep _ _ hσ
      have hsz := sz_of hv
      refine PyProof.Rows.len_tuple ⟨_, e, hc, _, hd⟩ (by rw [hsz]; unfold LIM at hl; (run_tac Mine.Lin.om)) ?_
      exact ⟨σ, S.toks, by rw [show er (Value.int (items.size : Nat) (s.toks + 1)) = vI (items.size : Nat) from rfl, hsz]; exact h⟩
    | barr b =>
      obtain ⟨ob, e, rfl, hl⟩ := S.rep _ _ hσ
      refine BA.len e (by unfold LIM at hl; (run_tac Mine.Lin.om)) ?_
      exact ⟨σ, S.toks, h⟩
    | _ => exact False.elim h
  run_tac endC

theorem snd_builtin (T : Stat w F G base) (hh : A.handled = none) {id : String} {vals : List Value} (S : Sit w.params base g os ns σ s) (h : builtinH F id (vals.map er) σ K) :
    wpAny (model prog w) A (call (.builtin id) vals) (PostV w.params base g os ns K) E s := by
  run_tac beginC
  unfold builtinH at h
  split at h
  · obtain ⟨v, hv0, h1⟩ := arg1_inv h
    subst hv0
    clear h
    have h := h1
    clear h1
    generalize hx : vk (er v) = x at h
    cases x with
    | ref a => cases vk_ref hx; exact snd_lenA T S h
    | bytes b =>
      obtain ⟨u, rfl⟩ := vk_bytes hx
      exact len_bytes (by have := h.1; unfold LIM at this; (run_tac Mine.Lin.om)) ⟨σ, S.toks, h.2⟩
    | _ => exact False.elim h
  · obtain ⟨v, hv0, h1⟩ := arg1_inv h
    subst hv0
    clear h
    have h := h1
    clear h1
    replace h := absV_inv h
    obtain ⟨i, hx, h⟩ := h
    obtain ⟨u, rfl⟩ := vk_int hx
    refine call_abs_int fun u' tk => ⟨σ, S.toks, ?_⟩
    show K (vI (if i < 0 then -i else i)) σ
    have : (if i < 0 then -i else i) = ((i.natAbs : Nat) : Int) := by split <;> (run_tac Mine.Lin.om)
    rw [this]; exact h
  · obtain ⟨v, v', hv0, h1⟩ := arg2_inv h
    subst hv0
    clear h
    have h := h1
    clear h1
    replace h := intsV_inv h
    obtain ⟨i, j, hv, hv', h⟩ := h
    obtain ⟨u, rfl⟩ := vk_int hv
    obtain ⟨u', rfl⟩ := vk_int hv'
    refine min_two_ints hh fun h' tk hk => ⟨σ, S.keeps (s' := { s with heap := h', toks := tk }) hk rfl rfl, ?_⟩
    by_cases c : j < i
    · rw [if_pos c, show er (Value.int j u') = vI j from rfl]; rw [show min i j = j by (run_tac Mine.Lin.om)] at h; exact h
    · rw [if_neg c, show er (Value.int i u) = vI i from rfl]; rw [show min i j = i by (run_tac Mine.Lin.om)] at h; exact h
  · obtain ⟨v, v', hv0, h1⟩ := arg2_inv h
    subst hv0
    clear h
    have h := h1
    clear h1
    replace h := intsV_inv h
    obtain ⟨i, j, hv, hv', h⟩ := h
    obtain ⟨u, rfl⟩ := vk_int hv
    obtain ⟨u', rfl⟩ := vk_int hv'
    refine max_two_ints hh fun h' tk hk => ⟨σ, S.keeps (s' := { s with heap := h', toks := tk }) hk rfl rfl, ?_⟩
    by_cases c : j > i
    · rw [if_pos c, show er (Value.int j u') = vI j from rfl]; rw [show max i j = j by (run_tac Mine.Lin.om)] at h; exact h
    · rw [if_neg c, show er (Value.int i u) = vI i from rfl]; rw [show max i j = i by (run_tac Mine.Lin.om)] at h; exact h
  · obtain ⟨v, v', hv0, h1⟩ := arg2_inv h
    subst hv0
    clear h
    have h := h1
    clear h1
    replace h := refV_inv h
    obtain ⟨a, hv, h⟩ := h
    obtain rfl := vk_ref hv
    obtain ⟨vs, hσ, hl, h⟩ := h
    exact snd_append S hσ hl fun s' S' => ⟨_, S', h⟩
  · obtain ⟨v, v', hv0, h1⟩ := arg2_inv h
    subst hv0
    clear h
    have h := h1
    clear h1
    replace h := refV_inv h
    obtain ⟨a, hv, h⟩ := h
    obtain rfl := vk_ref hv
    replace h := strV_inv h
    obtain ⟨C, dx, n, hσ, hx, h⟩ := h
    exact verr_init T S hσ hx fun s' S' => ⟨_, S', h⟩
  · exact False.elim h
  run_tac endC

theorem snd_bytesA (T : Stat w F G base) (hh : A.handled = none) {a : Addr} (S : Sit w.params base g os ns σ s) (h : bytesA a σ K) :
    wpAny (model prog w) A (call (.type "bytes") [.ref a]) (PostV w.params base g os ns K) E s := by
  run_tac beginC
  unfold bytesA at h
  cases hσ : σ a with
  | none => rw [hσ] at h; exact False.elim h
  | some o =>
    rw [hσ] at h
    cases o with
    | list vs =>
      obtain ⟨ob, e, items, n, rfl, hv, hl⟩ := S.rep _ _ hσ
      obtain ⟨ns', h1, h2, h⟩ := h
      rw [← hv] at h1
      have hi := intsOf_is h1
      refine call_bytes_ints (vs := items.toList) (ns := ns') ⟨_, e, rfl, n, by simp⟩ hi h2 (by rw [← hv] at hl; simp at hl ⊢; rw [sizeLine_eq]; unfold LIM at hl; (run_tac Mine.Lin.om)) hh fun h' t k hk => ?_
      exact ⟨σ, S.keeps (s' := { s with heap := h', toks := k }) hk rfl rfl, h⟩
    | barr b =>
      obtain ⟨ob, e, rfl, hl⟩ := S.rep _ _ hσ
      refine BA.bytes_of e (by rw [sizeLine_eq]; unfold LIM at hl; (run_tac Mine.Lin.om)) fun t k => ⟨σ, S.toks, h⟩
    | _ => exact False.elim h
  run_tac endC

theorem snd_type (T : Stat w F G base) (hh : A.handled = none) {id : String} {vals : List Value} (S : Sit w.params base g os ns σ s) (h : typeH id (vals.map er) σ K) :
    wpAny (model prog w) A (call (.type id) vals) (PostV w.params base g os ns K) E s := by
  run_tac beginC
  unfold typeH at h
  split at h
  · obtain ⟨v, hv0, h1⟩ := arg1_inv h
    subst hv0
    clear h
    have h := h1
    clear h1
    replace h := intT_inv h
    obtain ⟨b, hb, h⟩ := h
    subst hb
    exact call_int_bool ⟨σ, S.toks, h⟩
  · cases vals with
    | nil => exact False.elim h
    | cons v vals =>
      cases vals with
      | nil =>
        replace h := range1_inv h
        obtain ⟨n, hx, h1, h2, h⟩ := h
        obtain ⟨u, rfl⟩ := vk_int hx
        refine call_range_1 ⟨_, S.push (o := .rng 0 n) rfl ⟨⟨_, _, _, rfl⟩, by decide, by decide, by (run_tac Mine.Lin.om), by (run_tac Mine.Lin.om)⟩ rfl, h _ (S.fresh (Nat.le_refl _))⟩
      | cons v' vals =>
        cases vals with
        | cons => exact False.elim h
        | nil =>
          replace h := intsV_inv h
          obtain ⟨m, n, hv, hv', h1, h2, h3, h4, h⟩ := h
          obtain ⟨u, rfl⟩ := vk_int hv
          obtain ⟨u', rfl⟩ := vk_int hv'
          refine call_range_2 ⟨_, S.push (o := .rng m n) rfl ⟨⟨_, _, _, rfl⟩, by (run_tac Mine.Lin.om), by (run_tac Mine.Lin.om), by (run_tac Mine.Lin.om), by (run_tac Mine.Lin.om)⟩ rfl, h _ (S.fresh (Nat.le_refl _))⟩
  · obtain ⟨v, hv0, h1⟩ := arg1_inv h
    subst hv0
    clear h
    have h := h1
    clear h1
    generalize hx : vk (er v) = x at h
    cases x with
    | ref a => cases vk_ref hx; exact snd_bytesA T hh S h
    | bytes b =>
      obtain ⟨u, rfl⟩ := vk_bytes hx
      exact BA.bytes_bytes_of ⟨σ, S, h⟩
    | _ => exact False.elim h
  · obtain ⟨v, hv0, h1⟩ := arg1_inv h
    subst hv0
    clear h
    have h := h1
    clear h1
    replace h := refV_inv h
    obtain ⟨a, hv, h⟩ := h
    obtain rfl := vk_ref hv
    obtain ⟨vs, hσ, h⟩ := h
    obtain ⟨ob, e, items, n, rfl, hv, hl⟩ := S.rep _ _ hσ
    have hsz := sz_of hv
    refine call_tuple_list ⟨_, e, rfl, n, rfl⟩ (fun h' hk => ?_) (by rw [hsz, sizeLine_eq]; unfold LIM at hl; (run_tac Mine.Lin.om))
    have S1 : Sit w.params base g os ns σ { s with heap := h' } := S.keeps (s' := { s with heap := h' }) hk rfl rfl
    exact ⟨_, S1.push (o := .tup vs) rfl ⟨rfl, ⟨_, _, rfl, hv⟩, hl⟩ rfl (n := s.toks), h _ (S1.fresh (Nat.le_refl _))⟩
  · exact False.elim h
  run_tac endC
end
end Mine
end

section
open PySem PySem.W PySem.Calls PyProof.Rows PySem.SeqAt Builtin
set_option maxRecDepth 100000
set_option maxHeartbeats 4000000
namespace Mine

section
variable {m : Bool} {prog : Program} {w : World} {F : Frag} {G : Str → Option Value} {g : Array GenState} {os : OsState} {d : Nat} {cf cfI : CallF}

theorem callOk_step : CallOk F (callStep F G cf) := by
  run_tac beginC
  intro f vs σ K X h
  cases f with
  | builtin _ => trivial
  | type _ => trivial
  | ref a =>
    unfold callStep at h
    dsimp only at h
    generalize q : F.lookup a = y at h
    (run_tac invT `h)
    · generalize q2 : σ a = y at h
      (run_tac invT `h)
      rename_i fd
      exact .inr ⟨fd, q2⟩
    all_goals first
      | exact .inl h.1
      | (refine .inl ?_
         unfold keepIn
         dsimp only
         rw [q])
  | _ => cases h
  run_tac endC
theorem callOk_D : ∀ d, CallOk F (callD F G d)
  | 0 => fun _ _ _ _ _ h => h.elim
  | _ + 1 => callOk_step

theorem SndC.up (C : SndC false prog w F G g os d cf) : SndC m prog w F G g os d cf := fun base T A ns σ f vs K X s l h1 h2 h3 h4 h5 S h => wpM.up (C base T A ns σ f vs K X s l h1 h2 h3 h4 h5 S h)

theorem snd_step (C : SndC false prog w F G g os d cf) (CO : CallOk F cf) : SndC false prog w F G g os (d + 1) (callStep F G cf) := by
  run_tac beginC
  intro base T A ns σ f vs K X s l hh hfr hin hdp hun S h
  unfold callStep at h
  generalize q : er f = y at h
  (run_tac invT `h)
  · obtain rfl := er_type q
    exact .of (snd_type T hh S h)
  · obtain rfl := er_builtin q
    exact .of (snd_builtin T hh S h)
  · rename_i a
    obtain rfl := er_ref q
    generalize hl : F.lookup a = y at h
    (run_tac invT `h)
    · generalize hl2 : σ a = y at h
      (run_tac invT `h)
      exact snd_lam (snd_ev C CO 40) T hh hfr hin (by (run_tac Mine.Lin.om)) (by (run_tac Mine.Lin.om)) S hl2 h
    · exact snd_body (snd_ev C CO 40) T hh hfr hin (by (run_tac Mine.Lin.om)) (by (run_tac Mine.Lin.om)) S hl h
    · obtain ⟨_, h⟩ := h
      split at h
      · exact snd_makeExc C T hh hfr hin (by (run_tac Mine.Lin.om)) (by (run_tac Mine.Lin.om)) S h
      · exact snd_make C T hh hfr hin (by (run_tac Mine.Lin.om)) (by (run_tac Mine.Lin.om)) S h
  run_tac endC
theorem snd_callD : ∀ d, SndC false prog w F G g os d (callD F G d)
  | 0 => fun _ _ _ _ _ _ _ _ _ _ _ _ _ _ _ _ _ h => h.elim
  | d + 1 => snd_step (snd_callD d) (callOk_D d)
end
end Mine
end

section
open PySem PySem.W PySem.Calls PyProof.Rows PySem.SeqAt Builtin
set_option maxRecDepth 100000
set_option maxHeartbeats 4000000
namespace Mine
theorem wpM_if_true {α : Type} {m : Bool} {M : Model} {A : Around} {E : Value → Shared → Prop} {s : Shared} {c : Bool} {a b : Sem α} {Q : α → Shared → Prop} (hc : c = true) (h : wpM m M A a Q E s) : wpM m M A (if c = true then a else b) Q E s := by
  subst hc; exact h
theorem wpM_if_false {α : Type} {m : Bool} {M : Model} {A : Around} {E : Value → Shared → Prop} {s : Shared} {c : Bool} {a b : Sem α} {Q : α → Shared → Prop} (hc : c = false) (h : wpM m M A b Q E s) : wpM m M A (if c = true then a else b) Q E s := by
  subst hc; exact h
theorem codeM_builtin {m : Bool} {prog : Program} {w : World} {A : Around} {R : Result → Shared → Prop} {s : Shared} {id : String} {args : Args} {b : Builtin} (hb : entryFor table id = some b)
    (h : wpM m (model prog w) (A.under (.builtin id args)) (b args)
      (fun fin s' => match fin with | .done f => R (.ok f) s' | .again c' => c'.quiet = true ∧ okB c' = true ∧ codeM m (model prog w) A c' R s') (fun e s' => R (.error e) s') s) :
    codeM m (model prog w) A (.builtin id args) R s := by
  run_tac beginC
  refine codeM_of_tree ?_
  show wpM m _ _ (match entryFor table id with | some b => b args | none => unsupported ((withoutEnding? id "#data").getD id)) _ _ s
  rw [hb]; exact h
  run_tac endC
namespace BA
theorem slot_init : Slot "bytearray" "__init__" "bytearray.__init__" :=
  .of (owner := "bytearray") (n := "__init__") (by rw [typeLookup_type, builtinLookup_eq_fast]; kernel_rfl) (by decide +kernel) (by decide +kernel) (by decide +kernel)
    (by first | exact .inl (by decide +kernel) | exact .inr (by decide +kernel)) (by rw [isSubtype_type]; kernel_rfl)
theorem entry_append : entryFor table "bytearray.append" = some Builtin.«bytearray.append» := by first | exact entryFor_of_tree (by kernel_rfl) | exact entryFor_of_fast (by kernel_rfl)
theorem entry_extend : entryFor table "bytearray.extend" = some Builtin.«bytearray.extend» := by first | exact entryFor_of_tree (by kernel_rfl) | exact entryFor_of_fast (by kernel_rfl)
theorem entry_init : entryFor table "bytearray.__init__" = some Builtin.«bytearray.__init__» := by first | exact entryFor_of_tree (by kernel_rfl) | exact entryFor_of_fast (by kernel_rfl)
theorem entry_new : entryFor table "bytearray.__new__" = some Builtin.«list.__new__» := entryFor_alias (id' := "list.__new__") (by rw [fastTable_eq_tree]; kernel_rfl) (by first | rfl | decide +kernel) (by decide +kernel) (by rw [fastTable_eq_tree]; kernel_rfl)
theorem args_append (a b : Value) : argsOk "bytearray.append" ⟨[a, b], []⟩ := by unfold argsOk; kernel_rfl
theorem args_extend (a b : Value) : argsOk "bytearray.extend" ⟨[a, b], []⟩ := by unfold argsOk; kernel_rfl
theorem args_init (a : Value) : argsOk "bytearray.__init__" ⟨[a], []⟩ := by unfold argsOk; kernel_rfl
theorem mro : mroOf (.type "bytearray") = pure [.type "bytearray", .type "object"] := by rw [mroOf_type]; kernel_rfl
theorem lookup_new : typeLookup (.type "bytearray") "__new__" = pure (some (.builtin "bytearray.__new__")) := by rw [typeLookup_type, builtinLookup_eq_fast]; kernel_rfl
theorem called : TypeCalled "bytearray" "bytearray.__new__" "bytearray.__init__" :=
  ⟨by decide +kernel, by decide +kernel, ⟨_, _, mro⟩, madeBy_type mro lookup_new (by decide +kernel), by decide +kernel, by rw [isSubtype_type]; kernel_rfl, slot_init⟩
theorem typeCall : checkTypeCall "bytearray" ⟨[], []⟩ = pure () := by kernel_rfl
theorem newCall : checkBuiltinCall "bytearray.__new__" ⟨[.type "bytearray"], []⟩ = pure () := by kernel_rfl
theorem bindNone : Builtin.Bytes.bindOptional "bytearray.__init__" "bytearray" ["source", "encoding", "errors"] [] [] = pure [none, none, none] := by kernel_rfl

section
variable {prog : Program} {w : World} {A : Around} {s : Shared} {a : Addr} {b : Array UInt8}

theorem resizeM {M : Model} {E : Value → Shared → Prop} {Q : Unit → Shared → Prop} (ho : s.heap.get? a = some (obj b)) (h : Q () s) : wpM true M A (Bytes.checkResize (.ref a)) Q E s := by
  run_tac beginC
  unfold Bytes.checkResize
  refine wpM_bind (wpM_bind (wpM_exported ?_))
  show wpM true M A (Bytes.exportsOf (.ref a) >>= fun n => pure (decide (n > 0))) _ _ _
  refine .of ?_
  unfold Bytes.exportsOf
  refine wpAny_bind (wpAny_bind (wpAny_load ho (wpAny_pure (wpAny_pure ?_))))
  exact wpM_pure h
  run_tac endC

theorem writeM {M : Model} {E : Value → Shared → Prop} {Q : Unit → Shared → Prop} {f : Array UInt8 → Array UInt8} (ho : s.heap.get? a = some (obj b)) (hz : (f b).size ≤ sizeLine)
    (h : ∀ h', Heap.ExtBut a s.heap h' → h'.get? a = some (obj (f b)) → Q () { s with heap := h' }) : wpAny M A (Bytes.write (.ref a) f) Q E s := by
  run_tac beginC
  show wpAny _ _ (updateBytearray a f) _ _ _
  unfold updateBytearray
  refine wpAny_bind (wpAny_load ho ?_)
  show wpAny _ _ (update a (Obj.mapBytearray f) >>= fun _ => lookBehind a) _ _ _
  refine wpAny_bind (wpAny_update ho ?_)
  have h₂ : (s.heap.update a (Obj.mapBytearray f)).get? a = some (obj (f b)) := Heap.get?_update_self (Obj.mapBytearray f) ho rfl
  refine wpAny_lookBehind h₂ ?_ (h _ (Heap.SameBut.update ..).extBut h₂)
  show (if (f b).size > sizeLine then some "bytearray:memory" else none) = none
  rw [if_neg (by (run_tac Mine.Lin.om))]
  run_tac endC

theorem appendM {Q : Value → Shared → Prop} {E : Value → Shared → Prop} {i : Int} {t : Tok} (ho : s.heap.get? a = some (obj b)) (h0 : 0 ≤ i) (h1 : i < 256) (hz : b.size < sizeLine)
    (h : ∀ h', Heap.ExtBut a s.heap h' → h'.get? a = some (obj (b.push i.toNat.toUInt8)) → Q .none { s with heap := h' }) : wpM true (model prog w) A (call (.builtin "bytearray.append") [.ref a, .int i t]) Q E s := by
  run_tac beginC
  refine wpM_call (codeM_call_builtin_at (Code.quiet_builtin _ (by decide +kernel)) (by decide +kernel) entry_append (.of (slot_append.check _ _ _ _ _ _ _ _ (typeIs ho) (args_append _ _) ?_)))
  unfold Builtin.«bytearray.append»
  refine wpM_bind (wpM_pure ?_)
  refine wpM_leaf (t := Bytes.byteValue (.int i t)) (wpAny_bind (wpAny_of_eq (rfl : asIndex (.int i t) = pure i) ?_))
  refine PySem.bm_if_false (by simp only [Bool.or_eq_false_iff, decide_eq_false_iff_not]; (run_tac Mine.Lin.om)) ?_
  refine wpAny_pure ?_
  refine wpM_bind (resizeM ho ?_)
  refine wpM_leaf (writeM ho (by simp; (run_tac Mine.Lin.om)) fun h' hs he => ?_)
  exact wpM_pure (h h' hs he)
  run_tac endC

theorem look_buffer_b : typeLookup (.type "bytes") "__buffer__" = pure (some (.builtin "bytes.__buffer__")) := by rw [typeLookup_type, builtinLookup_eq_fast]; kernel_rfl
theorem look_release_b : typeLookup (.type "bytes") "__release_buffer__" = pure none := by rw [typeLookup_type, builtinLookup_eq_fast]; kernel_rfl
theorem own_buffer_b {M : Model} {c : Array UInt8} {t : Tok} {E : Value → Shared → Prop} {Q : Bool → Shared → Prop} (h : Q true s) : wpAny M A (Bytes.slotIsOwn (.bytes c t) "__buffer__") Q E s := by
  run_tac beginC
  unfold Bytes.slotIsOwn
  refine wpAny_bind (wpAny_specialOf (typeIs_bytes s c t) look_buffer_b ?_)
  dsimp only
  have key : ∀ x : String, x = "bytes" → wpAny M A (isInstance (.bytes c t) (.type x)) Q E s := fun x hx => by rw [hx]; exact wpAny_isInstance (typeIs_bytes s c t) PySem.F.bm_sub h
  refine wpAny_ite ?_
  rw [if_neg (by decide +kernel)]
  exact key _ (by decide +kernel)
  run_tac endC
theorem own_release_b {M : Model} {c : Array UInt8} {t : Tok} {E : Value → Shared → Prop} {Q : Bool → Shared → Prop} (h : Q false s) : wpAny M A (Bytes.ownRelease (.bytes c t)) Q E s := by
  run_tac beginC
  unfold Bytes.ownRelease Bytes.slotIsOwn
  refine wpAny_bind (wpAny_bind (wpAny_specialOf (typeIs_bytes s c t) look_release_b ?_))
  exact wpAny_pure (wpAny_pure h)
  run_tac endC
theorem buffer_b {M : Model} {c : Array UInt8} {t : Tok} {E : Value → Shared → Prop} {id : String} {full : Bool} {Q : Option (Array UInt8) → Shared → Prop} (h : Q (some c) s) : wpAny M A (Bytes.buffer? id (.bytes c t) full) Q E s := by
  run_tac beginC
  unfold Bytes.buffer?
  refine wpAny_bind (wpAny_specialOf (typeIs_bytes s c t) look_buffer_b ?_)
  dsimp only
  refine wpAny_bind (own_buffer_b ?_)
  refine wpAny_ite ?_
  rw [if_neg (by decide)]
  refine wpAny_bind (wpAny_specialOf (typeIs_bytes s c t) look_buffer_b ?_)
  refine wpAny_bind (own_release_b ?_)
  refine wpAny_ite ?_
  rw [if_neg (by decide)]
  exact wpAny_bind (wpAny_pure (wpAny_pure h))
  run_tac endC
theorem take_b {M : Model} {c : Array UInt8} {t : Tok} {E : Value → Shared → Prop} {id : String} {fl : Int} {Q : Option (Array UInt8 × Option Value) → Shared → Prop} (h : Q (some (c, none)) s) : wpAny M A (Bytes.takeBufferQuiet? id (.bytes c t) fl) Q E s := by
  run_tac beginC
  unfold Bytes.takeBufferQuiet?
  refine wpAny_bind (wpAny_attempt ?_)
  unfold Bytes.takeBuffer?
  refine wpAny_bind (wpAny_specialOf (typeIs_bytes s c t) look_buffer_b ?_)
  dsimp only
  refine wpAny_bind (own_buffer_b ?_)
  refine wpAny_ite ?_
  rw [if_neg (by decide)]
  refine wpAny_bind (wpAny_specialOf (typeIs_bytes s c t) look_buffer_b ?_)
  refine wpAny_bind (buffer_b ?_)
  exact wpAny_pure (wpAny_pure h)
  run_tac endC

theorem extendM {Q : Value → Shared → Prop} {E : Value → Shared → Prop} {c : Array UInt8} {t : Tok} (ho : s.heap.get? a = some (obj b)) (hz : b.size + c.size ≤ sizeLine)
    (h : ∀ h', Heap.ExtBut a s.heap h' → h'.get? a = some (obj (b ++ c)) → Q .none { s with heap := h' }) : wpM true (model prog w) A (call (.builtin "bytearray.extend") [.ref a, .bytes c t]) Q E s := by
  run_tac beginC
  refine wpM_call (codeM_call_builtin_at (Code.quiet_builtin _ (by decide +kernel)) (by decide +kernel) entry_extend (.of (slot_extend.check _ _ _ _ _ _ _ _ (typeIs ho) (args_extend _ _) ?_)))
  unfold Builtin.«bytearray.extend»
  refine wpM_bind (wpM_pure ?_)
  refine wpM_leaf (wpAny_specialOf (typeIs_bytes s c t) look_buffer_b ?_)
  refine wpM_if_true rfl ?_
  refine wpM_bind (wpM_rule ?_)
  refine wpM_leaf (payload ho ?_)
  refine wpM_leaf (take_b ?_)
  dsimp only
  refine wpM_if_true rfl ?_
  have fin : wpM true (model prog w) (A.under (Code.builtin "bytearray.extend" { pos := [Value.ref a, Value.bytes c t] })) (Bytes.write (.ref a) (· ++ c) >>= fun _ => ret .none) (fun fin s' => match fin with
      | Fin.done f => (match (Except.ok f : Result) with
        | Except.ok (Flow.ret v) => Q v s'
        | Except.ok a => False
        | Except.error e => E e s')
      | Fin.again c' => c'.quiet = true ∧ okB c' = true ∧ codeM true (model prog w) A c' (fun r s' => match r with
              | Except.ok (Flow.ret v) => Q v s'
              | Except.ok a => False
              | Except.error e => E e s') s') (fun e s' => match (Except.error e : Result) with
      | Except.ok (Flow.ret v) => Q v s'
      | Except.ok a => False
      | Except.error e => E e s') s := wpM_leaf (writeM ho (by simp; (run_tac Mine.Lin.om)) fun h' hs he => wpM_pure (h h' hs he))
  show wpM true _ _ (if (!c.isEmpty) = true then Bytes.checkResize (.ref a) >>= fun _ => Bytes.write (.ref a) (· ++ c) >>= fun _ => ret .none else Bytes.write (.ref a) (· ++ c) >>= fun _ => ret .none) _ _ _
  by_cases q : (!c.isEmpty) = true
  · rw [if_pos q]
    exact wpM_bind (resizeM ho fin)
  · rw [if_neg q]
    exact fin
  run_tac endC

theorem new_ba {E : Value → Shared → Prop} {Q : Value → Shared → Prop} (h : Q (.ref s.heap.objs.size) { s with heap := s.heap.push (obj #[]) }) :
    codeAny (model prog w) A (.call (.builtin "bytearray.__new__") ⟨[.type "bytearray"], []⟩) (wants Q E) s := by
  run_tac beginC
  refine codeAny_of_tree ?_
  show wpAny _ A.in1 (do checkBuiltinCall "bytearray.__new__" ⟨[.type "bytearray"], []⟩; again (.builtin "bytearray.__new__" ⟨[.type "bytearray"], []⟩)) _ _ s
  refine wpAny_bind (wpAny_of_eq newCall (wpAny_pure ⟨Code.quiet_builtin _ (by decide +kernel), codeAny_builtinAt entry_new ?_⟩))
  unfold Builtin.«list.__new__»
  refine PySem.wpAt_bind (PySem.wpAt_stack fun p below => PySem.wpAt_of_wpAny ?_)
  dsimp only
  rw [show "bytearray.__new__".splitOn ".__new__" = ["bytearray", ""] by simp +decide [String.splitOn, String.splitOnAux]]
  dsimp only [List.headD_cons]
  refine wpAny_bind (wpAny_of_eq (a := true) rfl ?_)
  refine PySem.bm_if_false rfl ?_
  refine wpAny_bind (wpAny_of_eq sub ?_)
  refine PySem.bm_if_false rfl ?_
  refine wpAny_bind (wpAny_pure ?_)
  refine PySem.bm_if_true (by decide +kernel) ?_
  refine wpAny_bind (wpAny_newObj_type ?_ (Nat.zero_le _))
  exact wpAny_pure h
  run_tac endC

theorem makeM {E : Value → Shared → Prop} {Q : Value → Shared → Prop} (h : ∀ h', (∀ b o, s.heap.get? b = some o → h'.get? b = some o) → h'.get? s.heap.objs.size = some (obj #[]) → Q (.ref s.heap.objs.size) { s with heap := h' }) :
    wpM true (model prog w) A (call (.type "bytearray") []) Q E s := by
  run_tac beginC
  refine wpM_call (codeM_of_tree ?_)
  show wpM true _ _ (callAny (.type "bytearray") _) _ _ _
  refine wpM_pure ⟨Code.quiet_builtin _ (by decide +kernel), by decide +kernel, codeM_builtin PySem.F.entry_type_call ?_⟩
  unfold Builtin.«type.__call__»
  dsimp only [List.cons_append]
  refine wpM_if_false called.notType ?_
  refine wpM_if_false called.canCreate ?_
  refine wpM_leaf (wpAny_of_eq typeCall ?_)
  rw [mro]
  refine wpM_bind (wpM_pure ?_)
  refine wpM_if_false rfl ?_
  refine wpM_leaf (wpAny_of_eq called.made ?_)
  dsimp only
  refine wpM_bind (wpM_pure ?_)
  refine wpM_leaf (wpAny_holding (wpAny_call (codeAny_mono (new_ba (E := fun _ _ => False) (Q := fun v s' => v = .ref s.heap.objs.size ∧ s' = { s with heap := s.heap.push (obj #[]) }) ⟨rfl, rfl⟩) fun r s' q => ?_)))
  rcases r with e | (v | _ | _ | _) <;> first | exact q.elim | skip
  obtain ⟨rfl, rfl⟩ := q
  dsimp only
  have ho : (s.heap.push (obj #[])).get? s.heap.objs.size = some (obj #[]) := Heap.get?_push_size _ rfl
  refine wpM_leaf (wpAny_isInstance (T := "bytearray") ⟨_, ho, rfl⟩ sub ?_)
  refine wpM_if_false rfl ?_
  refine wpM_bind (wpM_holding ?_)
  unfold callSpecial?
  refine wpM_leaf (wpAny_specialOf (T := "bytearray") ⟨_, ho, rfl⟩ slot_init.lookup ?_)
  dsimp only
  refine wpM_holding (wpM_leaf (wpAny_of_eq (slot_init.bind _) ?_))
  refine wpM_bind (wpM_call (codeM_call_builtin_at (Code.quiet_builtin _ (by decide +kernel)) (by decide +kernel) entry_init (.of (slot_init.check _ _ _ _ _ _ _ _ ⟨_, ho, rfl⟩ (args_init _) ?_))))
  unfold Builtin.«bytearray.__init__»
  dsimp only [List.cons_append, List.append_nil]
  refine wpM_leaf (own_release ho ?_)
  refine wpM_if_false rfl ?_
  refine wpM_leaf (wpAny_of_eq bindNone ?_)
  dsimp only
  refine wpM_bind (wpM_pure (wpM_bind (wpM_pure ?_)))
  refine wpM_bind (wpM_bind (wpM_exported ?_))
  show wpM true _ _ ((do return (← Bytes.exportsOf (.ref s.heap.objs.size)) > 0) : Sem Bool) _ _ _
  refine .of (wpAny_bind ?_)
  unfold Bytes.exportsOf
  refine wpAny_bind (wpAny_load ho (wpAny_pure (wpAny_pure ?_)))
  refine wpM_if_false rfl ?_
  refine wpM_leaf (writeM (f := fun _ => #[]) ho (Nat.zero_le _) fun h' hs he => ?_)
  have fin := h h' (fun b o e => hs b o (Nat.ne_of_lt (Heap.lt_size e)) (Heap.get?_push_of_some _ e)) he
  show wpM true _ _ (pure () >>= fun _ => ret .none) _ _ _
  exact wpM_bind (wpM_pure (wpM_pure (wpM_pure (wpM_pure fin))))
  run_tac endC
end
end BA

section
variable {prog : Program} {w : World} {F : Frag} {G : Str → Option Value} {g : Array GenState} {os : OsState} {d : Nat} {cf cfI : CallF} {own : List Addr}

theorem callOk_stepI : CallOk F (callStepI F G own cf cfI) := by
  run_tac beginC
  intro f vs σ K X h
  cases f with
  | builtin _ => trivial
  | type _ => trivial
  | ref a =>
    unfold callStepI at h
    dsimp only at h
    split at h
    · rename_i q _
      refine .inl ?_
      unfold keepIn
      dsimp only
      rw [q]
    · exact .inl h.1
    · split at h
      · rename_i fd q; exact .inr ⟨fd, q⟩
      · cases h
    · exact callOk_step (G := G) (cf := cf) _ _ _ _ _ h
  | _ => cases h
  run_tac endC
theorem callOk_I : ∀ d, CallOk F (callI F G own d)
  | 0 => fun _ _ _ _ _ h => h.elim
  | _ + 1 => callOk_stepI

theorem snd_stepI (C : SndC false prog w F G g os d cf) (CO : CallOk F cf) (CI : SndC true prog w F G g os d cfI) (COI : CallOk F cfI) : SndC true prog w F G g os (d + 1) (callStepI F G own cf cfI) := by
  run_tac beginC
  intro base T A ns σ f vs K X s l hh hfr hin hdp hun S h
  have fall : ∀ {f : Value}, callStep F G cf (er f) (vs.map er) σ K X → wpM true (model prog w) A (call f vs) (PostV w.params base g os ns K) (PostX w.params base g os none ns X) s :=
    fun h => (snd_step C CO).up base T A ns σ _ vs K X s l hh hfr hin hdp hun S h
  have HI := snd_evI C CO CI COI 40
  unfold callStepI at h
  split at h
  · rename_i q
    obtain rfl := er_builtin q
    unfold bappH at h
    split at h
    · rename_i a i t q
      obtain ⟨v1, v2, rfl, hv, hv'⟩ := er2 q
      obtain rfl := er_ref hv
      obtain ⟨u, rfl⟩ := er_int hv'
      obtain ⟨b, hσ, h0, h1, hl, h⟩ := h
      obtain ⟨ob, e, rfl, hz⟩ := S.rep _ _ hσ
      refine BA.appendM e h0 h1 (by rw [sizeLine_eq]; unfold LIM at hl; (run_tac Mine.Lin.om)) fun h' hs he => ⟨_, S.turn (s' := { s with heap := h' }) hσ rfl rfl hs he (o := .barr (b.push i.toNat.toUInt8)) ⟨rfl, by simp; (run_tac Mine.Lin.om)⟩ rfl rfl rfl, h⟩
    · cases h
  · rename_i q
    obtain rfl := er_builtin q
    unfold bextH at h
    split at h
    · rename_i a c t q
      obtain ⟨v1, v2, rfl, hv, hv'⟩ := er2 q
      obtain rfl := er_ref hv
      obtain ⟨u, rfl⟩ := er_bytes hv'
      obtain ⟨b, hσ, hl, h⟩ := h
      obtain ⟨ob, e, rfl, hz⟩ := S.rep _ _ hσ
      refine BA.extendM e (by rw [sizeLine_eq]; unfold LIM at hl; (run_tac Mine.Lin.om)) fun h' hs he => ⟨_, S.turn (s' := { s with heap := h' }) hσ rfl rfl hs he (o := .barr (b ++ c)) ⟨rfl, by simp; (run_tac Mine.Lin.om)⟩ rfl rfl rfl, h⟩
    · cases h
  · rename_i q
    obtain rfl := er_type q
    obtain ⟨hv, h⟩ := h
    obtain rfl := er0 hv
    exact BA.makeM fun h' hk he => ⟨_, S.new (s' := { s with heap := h' }) (o := .barr #[]) hk (Heap.get?_none_of_le (Nat.le_refl _)) he ⟨rfl, Nat.zero_le _⟩ rfl rfl rfl, h _ (S.fresh (Nat.le_refl _))⟩
  · rename_i a q
    obtain rfl := er_ref q
    split at h
    · rename_i hl _
      exact snd_body HI T hh hfr hin (by (run_tac Mine.Lin.om)) (by (run_tac Mine.Lin.om)) S hl h
    · obtain ⟨_, h⟩ := h
      exact snd_make CI T hh hfr hin (by (run_tac Mine.Lin.om)) (by (run_tac Mine.Lin.om)) S h
    · split at h
      · rename_i hl
        exact snd_lam HI T hh hfr hin (by (run_tac Mine.Lin.om)) (by (run_tac Mine.Lin.om)) S hl h
      · cases h
    · exact fall h
  · exact fall h
  run_tac endC
theorem snd_callI : ∀ d, SndC true prog w F G g os d (callI F G own d)
  | 0 => fun _ _ _ _ _ _ _ _ _ _ _ _ _ _ _ _ _ h => h.elim
  | d + 1 => snd_stepI (snd_callD d) (callOk_D d) (snd_callI d) (callOk_I d)
end
end Mine
end

section
open PySem PySem.W PyProof.Rows
set_option maxRecDepth 100000
namespace Mine

noncomputable abbrev S (s : String) : PySem.Str := PySem.Str.ofString s
noncomputable abbrev pw : Program := PySem.Challenge.pw_nz0433_01
noncomputable def defn : Stmt → Arguments × List Stmt × Scope
  | .FunctionDef _ a b _ _ _ s _ _ _ => (a, b, s)
  | _ => default
noncomputable def at1 (i : Nat) : Arguments × List Stmt × Scope := match pw.main.body[i]? with
  | some s => defn s
  | none => default
noncomputable def at2 (i j : Nat) : Arguments × List Stmt × Scope := match pw.main.body[i]? with
  | some (.ClassDef _ _ _ b _ _ _ _ _ _ _) => (match b[j]? with
    | some s => defn s
    | none => default)
  | _ => default
noncomputable def ent (P : Params) (x : String) (t : Tok) (v : Value) : DictEntry := ⟨PyData.keyHash P (S x), .str (S x) t, v⟩

noncomputable abbrev cFrameHeader : Addr := 1386
noncomputable abbrev fFrameHeader_init : Addr := 1376
noncomputable abbrev cBlockHead : Addr := 1407
noncomputable abbrev fBlockHead_init : Addr := 1404
noncomputable abbrev cDictionary : Addr := 1530
noncomputable abbrev fDictionary_init : Addr := 1513
noncomputable abbrev cFrameState : Addr := 1493
noncomputable abbrev fFrameState_init : Addr := 1434
noncomputable abbrev fFrameState_beginwith : Addr := 1441
noncomputable abbrev fFrameState_contentcount : Addr := 1448
noncomputable abbrev fFrameState_block : Addr := 1455
noncomputable abbrev fFrameState_play : Addr := 1469
noncomputable abbrev fFrameState_copy : Addr := 1476
noncomputable abbrev fFrameState_close : Addr := 1483
noncomputable abbrev cTables : Addr := 1257
noncomputable abbrev fTables_init : Addr := 1226
noncomputable abbrev cOffsets : Addr := 1357
noncomputable abbrev fOffsets_init : Addr := 1312
noncomputable abbrev fOffsets_row : Addr := 1319
noncomputable abbrev fOffsets_toldby : Addr := 1333
noncomputable abbrev fOffsets_move : Addr := 1340
noncomputable abbrev fOffsets_distance : Addr := 1347
noncomputable abbrev cPressError : Addr := 39
noncomputable abbrev fPressError_init : Addr := 36
noncomputable abbrev cBadBlock : Addr := 64
noncomputable abbrev cBadDistance : Addr := 88
noncomputable abbrev cBadSequence : Addr := 124
noncomputable abbrev cBadSize : Addr := 174
noncomputable abbrev fBadSize_init : Addr := 171
noncomputable abbrev cTooLarge : Addr := 231
noncomputable abbrev fTooLarge_init : Addr := 228
noncomputable abbrev cNeedsDictionary : Addr := 193
noncomputable abbrev fNeedsDictionary_init : Addr := 190
noncomputable abbrev cWrongDictionary : Addr := 212
noncomputable abbrev fWrongDictionary_init : Addr := 209
noncomputable abbrev fpick_dictionary : Addr := 1418
noncomputable abbrev f_law_box : Addr := 1541
noncomputable abbrev f_law_take : Addr := 1548
noncomputable abbrev f_law_word : Addr := 1555
noncomputable abbrev f_law_books : Addr := 1560
noncomputable abbrev f_law_picked : Addr := 1565
noncomputable abbrev f_law_meant : Addr := 1570
noncomputable abbrev f_law_played : Addr := 1577
noncomputable abbrev f_law_rows : Addr := 1582
noncomputable abbrev f_law_block : Addr := 1589
noncomputable abbrev f_law_deed_right : Addr := 1594
noncomputable abbrev flaw : Addr := 1599
noncomputable def fd_PressError___init__ : FuncData := { name := (S "__init__"), qualname := (S "PressError.__init__"), params := (at2 2 0).1, body := .stmts (at2 2 0).2.1, scope := (at2 2 0).2.2, globals := 3, closure := [], defaults := (.ref 29), kwdefaults := .none, doc := .none, pyModule := (.str (S "threepress.errors") 194), annotations := none, code := (.ref 35), closureTuple := .none, builtins := 0 }
noncomputable def fd_BadSize___init__ : FuncData := { name := (S "__init__"), qualname := (S "BadSize.__init__"), params := (at2 12 0).1, body := .stmts (at2 12 0).2.1, scope := (at2 12 0).2.2, globals := 3, closure := [], defaults := .none, kwdefaults := .none, doc := .none, pyModule := (.str (S "threepress.errors") 194), annotations := none, code := (.ref 170), closureTuple := .none, builtins := 0 }
noncomputable def fd_NeedsDictionary___init__ : FuncData := { name := (S "__init__"), qualname := (S "NeedsDictionary.__init__"), params := (at2 13 0).1, body := .stmts (at2 13 0).2.1, scope := (at2 13 0).2.2, globals := 3, closure := [], defaults := .none, kwdefaults := .none, doc := .none, pyModule := (.str (S "threepress.errors") 194), annotations := none, code := (.ref 189), closureTuple := .none, builtins := 0 }
noncomputable def fd_WrongDictionary___init__ : FuncData := { name := (S "__init__"), qualname := (S "WrongDictionary.__init__"), params := (at2 14 0).1, body := .stmts (at2 14 0).2.1, scope := (at2 14 0).2.2, globals := 3, closure := [], defaults := .none, kwdefaults := .none, doc := .none, pyModule := (.str (S "threepress.errors") 194), annotations := none, code := (.ref 208), closureTuple := .none, builtins := 0 }
noncomputable def fd_TooLarge___init__ : FuncData := { name := (S "__init__"), qualname := (S "TooLarge.__init__"), params := (at2 15 0).1, body := .stmts (at2 15 0).2.1, scope := (at2 15 0).2.2, globals := 3, closure := [], defaults := .none, kwdefaults := .none, doc := .none, pyModule := (.str (S "threepress.errors") 194), annotations := none, code := (.ref 227), closureTuple := .none, builtins := 0 }
noncomputable def fd_Tables___init__ : FuncData := { name := (S "__init__"), qualname := (S "Tables.__init__"), params := (at2 103 0).1, body := .stmts (at2 103 0).2.1, scope := (at2 103 0).2.2, globals := 3, closure := [], defaults := (.ref 1219), kwdefaults := .none, doc := .none, pyModule := (.str (S "threepress.zseq") 1469), annotations := none, code := (.ref 1225), closureTuple := .none, builtins := 0 }
noncomputable def fd_Offsets___init__ : FuncData := { name := (S "__init__"), qualname := (S "Offsets.__init__"), params := (at2 110 0).1, body := .stmts (at2 110 0).2.1, scope := (at2 110 0).2.2, globals := 3, closure := [], defaults := (.ref 1305), kwdefaults := .none, doc := .none, pyModule := (.str (S "threepress.zseq") 1469), annotations := none, code := (.ref 1311), closureTuple := .none, builtins := 0 }
noncomputable def fd_Offsets_row : FuncData := { name := (S "row"), qualname := (S "Offsets.row"), params := (at2 110 1).1, body := .stmts (at2 110 1).2.1, scope := (at2 110 1).2.2, globals := 3, closure := [], defaults := .none, kwdefaults := .none, doc := .none, pyModule := (.str (S "threepress.zseq") 1469), annotations := none, code := (.ref 1318), closureTuple := .none, builtins := 0 }
noncomputable def fd_Offsets_told_by : FuncData := { name := (S "told_by"), qualname := (S "Offsets.told_by"), params := (at2 110 3).1, body := .stmts (at2 110 3).2.1, scope := (at2 110 3).2.2, globals := 3, closure := [], defaults := .none, kwdefaults := .none, doc := .none, pyModule := (.str (S "threepress.zseq") 1469), annotations := none, code := (.ref 1332), closureTuple := .none, builtins := 0 }
noncomputable def fd_Offsets_move : FuncData := { name := (S "move"), qualname := (S "Offsets.move"), params := (at2 110 4).1, body := .stmts (at2 110 4).2.1, scope := (at2 110 4).2.2, globals := 3, closure := [], defaults := .none, kwdefaults := .none, doc := .none, pyModule := (.str (S "threepress.zseq") 1469), annotations := none, code := (.ref 1339), closureTuple := .none, builtins := 0 }
noncomputable def fd_Offsets_distance : FuncData := { name := (S "distance"), qualname := (S "Offsets.distance"), params := (at2 110 5).1, body := .stmts (at2 110 5).2.1, scope := (at2 110 5).2.2, globals := 3, closure := [], defaults := .none, kwdefaults := .none, doc := .none, pyModule := (.str (S "threepress.zseq") 1469), annotations := none, code := (.ref 1346), closureTuple := .none, builtins := 0 }
noncomputable def fd_FrameHeader___init__ : FuncData := { name := (S "__init__"), qualname := (S "FrameHeader.__init__"), params := (at2 116 0).1, body := .stmts (at2 116 0).2.1, scope := (at2 116 0).2.2, globals := 3, closure := [], defaults := (.ref 1369), kwdefaults := .none, doc := .none, pyModule := (.str (S "threepress.zframe") 2497), annotations := none, code := (.ref 1375), closureTuple := .none, builtins := 0 }
noncomputable def fd_BlockHead___init__ : FuncData := { name := (S "__init__"), qualname := (S "BlockHead.__init__"), params := (at2 117 0).1, body := .stmts (at2 117 0).2.1, scope := (at2 117 0).2.2, globals := 3, closure := [], defaults := .none, kwdefaults := .none, doc := .none, pyModule := (.str (S "threepress.zframe") 2497), annotations := none, code := (.ref 1403), closureTuple := .none, builtins := 0 }
noncomputable def fd_pick_dictionary : FuncData := { name := (S "pick_dictionary"), qualname := (S "pick_dictionary"), params := (at1 118).1, body := .stmts (at1 118).2.1, scope := (at1 118).2.2, globals := 3, closure := [], defaults := .none, kwdefaults := .none, doc := .none, pyModule := (.str (S "threepress.zframe") 2497), annotations := none, code := (.ref 1417), closureTuple := .none, builtins := 0 }
noncomputable def fd_FrameState___init__ : FuncData := { name := (S "__init__"), qualname := (S "FrameState.__init__"), params := (at2 119 0).1, body := .stmts (at2 119 0).2.1, scope := (at2 119 0).2.2, globals := 3, closure := [], defaults := (.ref 1427), kwdefaults := .none, doc := .none, pyModule := (.str (S "threepress.zframe") 2497), annotations := none, code := (.ref 1433), closureTuple := .none, builtins := 0 }
noncomputable def fd_FrameState_begin_with : FuncData := { name := (S "begin_with"), qualname := (S "FrameState.begin_with"), params := (at2 119 1).1, body := .stmts (at2 119 1).2.1, scope := (at2 119 1).2.2, globals := 3, closure := [], defaults := .none, kwdefaults := .none, doc := .none, pyModule := (.str (S "threepress.zframe") 2497), annotations := none, code := (.ref 1440), closureTuple := .none, builtins := 0 }
noncomputable def fd_FrameState_content_count : FuncData := { name := (S "content_count"), qualname := (S "FrameState.content_count"), params := (at2 119 2).1, body := .stmts (at2 119 2).2.1, scope := (at2 119 2).2.2, globals := 3, closure := [], defaults := .none, kwdefaults := .none, doc := .none, pyModule := (.str (S "threepress.zframe") 2497), annotations := none, code := (.ref 1447), closureTuple := .none, builtins := 0 }
noncomputable def fd_FrameState_block : FuncData := { name := (S "block"), qualname := (S "FrameState.block"), params := (at2 119 3).1, body := .stmts (at2 119 3).2.1, scope := (at2 119 3).2.2, globals := 3, closure := [], defaults := .none, kwdefaults := .none, doc := .none, pyModule := (.str (S "threepress.zframe") 2497), annotations := none, code := (.ref 1454), closureTuple := .none, builtins := 0 }
noncomputable def fd_FrameState_play : FuncData := { name := (S "play"), qualname := (S "FrameState.play"), params := (at2 119 5).1, body := .stmts (at2 119 5).2.1, scope := (at2 119 5).2.2, globals := 3, closure := [], defaults := .none, kwdefaults := .none, doc := .none, pyModule := (.str (S "threepress.zframe") 2497), annotations := none, code := (.ref 1468), closureTuple := .none, builtins := 0 }
noncomputable def fd_FrameState_copy : FuncData := { name := (S "copy"), qualname := (S "FrameState.copy"), params := (at2 119 6).1, body := .stmts (at2 119 6).2.1, scope := (at2 119 6).2.2, globals := 3, closure := [], defaults := .none, kwdefaults := .none, doc := .none, pyModule := (.str (S "threepress.zframe") 2497), annotations := none, code := (.ref 1475), closureTuple := .none, builtins := 0 }
noncomputable def fd_FrameState_close : FuncData := { name := (S "close"), qualname := (S "FrameState.close"), params := (at2 119 7).1, body := .stmts (at2 119 7).2.1, scope := (at2 119 7).2.2, globals := 3, closure := [], defaults := .none, kwdefaults := .none, doc := .none, pyModule := (.str (S "threepress.zframe") 2497), annotations := none, code := (.ref 1482), closureTuple := .none, builtins := 0 }
noncomputable def fd_Dictionary___init__ : FuncData := { name := (S "__init__"), qualname := (S "Dictionary.__init__"), params := (at2 122 0).1, body := .stmts (at2 122 0).2.1, scope := (at2 122 0).2.2, globals := 3, closure := [], defaults := (.ref 1506), kwdefaults := .none, doc := .none, pyModule := (.str (S "threepress.zdict") 2718), annotations := none, code := (.ref 1512), closureTuple := .none, builtins := 0 }
noncomputable def fd__law_box : FuncData := { name := (S "_law_box"), qualname := (S "_law_box"), params := (at1 124).1, body := .stmts (at1 124).2.1, scope := (at1 124).2.2, globals := 3, closure := [], defaults := .none, kwdefaults := .none, doc := .none, pyModule := (.str (S "law_nz0433_01") 2775), annotations := none, code := (.ref 1540), closureTuple := .none, builtins := 0 }
noncomputable def fd__law_take : FuncData := { name := (S "_law_take"), qualname := (S "_law_take"), params := (at1 125).1, body := .stmts (at1 125).2.1, scope := (at1 125).2.2, globals := 3, closure := [], defaults := .none, kwdefaults := .none, doc := .none, pyModule := (.str (S "law_nz0433_01") 2775), annotations := none, code := (.ref 1547), closureTuple := .none, builtins := 0 }
noncomputable def fd__law_word : FuncData := { name := (S "_law_word"), qualname := (S "_law_word"), params := (at1 126).1, body := .stmts (at1 126).2.1, scope := (at1 126).2.2, globals := 3, closure := [], defaults := .none, kwdefaults := .none, doc := .none, pyModule := (.str (S "law_nz0433_01") 2775), annotations := none, code := (.ref 1554), closureTuple := .none, builtins := 0 }
noncomputable def fd__law_books : FuncData := { name := (S "_law_books"), qualname := (S "_law_books"), params := (at1 127).1, body := .stmts (at1 127).2.1, scope := (at1 127).2.2, globals := 3, closure := [], defaults := .none, kwdefaults := .none, doc := .none, pyModule := (.str (S "law_nz0433_01") 2775), annotations := none, code := (.ref 1559), closureTuple := .none, builtins := 0 }
noncomputable def fd__law_picked : FuncData := { name := (S "_law_picked"), qualname := (S "_law_picked"), params := (at1 128).1, body := .stmts (at1 128).2.1, scope := (at1 128).2.2, globals := 3, closure := [], defaults := .none, kwdefaults := .none, doc := .none, pyModule := (.str (S "law_nz0433_01") 2775), annotations := none, code := (.ref 1564), closureTuple := .none, builtins := 0 }
noncomputable def fd__law_meant : FuncData := { name := (S "_law_meant"), qualname := (S "_law_meant"), params := (at1 129).1, body := .stmts (at1 129).2.1, scope := (at1 129).2.2, globals := 3, closure := [], defaults := .none, kwdefaults := .none, doc := .none, pyModule := (.str (S "law_nz0433_01") 2775), annotations := none, code := (.ref 1569), closureTuple := .none, builtins := 0 }
noncomputable def fd__law_played : FuncData := { name := (S "_law_played"), qualname := (S "_law_played"), params := (at1 130).1, body := .stmts (at1 130).2.1, scope := (at1 130).2.2, globals := 3, closure := [], defaults := .none, kwdefaults := .none, doc := .none, pyModule := (.str (S "law_nz0433_01") 2775), annotations := none, code := (.ref 1576), closureTuple := .none, builtins := 0 }
noncomputable def fd__law_rows : FuncData := { name := (S "_law_rows"), qualname := (S "_law_rows"), params := (at1 131).1, body := .stmts (at1 131).2.1, scope := (at1 131).2.2, globals := 3, closure := [], defaults := .none, kwdefaults := .none, doc := .none, pyModule := (.str (S "law_nz0433_01") 2775), annotations := none, code := (.ref 1581), closureTuple := .none, builtins := 0 }
noncomputable def fd__law_block : FuncData := { name := (S "_law_block"), qualname := (S "_law_block"), params := (at1 132).1, body := .stmts (at1 132).2.1, scope := (at1 132).2.2, globals := 3, closure := [], defaults := .none, kwdefaults := .none, doc := .none, pyModule := (.str (S "law_nz0433_01") 2775), annotations := none, code := (.ref 1588), closureTuple := .none, builtins := 0 }
noncomputable def fd__law_deed_right : FuncData := { name := (S "_law_deed_right"), qualname := (S "_law_deed_right"), params := (at1 133).1, body := .stmts (at1 133).2.1, scope := (at1 133).2.2, globals := 3, closure := [], defaults := .none, kwdefaults := .none, doc := .none, pyModule := (.str (S "law_nz0433_01") 2775), annotations := none, code := (.ref 1593), closureTuple := .none, builtins := 0 }
noncomputable def fd_law : FuncData := { name := (S "law"), qualname := (S "law"), params := (at1 134).1, body := .stmts (at1 134).2.1, scope := (at1 134).2.2, globals := 3, closure := [], defaults := .none, kwdefaults := .none, doc := .none, pyModule := (.str (S "law_nz0433_01") 2775), annotations := none, code := (.ref 1598), closureTuple := .none, builtins := 0 }

noncomputable def K0 (P : Params) : Frag := [
  (2, { cls := .none, dict := none, data := .dict [].toArray 0, slots := [].toArray }),
  (3, { cls := (.type "dict"), dict := none, data := .dict [ent P "__name__" 165 (.str (S "law_nz0433_01") 2775), ent P "__doc__" 166 .none, ent P "__package__" 167 .none, ent P "__loader__" 168 (.builtin "__main__.__loader__#op\x61que"), ent P "__spec__" 169 .none, ent P "__annotations__" 170 (.ref 6), ent P "__builtins__" 171 (.ref 4), ent P "__file__" 173 (.str (S "/claim/cut.py") 172), ent P "__cached__" 174 .none, ent P "_wall" 193 (.ref 21), ent P "PressError" 223 (.ref 39), ent P "CutShort" 239 (.ref 52), ent P "BadBlock" 255 (.ref 64), ent P "BadSymbol" 271 (.ref 76), ent P "BadDistance" 287 (.ref 88), ent P "BadHeader" 303 (.ref 100), ent P "BadTable" 319 (.ref 112), ent P "BadSequence" 335 (.ref 124), ent P "BadArgument" 351 (.ref 136), ent P "BadCheck" 380 (.ref 155), ent P "BadSize" 409 (.ref 174), ent P "NeedsDictionary" 434 (.ref 193), ent P "WrongDictionary" 461 (.ref 212), ent P "TooLarge" 490 (.ref 231), ent P "need_count" 499 (.ref 240), ent P "need_value" 507 (.ref 247), ent P "end_of" 517 (.ref 254), ent P "from_little" 527 (.ref 261), ent P "little" 533 (.ref 266), ent P "gathered" 547 (.ref 273), ent P "BackReader" 611 (.ref 318), ent P "Octets" 706 (.ref 396), ent P "MOST_64" 714 (.int (18446744073709551615) 713), ent P "low_first" 725 (.ref 407), ent P "left_turned" 735 (.ref 414), ent P "XxHash64" 821 (.ref 460), ent P "xxh64" 831 (.ref 472), ent P "LEAST_LOG" 835 (.int (5) 834), ent P "MOST_LOG" 837 (.int (20) 836), ent P "places_of" 844 (.ref 479), ent P "high_bit" 851 (.ref 486), ent P "counts_fault" 857 (.ref 491), ent P "spread" 863 (.ref 496), ent P "FseTable" 924 (.ref 532), ent P "RleTable" 981 (.ref 572), ent P "CountBits" 1042 (.ref 614), ent P "read_counts" 1048 (.ref 623), ent P "FseReader" 1108 (.ref 668), ent P "LONGEST" 1112 (.int (11) 1111), ent P "MOST_SYMBOLS" 1114 (.int (256) 1113), ent P "WEIGHT_LOGS" 1117 (.ref 673), ent P "MOST_PACKED" 1119 (.int (127) 1118), ent P "LEAST_FOUR" 1121 (.int (6) 1120), ent P "JUMP" 1123 (.int (6) 1122), ent P "used_symbols" 1129 (.ref 678), ent P "check_code" 1139 (.ref 685), ent P "lengths_of" 1145 (.ref 690), ent P "HuffTable" 1220 (.ref 740), ent P "unpack_fours" 1231 (.ref 751), ent P "unpack_states" 1247 (.ref 758), ent P "read_table" 1257 (.ref 1282), ent P "read_table_zhuff" 1258 (.ref 765), ent P "decode_stream" 1270 (.ref 772), ent P "four_parts" 1278 (.ref 779), ent P "decode_four" 1284 (.ref 784), ent P "RAW_zlits" 1288 (.int (0) 1287), ent P "RLE" 1290 (.int (1) 1289), ent P "COMPRESSED" 1292 (.int (2) 1291), ent P "TREELESS" 1294 (.int (3) 1293), ent P "LEAST_FOR_FOUR" 1296 (.int (6) 1295), ent P "PLAIN_BITS" 1300 (.ref 785), ent P "CODED_BITS" 1305 (.ref 786), ent P "LiteralsHead" 1364 (.ref 825), ent P "plain_form" 1373 (.ref 836), ent P "plain_head" 1384 (.ref 844), ent P "coded_form" 1396 (.ref 851), ent P "coded_head" 1410 (.ref 859), ent P "read_head" 1420 (.ref 866), ent P "read_plain_head" 1431 (.ref 873), ent P "read_coded_head" 1445 (.ref 880), ent P "read_literals" 1455 (.ref 887), ent P "read_coded" 1468 (.ref 894), ent P "PREDEFINED" 1472 (.int (0) 1471), ent P "SINGLE" 1474 (.int (1) 1473), ent P "DESCRIBED" 1476 (.int (2) 1475), ent P "MOST_OFFSET_CODE" 1478 (.int (31) 1477), ent P "MANY_ROWS" 1480 (.int (32512) 1479), ent P "rows_from" 1491 (.ref 901), ent P "literal_extras" 1497 (.ref 908), ent P "match_extras" 1503 (.ref 915), ent P "Rows" 2031 (.ref 1060), ent P "code_in" 2045 (.ref 1071), ent P "value_in" 2057 (.ref 1078), ent P "ll_code" 2064 (.ref 1085), ent P "ll_value" 2072 (.ref 1092), ent P "ml_code" 2079 (.ref 1099), ent P "ml_value" 2087 (.ref 1106), ent P "of_code" 2095 (.ref 1113), ent P "of_value" 2103 (.ref 1120), ent P "Alphabet" 2167 (.ref 1158), ent P "LITERAL_COUNTS" 2183 (.ref 1180), ent P "LITERALS" 2208 (.ref 1182), ent P "OFFSETS" 2241 (.ref 1196), ent P "MATCHES" 2276 (.ref 1209), ent P "KINDS" 2277 (.ref 1211), ent P "Tables" 2343 (.ref 1257), ent P "read_count" 2351 (.ref 1268), ent P "described" 2361 (.ref 1275), ent P "read_table_zseq" 2373 (.ref 1282), ent P "read_rows" 2391 (.ref 1289), ent P "read_sequences" 2405 (.ref 1297), ent P "Offsets" 2496 (.ref 1357), ent P "MOST_BLOCK" 2500 (.int (131072) 2499), ent P "RAW_zframe" 2502 (.int (0) 2501), ent P "RUN" 2504 (.int (1) 2503), ent P "RESERVED" 2506 (.int (3) 2505), ent P "FrameHeader" 2551 (.ref 1386), ent P "BlockHead" 2584 (.ref 1407), ent P "pick_dictionary" 2593 (.ref 1418), ent P "FrameState" 2717 (.ref 1493), ent P "FIRST_OFFSETS" 2723 (.ref 1498), ent P "Dictionary" 2774 (.ref 1530), ent P "_law_box" 2785 (.ref 1541), ent P "_law_take" 2794 (.ref 1548), ent P "_law_word" 2802 (.ref 1555), ent P "_law_books" 2808 (.ref 1560), ent P "_law_picked" 2814 (.ref 1565), ent P "_law_meant" 2820 (.ref 1570), ent P "_law_played" 2839 (.ref 1577), ent P "_law_rows" 2845 (.ref 1582), ent P "_law_block" 2861 (.ref 1589), ent P "_law_deed_right" 2867 (.ref 1594), ent P "law" 2873 (.ref 1599)].toArray 133, slots := [].toArray }),
  (29, { cls := (.type "tuple"), dict := none, data := .seq [(.str (S "") 208)].toArray 0, slots := [].toArray }),
  (35, { cls := (.type "code"), dict := none, data := .fields [(.str (S "__init__") 209), (.str (S "PressError.__init__") 210), (.str (S "/claim/cut.py") 211), (.int (7) 0), (.int (2) 0), (.int (0) 0), (.int (0) 0), (.int (3) 0), (.ref 30), (.bool true), (.int (181) 0), (.ref 31), .none, (.ref 32), (.ref 33), (.ref 34), (.int (214) 0), (.int (7) 0), (.str (S "/claim/cut.py") 215)].toArray, slots := [].toArray }),
  (36, { cls := (.type "function"), dict := none, data := .func fd_PressError___init__, slots := [].toArray }),
  (38, { cls := (.type "dict"), dict := none, data := .dict [ent P "__module__" 203 (.str (S "threepress.errors") 194), ent P "__firstlineno__" 207 (.int (5) 206), ent P "__init__" 216 (.ref 36), ent P "__static_attributes__" 218 (.ref 37), ent P "__weakref__" 220 (.ref 40), ent P "__doc__" 221 .none].toArray 3, slots := [].toArray }),
  (39, { cls := (.type "type"), dict := none, data := .cls { name := (S "PressError"), bases := [(.type "ValueError")], mro := [(.ref 39), (.type "ValueError"), (.type "Exception"), (.type "BaseException"), (.type "object")], ns := 38, qualname := (S "PressError"), hasDict := true, slotNames := [], subclasses := [(.ref 52), (.ref 64), (.ref 76), (.ref 88), (.ref 100), (.ref 112), (.ref 124), (.ref 136), (.ref 155), (.ref 174), (.ref 193), (.ref 212), (.ref 231)], abstract := false, collection := none, hasDel := false }, slots := [(some (.ref 22)), none, (some (.str (S "PressError") 196)), (some (.str (S "PressError") 204)), (some (.builtin "ValueError.__new__")), (some (.bool true))].toArray }),
  (63, { cls := (.type "dict"), dict := none, data := .dict [ent P "__module__" 247 (.str (S "threepress.errors") 194), ent P "__firstlineno__" 251 (.int (12) 250), ent P "__static_attributes__" 252 (.ref 62), ent P "__doc__" 253 .none].toArray 2, slots := [].toArray }),
  (64, { cls := (.type "type"), dict := none, data := .cls { name := (S "BadBlock"), bases := [(.ref 39)], mro := [(.ref 64), (.ref 39), (.type "ValueError"), (.type "Exception"), (.type "BaseException"), (.type "object")], ns := 63, qualname := (S "BadBlock"), hasDict := true, slotNames := [], subclasses := [], abstract := false, collection := none, hasDel := false }, slots := [(some (.ref 55)), none, (some (.str (S "BadBlock") 240)), (some (.str (S "BadBlock") 248)), (some (.builtin "ValueError.__new__")), (some (.bool true))].toArray }),
  (87, { cls := (.type "dict"), dict := none, data := .dict [ent P "__module__" 279 (.str (S "threepress.errors") 194), ent P "__firstlineno__" 283 (.int (16) 282), ent P "__static_attributes__" 284 (.ref 86), ent P "__doc__" 285 .none].toArray 2, slots := [].toArray }),
  (88, { cls := (.type "type"), dict := none, data := .cls { name := (S "BadDistance"), bases := [(.ref 39)], mro := [(.ref 88), (.ref 39), (.type "ValueError"), (.type "Exception"), (.type "BaseException"), (.type "object")], ns := 87, qualname := (S "BadDistance"), hasDict := true, slotNames := [], subclasses := [], abstract := false, collection := none, hasDel := false }, slots := [(some (.ref 79)), none, (some (.str (S "BadDistance") 272)), (some (.str (S "BadDistance") 280)), (some (.builtin "ValueError.__new__")), (some (.bool true))].toArray }),
  (123, { cls := (.type "dict"), dict := none, data := .dict [ent P "__module__" 327 (.str (S "threepress.errors") 194), ent P "__firstlineno__" 331 (.int (22) 330), ent P "__static_attributes__" 332 (.ref 122), ent P "__doc__" 333 .none].toArray 2, slots := [].toArray }),
  (124, { cls := (.type "type"), dict := none, data := .cls { name := (S "BadSequence"), bases := [(.ref 39)], mro := [(.ref 124), (.ref 39), (.type "ValueError"), (.type "Exception"), (.type "BaseException"), (.type "object")], ns := 123, qualname := (S "BadSequence"), hasDict := true, slotNames := [], subclasses := [], abstract := false, collection := none, hasDel := false }, slots := [(some (.ref 115)), none, (some (.str (S "BadSequence") 320)), (some (.str (S "BadSequence") 328)), (some (.builtin "ValueError.__new__")), (some (.bool true))].toArray }),
  (170, { cls := (.type "code"), dict := none, data := .fields [(.str (S "__init__") 393), (.str (S "BadSize.__init__") 394), (.str (S "/claim/cut.py") 395), (.int (35) 0), (.int (4) 0), (.int (0) 0), (.int (0) 0), (.int (3) 0), (.ref 165), (.bool true), (.int (181) 0), (.ref 166), .none, (.ref 167), (.ref 168), (.ref 169), (.int (400) 0), (.int (35) 0), (.str (S "/claim/cut.py") 401)].toArray, slots := [].toArray }),
  (171, { cls := (.type "function"), dict := none, data := .func fd_BadSize___init__, slots := [].toArray }),
  (173, { cls := (.type "dict"), dict := none, data := .dict [ent P "__module__" 388 (.str (S "threepress.errors") 194), ent P "__firstlineno__" 392 (.int (33) 391), ent P "__init__" 402 (.ref 171), ent P "__static_attributes__" 406 (.ref 172), ent P "__doc__" 407 .none].toArray 2, slots := [].toArray }),
  (174, { cls := (.type "type"), dict := none, data := .cls { name := (S "BadSize"), bases := [(.ref 39)], mro := [(.ref 174), (.ref 39), (.type "ValueError"), (.type "Exception"), (.type "BaseException"), (.type "object")], ns := 173, qualname := (S "BadSize"), hasDict := true, slotNames := [], subclasses := [], abstract := false, collection := none, hasDel := false }, slots := [(some (.ref 158)), none, (some (.str (S "BadSize") 381)), (some (.str (S "BadSize") 389)), (some (.builtin "ValueError.__new__")), (some (.bool true))].toArray }),
  (189, { cls := (.type "code"), dict := none, data := .fields [(.str (S "__init__") 422), (.str (S "NeedsDictionary.__init__") 423), (.str (S "/claim/cut.py") 424), (.int (42) 0), (.int (2) 0), (.int (0) 0), (.int (0) 0), (.int (3) 0), (.ref 184), (.bool true), (.int (181) 0), (.ref 185), .none, (.ref 186), (.ref 187), (.ref 188), (.int (427) 0), (.int (42) 0), (.str (S "/claim/cut.py") 428)].toArray, slots := [].toArray }),
  (190, { cls := (.type "function"), dict := none, data := .func fd_NeedsDictionary___init__, slots := [].toArray }),
  (192, { cls := (.type "dict"), dict := none, data := .dict [ent P "__module__" 417 (.str (S "threepress.errors") 194), ent P "__firstlineno__" 421 (.int (40) 420), ent P "__init__" 429 (.ref 190), ent P "__static_attributes__" 431 (.ref 191), ent P "__doc__" 432 .none].toArray 2, slots := [].toArray }),
  (193, { cls := (.type "type"), dict := none, data := .cls { name := (S "NeedsDictionary"), bases := [(.ref 39)], mro := [(.ref 193), (.ref 39), (.type "ValueError"), (.type "Exception"), (.type "BaseException"), (.type "object")], ns := 192, qualname := (S "NeedsDictionary"), hasDict := true, slotNames := [], subclasses := [], abstract := false, collection := none, hasDel := false }, slots := [(some (.ref 177)), none, (some (.str (S "NeedsDictionary") 410)), (some (.str (S "NeedsDictionary") 418)), (some (.builtin "ValueError.__new__")), (some (.bool true))].toArray }),
  (208, { cls := (.type "code"), dict := none, data := .fields [(.str (S "__init__") 447), (.str (S "WrongDictionary.__init__") 448), (.str (S "/claim/cut.py") 449), (.int (47) 0), (.int (3) 0), (.int (0) 0), (.int (0) 0), (.int (3) 0), (.ref 203), (.bool true), (.int (181) 0), (.ref 204), .none, (.ref 205), (.ref 206), (.ref 207), (.int (453) 0), (.int (47) 0), (.str (S "/claim/cut.py") 454)].toArray, slots := [].toArray }),
  (209, { cls := (.type "function"), dict := none, data := .func fd_WrongDictionary___init__, slots := [].toArray }),
  (211, { cls := (.type "dict"), dict := none, data := .dict [ent P "__module__" 442 (.str (S "threepress.errors") 194), ent P "__firstlineno__" 446 (.int (45) 445), ent P "__init__" 455 (.ref 209), ent P "__static_attributes__" 458 (.ref 210), ent P "__doc__" 459 .none].toArray 2, slots := [].toArray }),
  (212, { cls := (.type "type"), dict := none, data := .cls { name := (S "WrongDictionary"), bases := [(.ref 39)], mro := [(.ref 212), (.ref 39), (.type "ValueError"), (.type "Exception"), (.type "BaseException"), (.type "object")], ns := 211, qualname := (S "WrongDictionary"), hasDict := true, slotNames := [], subclasses := [], abstract := false, collection := none, hasDel := false }, slots := [(some (.ref 196)), none, (some (.str (S "WrongDictionary") 435)), (some (.str (S "WrongDictionary") 443)), (some (.builtin "ValueError.__new__")), (some (.bool true))].toArray }),
  (227, { cls := (.type "code"), dict := none, data := .fields [(.str (S "__init__") 474), (.str (S "TooLarge.__init__") 475), (.str (S "/claim/cut.py") 476), (.int (53) 0), (.int (4) 0), (.int (0) 0), (.int (0) 0), (.int (3) 0), (.ref 222), (.bool true), (.int (181) 0), (.ref 223), .none, (.ref 224), (.ref 225), (.ref 226), (.int (481) 0), (.int (53) 0), (.str (S "/claim/cut.py") 482)].toArray, slots := [].toArray }),
  (228, { cls := (.type "function"), dict := none, data := .func fd_TooLarge___init__, slots := [].toArray }),
  (230, { cls := (.type "dict"), dict := none, data := .dict [ent P "__module__" 469 (.str (S "threepress.errors") 194), ent P "__firstlineno__" 473 (.int (51) 472), ent P "__init__" 483 (.ref 228), ent P "__static_attributes__" 487 (.ref 229), ent P "__doc__" 488 .none].toArray 2, slots := [].toArray }),
  (231, { cls := (.type "type"), dict := none, data := .cls { name := (S "TooLarge"), bases := [(.ref 39)], mro := [(.ref 231), (.ref 39), (.type "ValueError"), (.type "Exception"), (.type "BaseException"), (.type "object")], ns := 230, qualname := (S "TooLarge"), hasDict := true, slotNames := [], subclasses := [], abstract := false, collection := none, hasDel := false }, slots := [(some (.ref 215)), none, (some (.str (S "TooLarge") 462)), (some (.str (S "TooLarge") 470)), (some (.builtin "ValueError.__new__")), (some (.bool true))].toArray }),
  (1219, { cls := (.type "tuple"), dict := none, data := .seq [.none, .none, .none].toArray 0, slots := [].toArray }),
  (1225, { cls := (.type "code"), dict := none, data := .fields [(.str (S "__init__") 2290), (.str (S "Tables.__init__") 2291), (.str (S "/claim/cut.py") 2292), (.int (703) 0), (.int (4) 0), (.int (0) 0), (.int (0) 0), (.int (3) 0), (.ref 1220), (.bool true), (.int (181) 0), (.ref 1221), .none, (.ref 1222), (.ref 1223), (.ref 1224), (.int (2297) 0), (.int (703) 0), (.str (S "/claim/cut.py") 2298)].toArray, slots := [].toArray }),
  (1226, { cls := (.type "function"), dict := none, data := .func fd_Tables___init__, slots := [].toArray }),
  (1256, { cls := (.type "dict"), dict := none, data := .dict [ent P "__module__" 2285 (.str (S "threepress.zseq") 1469), ent P "__firstlineno__" 2289 (.int (701) 2288), ent P "__init__" 2299 (.ref 1226), ent P "held" 2307 (.ref 1233), ent P "put" 2315 (.ref 1240), ent P "predefined" 2323 (.ref 1247), ent P "copy" 2331 (.ref 1254), ent P "__static_attributes__" 2336 (.ref 1255), ent P "__dict__" 2338 (.ref 1258), ent P "__weakref__" 2340 (.ref 1259), ent P "__doc__" 2341 .none].toArray 4, slots := [].toArray }),
  (1257, { cls := (.type "type"), dict := none, data := .cls { name := (S "Tables"), bases := [(.type "object")], mro := [(.ref 1257), (.type "object")], ns := 1256, qualname := (S "Tables"), hasDict := true, slotNames := [], subclasses := [], abstract := false, collection := none, hasDel := false }, slots := [none, none, (some (.str (S "Tables") 2278)), (some (.str (S "Tables") 2286)), (some (.builtin "object.__new__")), (some (.bool true))].toArray }),
  (1305, { cls := (.type "tuple"), dict := none, data := .seq [(.int (1) 2418), (.int (4) 2419), (.int (8) 2420)].toArray 0, slots := [].toArray }),
  (1311, { cls := (.type "code"), dict := none, data := .fields [(.str (S "__init__") 2421), (.str (S "Offsets.__init__") 2422), (.str (S "/claim/cut.py") 2423), (.int (792) 0), (.int (4) 0), (.int (0) 0), (.int (0) 0), (.int (3) 0), (.ref 1306), (.bool true), (.int (181) 0), (.ref 1307), .none, (.ref 1308), (.ref 1309), (.ref 1310), (.int (2428) 0), (.int (792) 0), (.str (S "/claim/cut.py") 2429)].toArray, slots := [].toArray }),
  (1312, { cls := (.type "function"), dict := none, data := .func fd_Offsets___init__, slots := [].toArray }),
  (1318, { cls := (.type "code"), dict := none, data := .fields [(.str (S "row") 2431), (.str (S "Offsets.row") 2432), (.str (S "/claim/cut.py") 2433), (.int (799) 0), (.int (1) 0), (.int (0) 0), (.int (0) 0), (.int (3) 0), (.ref 1313), (.bool true), (.int (181) 0), (.ref 1314), .none, (.ref 1315), (.ref 1316), (.ref 1317), (.int (2435) 0), (.int (799) 0), (.str (S "/claim/cut.py") 2436)].toArray, slots := [].toArray }),
  (1319, { cls := (.type "function"), dict := none, data := .func fd_Offsets_row, slots := [].toArray }),
  (1332, { cls := (.type "code"), dict := none, data := .fields [(.str (S "told_by") 2445), (.str (S "Offsets.told_by") 2446), (.str (S "/claim/cut.py") 2447), (.int (805) 0), (.int (3) 0), (.int (0) 0), (.int (0) 0), (.int (3) 0), (.ref 1327), (.bool true), (.int (181) 0), (.ref 1328), .none, (.ref 1329), (.ref 1330), (.ref 1331), (.int (2452) 0), (.int (805) 0), (.str (S "/claim/cut.py") 2453)].toArray, slots := [].toArray }),
  (1333, { cls := (.type "function"), dict := none, data := .func fd_Offsets_told_by, slots := [].toArray }),
  (1339, { cls := (.type "code"), dict := none, data := .fields [(.str (S "move") 2455), (.str (S "Offsets.move") 2456), (.str (S "/claim/cut.py") 2457), (.int (815) 0), (.int (3) 0), (.int (0) 0), (.int (0) 0), (.int (3) 0), (.ref 1334), (.bool true), (.int (181) 0), (.ref 1335), .none, (.ref 1336), (.ref 1337), (.ref 1338), (.int (2461) 0), (.int (815) 0), (.str (S "/claim/cut.py") 2462)].toArray, slots := [].toArray }),
  (1340, { cls := (.type "function"), dict := none, data := .func fd_Offsets_move, slots := [].toArray }),
  (1346, { cls := (.type "code"), dict := none, data := .fields [(.str (S "distance") 2464), (.str (S "Offsets.distance") 2465), (.str (S "/claim/cut.py") 2466), (.int (821) 0), (.int (3) 0), (.int (0) 0), (.int (0) 0), (.int (3) 0), (.ref 1341), (.bool true), (.int (181) 0), (.ref 1342), .none, (.ref 1343), (.ref 1344), (.ref 1345), (.int (2472) 0), (.int (821) 0), (.str (S "/claim/cut.py") 2473)].toArray, slots := [].toArray }),
  (1347, { cls := (.type "function"), dict := none, data := .func fd_Offsets_distance, slots := [].toArray }),
  (1356, { cls := (.type "dict"), dict := none, data := .dict [ent P "__module__" 2413 (.str (S "threepress.zseq") 1469), ent P "__firstlineno__" 2417 (.int (790) 2416), ent P "__init__" 2430 (.ref 1312), ent P "row" 2437 (.ref 1319), ent P "copy" 2444 (.ref 1326), ent P "told_by" 2454 (.ref 1333), ent P "move" 2463 (.ref 1340), ent P "distance" 2474 (.ref 1347), ent P "value" 2485 (.ref 1354), ent P "__static_attributes__" 2489 (.ref 1355), ent P "__dict__" 2491 (.ref 1358), ent P "__weakref__" 2493 (.ref 1359), ent P "__doc__" 2494 .none].toArray 4, slots := [].toArray }),
  (1357, { cls := (.type "type"), dict := none, data := .cls { name := (S "Offsets"), bases := [(.type "object")], mro := [(.ref 1357), (.type "object")], ns := 1356, qualname := (S "Offsets"), hasDict := true, slotNames := [], subclasses := [], abstract := false, collection := none, hasDel := false }, slots := [none, none, (some (.str (S "Offsets") 2406)), (some (.str (S "Offsets") 2414)), (some (.builtin "object.__new__")), (some (.bool true))].toArray }),
  (1369, { cls := (.type "tuple"), dict := none, data := .seq [.none, (.int (0) 2519), (.bool false), (.bool false)].toArray 0, slots := [].toArray }),
  (1375, { cls := (.type "code"), dict := none, data := .fields [(.str (S "__init__") 2520), (.str (S "FrameHeader.__init__") 2521), (.str (S "/claim/cut.py") 2522), (.int (844) 0), (.int (6) 0), (.int (0) 0), (.int (0) 0), (.int (3) 0), (.ref 1370), (.bool true), (.int (181) 0), (.ref 1371), .none, (.ref 1372), (.ref 1373), (.ref 1374), (.int (2529) 0), (.int (844) 0), (.str (S "/claim/cut.py") 2530)].toArray, slots := [].toArray }),
  (1376, { cls := (.type "function"), dict := none, data := .func fd_FrameHeader___init__, slots := [].toArray }),
  (1385, { cls := (.type "dict"), dict := none, data := .dict [ent P "__module__" 2514 (.str (S "threepress.zframe") 2497), ent P "__firstlineno__" 2518 (.int (842) 2517), ent P "__init__" 2531 (.ref 1376), ent P "told" 2538 (.ref 1383), ent P "__static_attributes__" 2544 (.ref 1384), ent P "__dict__" 2546 (.ref 1387), ent P "__weakref__" 2548 (.ref 1388), ent P "__doc__" 2549 .none].toArray 4, slots := [].toArray }),
  (1386, { cls := (.type "type"), dict := none, data := .cls { name := (S "FrameHeader"), bases := [(.type "object")], mro := [(.ref 1386), (.type "object")], ns := 1385, qualname := (S "FrameHeader"), hasDict := true, slotNames := [], subclasses := [], abstract := false, collection := none, hasDel := false }, slots := [none, none, (some (.str (S "FrameHeader") 2507)), (some (.str (S "FrameHeader") 2515)), (some (.builtin "object.__new__")), (some (.bool true))].toArray }),
  (1403, { cls := (.type "code"), dict := none, data := .fields [(.str (S "__init__") 2564), (.str (S "BlockHead.__init__") 2565), (.str (S "/claim/cut.py") 2566), (.int (855) 0), (.int (4) 0), (.int (0) 0), (.int (0) 0), (.int (3) 0), (.ref 1398), (.bool true), (.int (181) 0), (.ref 1399), .none, (.ref 1400), (.ref 1401), (.ref 1402), (.int (2571) 0), (.int (855) 0), (.str (S "/claim/cut.py") 2572)].toArray, slots := [].toArray }),
  (1404, { cls := (.type "function"), dict := none, data := .func fd_BlockHead___init__, slots := [].toArray }),
  (1406, { cls := (.type "dict"), dict := none, data := .dict [ent P "__module__" 2559 (.str (S "threepress.zframe") 2497), ent P "__firstlineno__" 2563 (.int (853) 2562), ent P "__init__" 2573 (.ref 1404), ent P "__static_attributes__" 2577 (.ref 1405), ent P "__dict__" 2579 (.ref 1408), ent P "__weakref__" 2581 (.ref 1409), ent P "__doc__" 2582 .none].toArray 4, slots := [].toArray }),
  (1407, { cls := (.type "type"), dict := none, data := .cls { name := (S "BlockHead"), bases := [(.type "object")], mro := [(.ref 1407), (.type "object")], ns := 1406, qualname := (S "BlockHead"), hasDict := true, slotNames := [], subclasses := [], abstract := false, collection := none, hasDel := false }, slots := [none, none, (some (.str (S "BlockHead") 2552)), (some (.str (S "BlockHead") 2560)), (some (.builtin "object.__new__")), (some (.bool true))].toArray }),
  (1417, { cls := (.type "code"), dict := none, data := .fields [(.str (S "pick_dictionary") 2585), (.str (S "pick_dictionary") 2586), (.str (S "/claim/cut.py") 2587), (.int (859) 0), (.int (2) 0), (.int (0) 0), (.int (0) 0), (.int (3) 0), (.ref 1412), (.bool true), (.int (181) 0), (.ref 1413), .none, (.ref 1414), (.ref 1415), (.ref 1416), (.int (2591) 0), (.int (859) 0), (.str (S "/claim/cut.py") 2592)].toArray, slots := [].toArray }),
  (1418, { cls := (.type "function"), dict := none, data := .func fd_pick_dictionary, slots := [].toArray }),
  (1427, { cls := (.type "tuple"), dict := none, data := .seq [(.ref 1426), (.int (8388608) 2608), (.int (131072) 2499)].toArray 0, slots := [].toArray }),
  (1433, { cls := (.type "code"), dict := none, data := .fields [(.str (S "__init__") 2609), (.str (S "FrameState.__init__") 2610), (.str (S "/claim/cut.py") 2611), (.int (870) 0), (.int (5) 0), (.int (0) 0), (.int (0) 0), (.int (3) 0), (.ref 1428), (.bool true), (.int (181) 0), (.ref 1429), .none, (.ref 1430), (.ref 1431), (.ref 1432), (.int (2618) 0), (.int (870) 0), (.str (S "/claim/cut.py") 2619)].toArray, slots := [].toArray }),
  (1434, { cls := (.type "function"), dict := none, data := .func fd_FrameState___init__, slots := [].toArray }),
  (1440, { cls := (.type "code"), dict := none, data := .fields [(.str (S "begin_with") 2621), (.str (S "FrameState.begin_with") 2622), (.str (S "/claim/cut.py") 2623), (.int (884) 0), (.int (2) 0), (.int (0) 0), (.int (0) 0), (.int (3) 0), (.ref 1435), (.bool true), (.int (181) 0), (.ref 1436), .none, (.ref 1437), (.ref 1438), (.ref 1439), (.int (2629) 0), (.int (884) 0), (.str (S "/claim/cut.py") 2630)].toArray, slots := [].toArray }),
  (1441, { cls := (.type "function"), dict := none, data := .func fd_FrameState_begin_with, slots := [].toArray }),
  (1447, { cls := (.type "code"), dict := none, data := .fields [(.str (S "content_count") 2632), (.str (S "FrameState.content_count") 2633), (.str (S "/claim/cut.py") 2634), (.int (892) 0), (.int (2) 0), (.int (0) 0), (.int (0) 0), (.int (3) 0), (.ref 1442), (.bool true), (.int (181) 0), (.ref 1443), .none, (.ref 1444), (.ref 1445), (.ref 1446), (.int (2637) 0), (.int (892) 0), (.str (S "/claim/cut.py") 2638)].toArray, slots := [].toArray }),
  (1448, { cls := (.type "function"), dict := none, data := .func fd_FrameState_content_count, slots := [].toArray }),
  (1454, { cls := (.type "code"), dict := none, data := .fields [(.str (S "block") 2640), (.str (S "FrameState.block") 2641), (.str (S "/claim/cut.py") 2642), (.int (899) 0), (.int (3) 0), (.int (0) 0), (.int (0) 0), (.int (3) 0), (.ref 1449), (.bool true), (.int (181) 0), (.ref 1450), .none, (.ref 1451), (.ref 1452), (.ref 1453), (.int (2647) 0), (.int (899) 0), (.str (S "/claim/cut.py") 2648)].toArray, slots := [].toArray }),
  (1455, { cls := (.type "function"), dict := none, data := .func fd_FrameState_block, slots := [].toArray }),
  (1468, { cls := (.type "code"), dict := none, data := .fields [(.str (S "play") 2660), (.str (S "FrameState.play") 2661), (.str (S "/claim/cut.py") 2662), (.int (916) 0), (.int (3) 0), (.int (0) 0), (.int (0) 0), (.int (3) 0), (.ref 1463), (.bool true), (.int (181) 0), (.ref 1464), .none, (.ref 1465), (.ref 1466), (.ref 1467), (.int (2672) 0), (.int (916) 0), (.str (S "/claim/cut.py") 2673)].toArray, slots := [].toArray }),
  (1469, { cls := (.type "function"), dict := none, data := .func fd_FrameState_play, slots := [].toArray }),
  (1475, { cls := (.type "code"), dict := none, data := .fields [(.str (S "copy") 2675), (.str (S "FrameState.copy") 2676), (.str (S "/claim/cut.py") 2677), (.int (931) 0), (.int (3) 0), (.int (0) 0), (.int (0) 0), (.int (3) 0), (.ref 1470), (.bool true), (.int (181) 0), (.ref 1471), .none, (.ref 1472), (.ref 1473), (.ref 1474), (.int (2684) 0), (.int (931) 0), (.str (S "/claim/cut.py") 2685)].toArray, slots := [].toArray }),
  (1476, { cls := (.type "function"), dict := none, data := .func fd_FrameState_copy, slots := [].toArray }),
  (1482, { cls := (.type "code"), dict := none, data := .fields [(.str (S "close") 2687), (.str (S "FrameState.close") 2688), (.str (S "/claim/cut.py") 2689), (.int (948) 0), (.int (1) 0), (.int (0) 0), (.int (0) 0), (.int (3) 0), (.ref 1477), (.bool true), (.int (181) 0), (.ref 1478), .none, (.ref 1479), (.ref 1480), (.ref 1481), (.int (2691) 0), (.int (948) 0), (.str (S "/claim/cut.py") 2692)].toArray, slots := [].toArray }),
  (1483, { cls := (.type "function"), dict := none, data := .func fd_FrameState_close, slots := [].toArray }),
  (1492, { cls := (.type "dict"), dict := none, data := .dict [ent P "__module__" 2601 (.str (S "threepress.zframe") 2497), ent P "__firstlineno__" 2605 (.int (868) 2604), ent P "__init__" 2620 (.ref 1434), ent P "begin_with" 2631 (.ref 1441), ent P "content_count" 2639 (.ref 1448), ent P "block" 2649 (.ref 1455), ent P "packed" 2659 (.ref 1462), ent P "play" 2674 (.ref 1469), ent P "copy" 2686 (.ref 1476), ent P "close" 2693 (.ref 1483), ent P "check" 2702 (.ref 1490), ent P "__static_attributes__" 2710 (.ref 1491), ent P "__dict__" 2712 (.ref 1494), ent P "__weakref__" 2714 (.ref 1495), ent P "__doc__" 2715 .none].toArray 4, slots := [].toArray }),
  (1493, { cls := (.type "type"), dict := none, data := .cls { name := (S "FrameState"), bases := [(.type "object")], mro := [(.ref 1493), (.type "object")], ns := 1492, qualname := (S "FrameState"), hasDict := true, slotNames := [], subclasses := [], abstract := false, collection := none, hasDel := false }, slots := [none, none, (some (.str (S "FrameState") 2594)), (some (.str (S "FrameState") 2602)), (some (.builtin "object.__new__")), (some (.bool true))].toArray }),
  (1506, { cls := (.type "tuple"), dict := none, data := .seq [.none, .none, (.ref 1498)].toArray 0, slots := [].toArray }),
  (1512, { cls := (.type "code"), dict := none, data := .fields [(.str (S "__init__") 2736), (.str (S "Dictionary.__init__") 2737), (.str (S "/claim/cut.py") 2738), (.int (960) 0), (.int (6) 0), (.int (0) 0), (.int (0) 0), (.int (3) 0), (.ref 1507), (.bool true), (.int (181) 0), (.ref 1508), .none, (.ref 1509), (.ref 1510), (.ref 1511), (.int (2745) 0), (.int (960) 0), (.str (S "/claim/cut.py") 2746)].toArray, slots := [].toArray }),
  (1513, { cls := (.type "function"), dict := none, data := .func fd_Dictionary___init__, slots := [].toArray }),
  (1529, { cls := (.type "dict"), dict := none, data := .dict [ent P "__module__" 2731 (.str (S "threepress.zdict") 2718), ent P "__firstlineno__" 2735 (.int (958) 2734), ent P "__init__" 2747 (.ref 1513), ent P "is_raw" 2754 (.ref 1520), ent P "is_free" 2761 (.ref 1527), ent P "__static_attributes__" 2767 (.ref 1528), ent P "__dict__" 2769 (.ref 1531), ent P "__weakref__" 2771 (.ref 1532), ent P "__doc__" 2772 .none].toArray 4, slots := [].toArray }),
  (1530, { cls := (.type "type"), dict := none, data := .cls { name := (S "Dictionary"), bases := [(.type "object")], mro := [(.ref 1530), (.type "object")], ns := 1529, qualname := (S "Dictionary"), hasDict := true, slotNames := [], subclasses := [], abstract := false, collection := none, hasDel := false }, slots := [none, none, (some (.str (S "Dictionary") 2724)), (some (.str (S "Dictionary") 2732)), (some (.builtin "object.__new__")), (some (.bool true))].toArray }),
  (1540, { cls := (.type "code"), dict := none, data := .fields [(.str (S "_law_box") 2777), (.str (S "_law_box") 2778), (.str (S "/claim/cut.py") 2779), (.int (975) 0), (.int (1) 0), (.int (0) 0), (.int (0) 0), (.int (3) 0), (.ref 1535), (.bool true), (.int (181) 0), (.ref 1536), .none, (.ref 1537), (.ref 1538), (.ref 1539), (.int (2783) 0), (.int (975) 0), (.str (S "/claim/cut.py") 2784)].toArray, slots := [].toArray }),
  (1541, { cls := (.type "function"), dict := none, data := .func fd__law_box, slots := [].toArray }),
  (1547, { cls := (.type "code"), dict := none, data := .fields [(.str (S "_law_take") 2786), (.str (S "_law_take") 2787), (.str (S "/claim/cut.py") 2788), (.int (980) 0), (.int (2) 0), (.int (0) 0), (.int (0) 0), (.int (3) 0), (.ref 1542), (.bool true), (.int (181) 0), (.ref 1543), .none, (.ref 1544), (.ref 1545), (.ref 1546), (.int (2792) 0), (.int (980) 0), (.str (S "/claim/cut.py") 2793)].toArray, slots := [].toArray }),
  (1548, { cls := (.type "function"), dict := none, data := .func fd__law_take, slots := [].toArray }),
  (1554, { cls := (.type "code"), dict := none, data := .fields [(.str (S "_law_word") 2795), (.str (S "_law_word") 2796), (.str (S "/claim/cut.py") 2797), (.int (987) 0), (.int (1) 0), (.int (0) 0), (.int (0) 0), (.int (3) 0), (.ref 1549), (.bool true), (.int (181) 0), (.ref 1550), .none, (.ref 1551), (.ref 1552), (.ref 1553), (.int (2800) 0), (.int (987) 0), (.str (S "/claim/cut.py") 2801)].toArray, slots := [].toArray }),
  (1555, { cls := (.type "function"), dict := none, data := .func fd__law_word, slots := [].toArray }),
  (1559, { cls := (.type "code"), dict := none, data := .fields [(.str (S "_law_books") 2803), (.str (S "_law_books") 2804), (.str (S "/claim/cut.py") 2805), (.int (1004) 0), (.int (1) 0), (.int (0) 0), (.int (0) 0), (.int (3) 0), (.ref 1556), (.bool true), (.int (181) 0), (.ref 1557), .none, .none, .none, (.ref 1558), (.int (2806) 0), (.int (1004) 0), (.str (S "/claim/cut.py") 2807)].toArray, slots := [].toArray }),
  (1560, { cls := (.type "function"), dict := none, data := .func fd__law_books, slots := [].toArray }),
  (1564, { cls := (.type "code"), dict := none, data := .fields [(.str (S "_law_picked") 2809), (.str (S "_law_picked") 2810), (.str (S "/claim/cut.py") 2811), (.int (1012) 0), (.int (2) 0), (.int (0) 0), (.int (0) 0), (.int (3) 0), (.ref 1561), (.bool true), (.int (181) 0), (.ref 1562), .none, .none, .none, (.ref 1563), (.int (2812) 0), (.int (1012) 0), (.str (S "/claim/cut.py") 2813)].toArray, slots := [].toArray }),
  (1565, { cls := (.type "function"), dict := none, data := .func fd__law_picked, slots := [].toArray }),
  (1569, { cls := (.type "code"), dict := none, data := .fields [(.str (S "_law_meant") 2815), (.str (S "_law_meant") 2816), (.str (S "/claim/cut.py") 2817), (.int (1019) 0), (.int (3) 0), (.int (0) 0), (.int (0) 0), (.int (3) 0), (.ref 1566), (.bool true), (.int (181) 0), (.ref 1567), .none, .none, .none, (.ref 1568), (.int (2818) 0), (.int (1019) 0), (.str (S "/claim/cut.py") 2819)].toArray, slots := [].toArray }),
  (1570, { cls := (.type "function"), dict := none, data := .func fd__law_meant, slots := [].toArray }),
  (1576, { cls := (.type "code"), dict := none, data := .fields [(.str (S "_law_played") 2821), (.str (S "_law_played") 2822), (.str (S "/claim/cut.py") 2823), (.int (1026) 0), (.int (3) 0), (.int (0) 0), (.int (0) 0), (.int (3) 0), (.ref 1571), (.bool true), (.int (181) 0), (.ref 1572), .none, (.ref 1573), (.ref 1574), (.ref 1575), (.int (2837) 0), (.int (1026) 0), (.str (S "/claim/cut.py") 2838)].toArray, slots := [].toArray }),
  (1577, { cls := (.type "function"), dict := none, data := .func fd__law_played, slots := [].toArray }),
  (1581, { cls := (.type "code"), dict := none, data := .fields [(.str (S "_law_rows") 2840), (.str (S "_law_rows") 2841), (.str (S "/claim/cut.py") 2842), (.int (1046) 0), (.int (2) 0), (.int (0) 0), (.int (0) 0), (.int (3) 0), (.ref 1578), (.bool true), (.int (181) 0), (.ref 1579), .none, .none, .none, (.ref 1580), (.int (2843) 0), (.int (1046) 0), (.str (S "/claim/cut.py") 2844)].toArray, slots := [].toArray }),
  (1582, { cls := (.type "function"), dict := none, data := .func fd__law_rows, slots := [].toArray }),
  (1588, { cls := (.type "code"), dict := none, data := .fields [(.str (S "_law_block") 2846), (.str (S "_law_block") 2847), (.str (S "/claim/cut.py") 2848), (.int (1057) 0), (.int (5) 0), (.int (0) 0), (.int (0) 0), (.int (3) 0), (.ref 1583), (.bool true), (.int (181) 0), (.ref 1584), .none, (.ref 1585), (.ref 1586), (.ref 1587), (.int (2859) 0), (.int (1057) 0), (.str (S "/claim/cut.py") 2860)].toArray, slots := [].toArray }),
  (1589, { cls := (.type "function"), dict := none, data := .func fd__law_block, slots := [].toArray }),
  (1593, { cls := (.type "code"), dict := none, data := .fields [(.str (S "_law_deed_right") 2862), (.str (S "_law_deed_right") 2863), (.str (S "/claim/cut.py") 2864), (.int (1069) 0), (.int (3) 0), (.int (0) 0), (.int (0) 0), (.int (3) 0), (.ref 1590), (.bool true), (.int (181) 0), (.ref 1591), .none, .none, .none, (.ref 1592), (.int (2865) 0), (.int (1069) 0), (.str (S "/claim/cut.py") 2866)].toArray, slots := [].toArray }),
  (1594, { cls := (.type "function"), dict := none, data := .func fd__law_deed_right, slots := [].toArray }),
  (1598, { cls := (.type "code"), dict := none, data := .fields [(.str (S "law") 2868), (.str (S "law") 2869), (.str (S "/claim/cut.py") 2870), (.int (1084) 0), (.int (1) 0), (.int (0) 0), (.int (0) 0), (.int (3) 0), (.ref 1595), (.bool true), (.int (181) 0), (.ref 1596), .none, .none, .none, (.ref 1597), (.int (2871) 0), (.int (1084) 0), (.str (S "/claim/cut.py") 2872)].toArray, slots := [].toArray }),
  (1599, { cls := (.type "function"), dict := none, data := .func fd_law, slots := [].toArray })]
noncomputable def as0 : List Addr := [2, 3, 29, 35, 36, 38, 39, 63, 64, 87, 88, 123, 124, 170, 171, 173, 174, 189, 190, 192, 193, 208, 209, 211, 212, 227, 228, 230, 231, 1219, 1225, 1226, 1256, 1257, 1305, 1311, 1312, 1318, 1319, 1332, 1333, 1339, 1340, 1346, 1347, 1356, 1357, 1369, 1375, 1376, 1385, 1386, 1403, 1404, 1406, 1407, 1417, 1418, 1427, 1433, 1434, 1440, 1441, 1447, 1448, 1454, 1455, 1468, 1469, 1475, 1476, 1482, 1483, 1492, 1493, 1506, 1512, 1513, 1529, 1530, 1540, 1541, 1547, 1548, 1554, 1555, 1559, 1560, 1564, 1565, 1569, 1570, 1576, 1577, 1581, 1582, 1588, 1589, 1593, 1594, 1598, 1599]

end Mine
end

section
open PySem PySem.W PyProof.Rows
namespace Mine

theorem setSame' {σ : Store} {a : Addr} {o : O} : (σ.set a o) a = some o := by unfold Store.set; rw [if_pos rfl]
theorem setOther' {σ : Store} {a b : Addr} {o : O} (h : b ≠ a) : (σ.set a o) b = σ b := by unfold Store.set; rw [if_neg h]

theorem nd_inj {l : List Addr} (h : l.Nodup) {i j : Nat} (hi : i < l.length) (hj : j < l.length) (e : l[i] = l[j]) : i = j := by
  run_tac beginC
  rcases Nat.lt_trichotomy i j with q | q | q
  · exact absurd e (List.pairwise_iff_getElem.mp h i j hi hj q)
  · exact q
  · exact absurd e.symm (List.pairwise_iff_getElem.mp h j i hj hi q)
  run_tac endC

theorem Fresh.up {σ : Store} {a b : Addr} (h : Fresh σ a) (hb : a ≤ b) : Fresh σ b := fun c hc => h c (Nat.le_trans hb hc)
theorem Fresh.set {σ : Store} {a b : Addr} {o : O} (h : Fresh σ a) (hb : b < a) : Fresh (σ.set b o) a := fun c hc => by
  rw [setOther' (Nat.ne_of_gt (Nat.lt_of_lt_of_le hb hc))]; exact h c hc

/-- what stands in the store: the objects at hand, and a frame -/
noncomputable def H (ex fr : List (Addr × O)) (σ : Store) : Prop := (∀ p ∈ ex ++ fr, σ p.1 = some p.2) ∧ ((ex ++ fr).map (·.1)).Nodup

section
variable {ex fr rest post : List (Addr × O)} {σ σ' : Store} {a : Addr} {o o' : O}
theorem H.at (n : Nat) (h : H ex fr σ) (e : ex[n]? = some (a, o)) : σ a = some o := h.1 (a, o) (List.mem_append_left _ (List.mem_of_getElem? e))
theorem H.mem (h : H ex fr σ) (e : (a, o) ∈ fr) : σ a = some o := h.1 (a, o) (List.mem_append_right _ e)
theorem H.keep (h : H ex fr σ) (k : ∀ b o, σ b = some o → σ' b = some o) : H ex fr σ' := ⟨fun p hp => k _ _ (h.1 p hp), h.2⟩
theorem H.notIn (h : H ex fr σ) (hf : σ a = none) : a ∉ (ex ++ fr).map (·.1) := fun hm => by
  obtain ⟨p, hp, rfl⟩ := List.mem_map.mp hm
  rw [h.1 p hp] at hf; cases hf
theorem H.add (h : H ex fr σ) (hf : a ∉ (ex ++ fr).map (·.1)) (e : σ a = some o) : H ((a, o) :: ex) fr σ := ⟨fun p hp => by
  rcases List.mem_cons.mp hp with rfl | hp
  · exact e
  · exact h.1 p hp, by
  show ((a, o).1 :: (ex ++ fr).map (·.1)).Nodup
  exact List.nodup_cons.mpr ⟨hf, h.2⟩⟩
theorem H.new (h : H ex fr σ) (hf : Fresh σ a) : H ((a, o) :: ex) fr (σ.set a o) := by
  run_tac beginC
  have hn := h.notIn (hf a (Nat.le_refl _))
  exact H.add (h.keep fun b x e => by rw [setOther' (fun q => by rw [q, hf a (Nat.le_refl _)] at e; cases e)]; exact e) hn setSame'
  run_tac endC
theorem H.got (h : H ex fr σ) (k : ∀ b o, σ b = some o → σ' b = some o) (hf : σ a = none) (e : σ' a = some o) : H ((a, o) :: ex) fr σ' := H.add (h.keep k) (h.notIn hf) e
theorem H.upd (n : Nat) (o' : O) (h : H ex fr σ) (e : ex[n]? = some (a, o)) : H (ex.set n (a, o')) fr (σ.set a o') := by
  run_tac beginC
  have hmap : (ex.set n (a, o')).map (·.1) = ex.map (·.1) := by
    rw [List.map_set]
    refine List.ext_getElem? fun i => ?_
    rw [List.getElem?_set]
    split
    · rename_i q; subst q
      split
      · rename_i q2; rw [List.getElem?_map, e]; rfl
      · rename_i q2; rw [List.getElem?_eq_none (Nat.le_of_not_lt q2)]
    · rfl
  have nd := h.2
  rw [List.map_append] at nd
  refine ⟨fun p hp => ?_, by rw [List.map_append, hmap]; exact nd⟩
  by_cases q : p.1 = a
  · have : p = (a, o') := by
      obtain ⟨hn, he⟩ := List.getElem?_eq_some_iff.mp e
      rcases List.mem_append.mp hp with hp | hp
      · obtain ⟨i, hi, rfl⟩ := List.mem_iff_getElem.mp hp
        by_cases z : n = i
        · subst z; simp
        · exfalso
          rw [List.length_set] at hi
          rw [List.getElem_set_ne z] at q
          have nd1 := (List.nodup_append.mp nd).1
          have := nd_inj nd1 (i := n) (j := i) (by rw [List.length_map]; exact hn) (by rw [List.length_map]; exact hi) (by rw [List.getElem_map, List.getElem_map, he, q])
          exact z this
      · exfalso
        exact (List.nodup_append.mp nd).2.2 a (by rw [List.mem_map]; exact ⟨_, List.mem_of_getElem? e, rfl⟩) p.1 (List.mem_map_of_mem (f := (·.1)) hp) q.symm
    rw [this]; exact setSame'
  · rw [setOther' q]
    rcases List.mem_append.mp hp with hp | hp
    · rcases List.mem_or_eq_of_mem_set hp with hp | hp
      · exact h.1 p (List.mem_append_left _ hp)
      · rw [hp] at q; exact absurd rfl q
    · exact h.1 p (List.mem_append_right _ hp)
  run_tac endC
/-- some of the objects, in another order -/
noncomputable def sel : List Nat → List (Addr × O) → List (Addr × O)
  | [], _ => []
  | i :: is, l => match l[i]? with
    | some p => p :: sel is l
    | none => sel is l
theorem sel_mem : ∀ {is : List Nat} {l : List (Addr × O)} {p : Addr × O}, p ∈ sel is l → ∃ i ∈ is, l[i]? = some p
  | [], _, _, h => by cases h
  | i :: is, l, p, h => by
    unfold sel at h
    split at h
    · rename_i q e
      rcases List.mem_cons.mp h with rfl | h
      · exact ⟨i, .head _, e⟩
      · obtain ⟨j, hj, e⟩ := sel_mem h; exact ⟨j, .tail _ hj, e⟩
    · obtain ⟨j, hj, e⟩ := sel_mem h; exact ⟨j, .tail _ hj, e⟩
theorem sel_nodup {l : List (Addr × O)} (hl : (l.map (·.1)).Nodup) : ∀ {is : List Nat}, is.Nodup → ((sel is l).map (·.1)).Nodup
  | [], _ => List.nodup_nil
  | i :: is, h => by
    rw [List.nodup_cons] at h
    unfold sel
    split
    · rename_i p e
      rw [List.map_cons, List.nodup_cons]
      refine ⟨fun hm => ?_, sel_nodup hl h.2⟩
      obtain ⟨q, hq, hpq⟩ := List.mem_map.mp hm
      obtain ⟨j, hj, ej⟩ := sel_mem hq
      obtain ⟨hi1, hi2⟩ := List.getElem?_eq_some_iff.mp e
      obtain ⟨hj1, hj2⟩ := List.getElem?_eq_some_iff.mp ej
      have := nd_inj hl (i := i) (j := j) (by rw [List.length_map]; exact hi1) (by rw [List.length_map]; exact hj1) (by rw [List.getElem_map, List.getElem_map, hi2, hj2, hpq])
      exact h.1 (this ▸ hj)
    · exact sel_nodup hl h.2
theorem H.pick (is : List Nat) (h : H ex fr σ) (hd : is.Nodup := by decide) : H (sel is ex) fr σ := by
  run_tac beginC
  have nd := h.2
  rw [List.map_append, List.nodup_append] at nd
  refine ⟨fun p hp => ?_, ?_⟩
  · rcases List.mem_append.mp hp with hp | hp
    · obtain ⟨i, _, e⟩ := sel_mem hp
      exact h.1 p (List.mem_append_left _ (List.mem_of_getElem? e))
    · exact h.1 p (List.mem_append_right _ hp)
  · rw [List.map_append, List.nodup_append]
    refine ⟨sel_nodup nd.1 hd, nd.2.1, fun x hx y hy => nd.2.2 x ?_ y hy⟩
    obtain ⟨p, hp, rfl⟩ := List.mem_map.mp hx
    obtain ⟨i, _, e⟩ := sel_mem hp
    exact List.mem_map_of_mem (f := (·.1)) (List.mem_of_getElem? e)
  run_tac endC
theorem H.frame (k : Nat) (h : H ex fr σ) : H (ex.take k) (ex.drop k ++ fr) σ := by
  run_tac beginC
  have e : ex.take k ++ (ex.drop k ++ fr) = ex ++ fr := by rw [← List.append_assoc, List.take_append_drop]
  unfold H; rw [e]; exact h
  run_tac endC
theorem H.unframe (h : H post (rest ++ fr) σ) : H (post ++ rest) fr σ := by
  unfold H; rw [List.append_assoc]; exact h
theorem H.ne {i j : Nat} {b : Addr} {o' : O} (h : H ex fr σ) (e : ex[i]? = some (a, o)) (e' : ex[j]? = some (b, o')) (hij : i ≠ j) : a ≠ b := fun q => by
  subst q
  have nd := h.2
  rw [List.map_append, List.nodup_append] at nd
  obtain ⟨hi1, hi2⟩ := List.getElem?_eq_some_iff.mp e
  obtain ⟨hj1, hj2⟩ := List.getElem?_eq_some_iff.mp e'
  exact hij (nd_inj nd.1 (i := i) (j := j) (by rw [List.length_map]; exact hi1) (by rw [List.length_map]; exact hj1) (by rw [List.getElem_map, List.getElem_map, hi2, hj2]))
end

/-! the steps -/
section
variable {F : Frag} {σ : Store} {a : Addr} {K1 : Value → Prop} {K : KV}
theorem item_list {vs : List Value} {k : Int} {t : Tok} {v : Value} (h : σ a = some (.list vs)) (h0 : 0 ≤ k) (e : vs[k.toNat]? = some v) (q : K1 v) : getItemH (.ref a) (.int k t) σ K1 := by
  unfold getItemH; simp only [h]; exact ⟨h0, v, e, q⟩
theorem item_rlist {vs : List Value} {k : Int} {t : Tok} {v : Value} (h : σ a = some (.rlist vs)) (h0 : 0 ≤ k) (e : vs[k.toNat]? = some v) (q : K1 v) : getItemH (.ref a) (.int k t) σ K1 := by
  unfold getItemH; simp only [h]; exact ⟨h0, v, e, q⟩
theorem item_tup {vs : List Value} {k : Int} {t : Tok} {v : Value} (h : σ a = some (.tup vs)) (h0 : 0 ≤ k) (e : vs[k.toNat]? = some v) (q : K1 v) : getItemH (.ref a) (.int k t) σ K1 := by
  unfold getItemH; simp only [h]; exact ⟨h0, v, e, q⟩
theorem item_barr {b : Array UInt8} {k : Int} {t : Tok} {v : UInt8} (h : σ a = some (.barr b)) (h0 : 0 ≤ k) (e : b[k.toNat]? = some v) (q : K1 (vI (v.toNat : Int))) : getItemH (.ref a) (.int k t) σ K1 := by
  unfold getItemH; simp only [h]; exact ⟨h0, v, e, q⟩
theorem item_dict {es : List (Str × Value)} {k : Str} {t : Tok} {v : Value} (h : σ a = some (.dict es)) (e : es.lookup k = some v) (q : K1 v) : getItemH (.ref a) (.str k t) σ K1 := by
  unfold getItemH; simp only [h]; exact ⟨v, e, q⟩
theorem puto_list {vs : List Value} {k : Int} {t : Tok} {v : Value} {Ks : Store → Prop} (h : σ a = some (.list vs)) (h0 : 0 ≤ k) (h1 : k < vs.length) (q : Ks (σ.set a (.list (vs.set k.toNat v)))) : setItemH (.ref a) (.int k t) v σ Ks := ⟨vs, h, h0, h1, q⟩
theorem put_dict {es : List (Str × Value)} {k : Str} {t : Tok} {v : Value} {Ks : Store → Prop} (h : σ a = some (.dict es)) (e : es.length ≤ 100) (q : Ks (σ.set a (.dict (dput es k v)))) : setItemH (.ref a) (.str k t) v σ Ks := ⟨es, h, e, q⟩
theorem attr_inst {C dx : Addr} {name : Str} {es : List (Str × Value)} {u : Value} (h : σ a = some (.inst C dx)) (hd : σ dx = some (.dict es)) (hi : instOk F C = true) (hb : bareOf F C name = true) (e : es.lookup name = some u) (hu : handedIn u = true) (q : K1 u) : getAttrH F (.ref a) name σ K1 := by
  run_tac beginC
  unfold getAttrH; simp only [h]; exact ⟨es, u, hd, hi, hb, e, hu, q⟩
  run_tac endC
theorem attr_exc {C dx : Addr} {n : Bool} {name : Str} {es : List (Str × Value)} {u : Value} (h : σ a = some (.exc C (some dx) n)) (hd : σ dx = some (.dict es)) (hi : excOk F C = true) (hb : bareOf F C name = true) (e : es.lookup name = some u) (hu : handedIn u = true) (q : K1 u) : getAttrH F (.ref a) name σ K1 := by
  run_tac beginC
  unfold getAttrH; simp only [h]; exact ⟨es, u, hd, hi, hb, e, hu, q⟩
  run_tac endC
theorem sattr_inst {C dx : Addr} {name : Str} {es : List (Str × Value)} {u : Value} {Ks : Store → Prop} (h : σ a = some (.inst C dx)) (hd : σ dx = some (.dict es)) (hi : instOk F C = true) (hb : bareOf F C name = true) (hl : es.length ≤ 100) (q : Ks (σ.set dx (.dict (dput es name u)))) : setAttrH F (.ref a) name u σ Ks := by
  run_tac beginC
  unfold setAttrH; simp only [h]; exact ⟨es, hd, hi, hb, hl, q⟩
  run_tac endC
theorem sattr_exc {C dx : Addr} {n : Bool} {name : Str} {es : List (Str × Value)} {u : Value} {Ks : Store → Prop} (h : σ a = some (.exc C (some dx) n)) (hd : σ dx = some (.dict es)) (hi : excOk F C = true) (hb : bareOf F C name = true) (hl : es.length ≤ 100) (q : Ks (σ.set dx (.dict (dput es name u)))) : setAttrH F (.ref a) name u σ Ks := by
  run_tac beginC
  unfold setAttrH; simp only [h]; exact ⟨es, hd, hi, hb, hl, q⟩
  run_tac endC
theorem sattr_exc0 {C : Addr} {n : Bool} {name : Str} {u : Value} {Ks : Store → Prop} (h : σ a = some (.exc C none n)) (hi : excOk F C = true) (hb : bareOf F C name = true)
    (q : ∀ dx, Fresh σ dx → Ks (((σ.set dx (.dict [])).set a (.exc C (some dx) n)).set dx (.dict [(name, u)]))) : setAttrH F (.ref a) name u σ Ks := by
  unfold setAttrH; simp only [h]; exact ⟨hi, hb, q⟩
theorem seq_tup {vs : List Value} {K2 : List Value → Prop} (h : σ a = some (.tup vs)) (q : K2 vs) : seqH (.ref a) σ K2 := by
  unfold seqH; simp only [h]; exact q
theorem iter_list {vs : List Value} {K2 : List Value → (Store → Prop) → Prop} (h : σ a = some (.list vs)) (q : K2 vs (fun σ => σ a = some (.list vs))) : iterH (.ref a) σ K2 := by
  unfold iterH; simp only [h]; exact q
theorem iter_rng {lo hi : Int} {K2 : List Value → (Store → Prop) → Prop} (h : σ a = some (.rng lo hi)) (q : K2 (rangeItems lo hi) (fun _ => True)) : iterH (.ref a) σ K2 := by
  unfold iterH; simp only [h]; exact q
theorem slice_list {vs : List Value} {l u : Value} {lo hi : Option Int} (h : σ a = some (.list vs)) (hl : partOk l = some lo) (hu : partOk u = some hi) (q : alloc (.list (cutL vs lo hi)) σ K) : getSliceH (.ref a) l u σ K := by
  unfold getSliceH; simp only [h]; exact ⟨lo, hi, hl, hu, q⟩
theorem slice_rlist {vs : List Value} {l u : Value} {lo hi : Option Int} (h : σ a = some (.rlist vs)) (hl : partOk l = some lo) (hu : partOk u = some hi) (q : alloc (.list (cutL vs lo hi)) σ K) : getSliceH (.ref a) l u σ K := by
  unfold getSliceH; simp only [h]; exact ⟨lo, hi, hl, hu, q⟩
theorem slice_barr {b : Array UInt8} {l u : Value} {lo hi : Option Int} (h : σ a = some (.barr b)) (hl : partOk l = some lo) (hu : partOk u = some hi) (q : alloc (.barr (cutL b.toList lo hi).toArray) σ K) : getSliceH (.ref a) l u σ K := by
  unfold getSliceH; simp only [h]; exact ⟨lo, hi, hl, hu, q⟩
theorem slice_bytes {b : Array UInt8} {t : Tok} {l u : Value} {lo hi : Option Int} (hz : b.size ≤ LIM) (hl : partOk l = some lo) (hu : partOk u = some hi) (q : K (vB (cutL b.toList lo hi).toArray) σ) : getSliceH (.bytes b t) l u σ K := ⟨lo, hi, hl, hu, hz, q⟩
theorem cell_at {c : Addr} {v : Value} {P Q : Prop} (h : σ c = some (.cell (some v))) (q : P) : P := q
theorem add_lists {p q : Addr} {xs ys : List Value} (h : σ p = some (.list xs)) (h' : σ q = some (.list ys)) (hz : xs.length + ys.length ≤ LIM) (k : alloc (.list (xs ++ ys)) σ K) : binH .Add (.ref p) (.ref q) σ K := ⟨xs, ys, h, h', hz, k⟩
theorem mul_list {p : Addr} {xs : List Value} {j : Int} {t : Tok} (h : σ p = some (.list xs)) (h0 : 0 ≤ j) (h1 : j < 4096) (hz : xs.length ≤ 16) (k : alloc (.list ((List.replicate j.toNat xs).flatten)) σ K) : binH .Mult (.ref p) (.int j t) σ K := ⟨xs, h, h0, h1, hz, k⟩
theorem eq_tup {p q : Addr} {xs ys : List Value} {K1 : Bool → Prop} (h : σ p = some (.tup xs)) (h' : σ q = some (.tup ys)) (e : xs = ys) (hf : xs.all isFlat = true) (k : K1 true) : cmpH .Eq (.ref p) (.ref q) σ K1 := by
  run_tac beginC
  show eqRef false p q σ K1; unfold eqRef; rw [h, h']; exact .inl ⟨e, hf, k⟩
  run_tac endC
theorem ne_tup {p q : Addr} {xs ys : List Value} {K1 : Bool → Prop} (h : σ p = some (.tup xs)) (h' : σ q = some (.tup ys)) (e : xs = ys) (hf : xs.all isFlat = true) (k : K1 false) : cmpH .NotEq (.ref p) (.ref q) σ K1 := by
  run_tac beginC
  show eqRef true p q σ K1; unfold eqRef; rw [h, h']; exact .inl ⟨e, hf, k⟩
  run_tac endC
theorem ne_tup_len {p q : Addr} {xs ys : List Value} {K1 : Bool → Prop} (h : σ p = some (.tup xs)) (h' : σ q = some (.tup ys)) (e : xs.length ≠ ys.length) (hf : xs = [] ∨ ys = []) (k : K1 true) : cmpH .NotEq (.ref p) (.ref q) σ K1 := by
  run_tac beginC
  show eqRef true p q σ K1; unfold eqRef; rw [h, h']; exact .inr ⟨e, hf, k⟩
  run_tac endC
theorem eq_list {p q : Addr} {xs ys : List Value} {K1 : Bool → Prop} (h : σ p = some (.list xs)) (h' : σ q = some (.list ys)) (hf : xs = [] ∨ ys = []) (k : K1 (xs.isEmpty && ys.isEmpty)) : cmpH .Eq (.ref p) (.ref q) σ K1 := by
  run_tac beginC
  show eqRef false p q σ K1; unfold eqRef; rw [h, h']; exact ⟨hf, k⟩
  run_tac endC
theorem ne_list {p q : Addr} {xs ys : List Value} {K1 : Bool → Prop} (h : σ p = some (.list xs)) (h' : σ q = some (.list ys)) (hf : xs = [] ∨ ys = []) (k : K1 (!(xs.isEmpty && ys.isEmpty))) : cmpH .NotEq (.ref p) (.ref q) σ K1 := by
  run_tac beginC
  show eqRef true p q σ K1; unfold eqRef; rw [h, h']; exact ⟨hf, k⟩
  run_tac endC
end

/-! the steps, by the list -/
section
variable {F : Frag} {ex ex' fr : List (Addr × O)} {σ : Store} {a dx C : Addr} {K : KV} {Ks : Store → Prop}
theorem H.norm (h : H ex fr σ) (e : ex = ex') : H ex' fr σ := e ▸ h
theorem Halloc {o : O} (h : H ex fr σ) (q : ∀ a σ', H ((a, o) :: ex) fr σ' → K (.ref a) σ') : alloc o σ K := fun a ha => q a _ (h.new ha)
theorem Hsattr (i j : Nat) {name : Str} {es es' : List (Str × Value)} {u : Value} (h : H ex fr σ) (ei : ex[i]? = some (a, .inst C dx)) (ej : ex[j]? = some (dx, .dict es)) (hi : instOk F C = true) (hb : bareOf F C name = true) (hl : es.length ≤ 100)
    (e : dput es name u = es') (e2 : ex.set j (dx, .dict es') = ex') (q : ∀ σ', H ex' fr σ' → Ks σ') : setAttrH F (.ref a) name u σ Ks :=
  sattr_inst (h.at i ei) (h.at j ej) hi hb hl (q _ ((h.upd j (.dict (dput es name u)) ej).norm (by rw [e, e2])))
theorem Hsattre (i j : Nat) {name : Str} {n : Bool} {es es' : List (Str × Value)} {u : Value} (h : H ex fr σ) (ei : ex[i]? = some (a, .exc C (some dx) n)) (ej : ex[j]? = some (dx, .dict es)) (hi : excOk F C = true) (hb : bareOf F C name = true) (hl : es.length ≤ 100)
    (e : dput es name u = es') (e2 : ex.set j (dx, .dict es') = ex') (q : ∀ σ', H ex' fr σ' → Ks σ') : setAttrH F (.ref a) name u σ Ks :=
  sattr_exc (h.at i ei) (h.at j ej) hi hb hl (q _ ((h.upd j (.dict (dput es name u)) ej).norm (by rw [e, e2])))
theorem Hput_list (i : Nat) {vs vs' : List Value} {k : Int} {t : Tok} {v : Value} (h : H ex fr σ) (ei : ex[i]? = some (a, .list vs)) (h0 : 0 ≤ k) (h1 : k < vs.length) (e : vs.set k.toNat v = vs') (e2 : ex.set i (a, .list vs') = ex') (q : ∀ σ', H ex' fr σ' → Ks σ') : setItemH (.ref a) (.int k t) v σ Ks :=
  puto_list (h.at i ei) h0 h1 (q _ ((h.upd i _ ei).norm (by rw [e, e2])))
theorem Hput_dict (i : Nat) {es es' : List (Str × Value)} {k : Str} {t : Tok} {v : Value} (h : H ex fr σ) (ei : ex[i]? = some (a, .dict es)) (hk : es.length ≤ 100) (e : dput es k v = es') (e2 : ex.set i (a, .dict es') = ex') (q : ∀ σ', H ex' fr σ' → Ks σ') : setItemH (.ref a) (.str k t) v σ Ks :=
  put_dict (h.at i ei) hk (q _ ((h.upd i _ ei).norm (by rw [e, e2])))
end

theorem forH_ind {g : Store → Prop} {bind : Value → Loc → Store → (Loc → Store → Prop) → Prop} {body : Loc → Store → KS → Prop} {K : KS} (I : List Value → Loc → Store → Prop) (hnil : ∀ loc σ, I [] loc σ → g σ ∧ K .next loc σ)
    (hstep : ∀ x xs loc σ (KK : Loc → Store → Prop), I (x :: xs) loc σ → (∀ loc σ, I xs loc σ → KK loc σ) → g σ ∧ bind x loc σ fun loc σ => body loc σ fun fl loc σ => match fl with
      | .next | .cont => KK loc σ
      | .brk => K .next loc σ
      | .ret v => K (.ret v) loc σ) : ∀ xs loc σ, I xs loc σ → forH g bind body xs loc σ K
  | [], loc, σ, h => hnil loc σ h
  | x :: xs, loc, σ, h => hstep x xs loc σ (fun loc σ => forH g bind body xs loc σ K) h fun loc σ h => forH_ind I hnil hstep xs loc σ h
theorem forR {lo hi : Int} {bind : Value → Loc → Store → (Loc → Store → Prop) → Prop} {body : Loc → Store → KS → Prop} {K : KS} (I : Nat → Loc → Store → Prop) {loc : Loc} {σ : Store} (h0 : I 0 loc σ) (hnil : ∀ loc σ, I (hi - lo).toNat loc σ → K .next loc σ)
    (hstep : ∀ (k : Nat) loc σ (KK : Loc → Store → Prop), k < (hi - lo).toNat → I k loc σ → (∀ loc σ, I (k + 1) loc σ → KK loc σ) → bind (vI (lo + (k : Int))) loc σ fun loc σ => body loc σ fun fl loc σ => match fl with
      | .next | .cont => KK loc σ
      | .brk => K .next loc σ
      | .ret v => K (.ret v) loc σ) : forH (fun _ => True) bind body (rangeItems lo hi) loc σ K := by
  run_tac beginC
  refine forH_ind (fun items loc σ => ∃ k, k ≤ (hi - lo).toNat ∧ items = (List.range' k ((hi - lo).toNat - k)).map (fun (i : Nat) => vI (lo + (i : Int))) ∧ I k loc σ) (fun loc σ h => ?_) (fun x xs loc σ KK h hK => ?_) _ _ _ ⟨0, Nat.zero_le _, by unfold rangeItems; rw [List.range_eq_range', Nat.sub_zero], h0⟩
  · obtain ⟨k, hk, e, hI⟩ := h
    refine ⟨trivial, hnil _ _ ?_⟩
    have : (hi - lo).toNat - k = 0 := by
      have := congrArg List.length e
      simpa using this.symm
    have : k = (hi - lo).toNat := by (run_tac Mine.Lin.om)
    rw [← this]; exact hI
  · obtain ⟨k, hk, e, hI⟩ := h
    have hlt : k < (hi - lo).toNat := by
      rcases Nat.lt_or_ge k (hi - lo).toNat with q | q
      · exact q
      · rw [Nat.sub_eq_zero_of_le q] at e; cases e
    have e2 : (hi - lo).toNat - k = ((hi - lo).toNat - (k + 1)) + 1 := by (run_tac Mine.Lin.om)
    rw [e2, List.range'_succ, List.map_cons] at e
    injection e with e3 e4
    refine ⟨trivial, ?_⟩
    rw [e3]
    exact hstep k loc σ KK hlt hI fun loc σ h => hK loc σ ⟨k + 1, hlt, e4, h⟩
  run_tac endC
theorem compH_ind {g : Store → Prop} {bind : Value → Loc → Store → (Loc → Store → Prop) → Prop} {test : Loc → Store → (Bool → Store → Prop) → Prop} {elt : Loc → Store → KV → Prop} {acc : Addr} {K : Store → Prop} (I : List Value → Loc → Store → Prop) (hnil : ∀ loc σ, I [] loc σ → g σ ∧ K σ)
    (hstep : ∀ x xs loc σ (KK : Loc → Store → Prop), I (x :: xs) loc σ → (∀ loc σ, I xs loc σ → KK loc σ) → g σ ∧ bind x loc σ fun loc σ => test loc σ fun b σ => match b with
      | true => elt loc σ fun v σ => ∃ vs, σ acc = some (.list vs) ∧ vs.length < LIM ∧ KK loc (σ.set acc (.list (vs ++ [v])))
      | false => KK loc σ) : ∀ xs loc σ, I xs loc σ → compH g bind test elt acc xs loc σ K
  | [], loc, σ, h => hnil loc σ h
  | x :: xs, loc, σ, h => hstep x xs loc σ (fun loc σ => compH g bind test elt acc xs loc σ K) h fun loc σ h => compH_ind I hnil hstep xs loc σ h

section
variable {F : Frag} {ex ex' fr : List (Addr × O)} {σ : Store} {a : Addr} {K : KV} {vs : List Value}
theorem len_list (h : σ a = some (.list vs)) (q : K (vI (vs.length : Nat)) σ) : builtinH F "len" [.ref a] σ K := by show lenA a σ K; unfold lenA; rw [h]; exact q
theorem len_rlist (h : σ a = some (.rlist vs)) (q : K (vI (vs.length : Nat)) σ) : builtinH F "len" [.ref a] σ K := by show lenA a σ K; unfold lenA; rw [h]; exact q
theorem len_tup (h : σ a = some (.tup vs)) (q : K (vI (vs.length : Nat)) σ) : builtinH F "len" [.ref a] σ K := by show lenA a σ K; unfold lenA; rw [h]; exact q
theorem len_barr {b : Array UInt8} (h : σ a = some (.barr b)) (q : K (vI (b.size : Nat)) σ) : builtinH F "len" [.ref a] σ K := by show lenA a σ K; unfold lenA; rw [h]; exact q
theorem Happ (i : Nat) {vs : List Value} {v : Value} (h : H ex fr σ) (ei : ex[i]? = some (a, .list vs)) (hl : vs.length < LIM) (e2 : ex.set i (a, .list (vs ++ [v])) = ex') (q : ∀ σ', H ex' fr σ' → K .none σ') : builtinH F "list.append" [.ref a, v] σ K :=
  ⟨vs, h.at i ei, hl, q _ ((h.upd i _ ei).norm e2)⟩
/-- octets as Python's numbers -/
noncomputable def bL (us : List UInt8) : List Value := us.map fun u => vI ((u.toNat : Nat) : Int)
theorem intsOf_bL : ∀ us : List UInt8, intsOf (bL us) = some (us.map fun u => ((u.toNat : Nat) : Int))
  | [] => rfl
  | u :: us => by
    show (intsOf (bL us)).map (_ :: ·) = _
    rw [intsOf_bL us]; rfl
theorem bytes_bL {us : List UInt8} (h : σ a = some (.list (bL us))) (q : K (vB us.toArray) σ) : typeH "bytes" [.ref a] σ K := by
  run_tac beginC
  show bytesA a σ K
  unfold bytesA
  rw [h]
  refine ⟨_, intsOf_bL us, fun n hn => ?_, ?_⟩
  · obtain ⟨u, _, rfl⟩ := List.mem_map.mp hn
    have := u.toNat_lt
    (run_tac Mine.Lin.om)
  · rw [List.map_map]
    have : (fun n : Int => n.toNat.toUInt8) ∘ (fun u : UInt8 => ((u.toNat : Nat) : Int)) = id := by
      funext u
      show ((u.toNat : Nat) : Int).toNat.toUInt8 = u
      rw [Int.toNat_natCast]
      exact UInt8.ofNat_toNat
    rw [this, List.map_id]
    exact q
  run_tac endC
theorem bytes_barr {b : Array UInt8} (h : σ a = some (.barr b)) (q : K (vB b) σ) : typeH "bytes" [.ref a] σ K := by
  show bytesA a σ K; unfold bytesA; rw [h]; exact q
theorem Hext (i : Nat) {b c : Array UInt8} {t : Tok} (h : H ex fr σ) (ei : ex[i]? = some (a, .barr b)) (hl : b.size + c.size ≤ LIM) (e2 : ex.set i (a, .barr (b ++ c)) = ex') (q : ∀ σ', H ex' fr σ' → K .none σ') : bextH [.ref a, .bytes c t] σ K := ⟨b, h.at i ei, hl, q _ ((h.upd i _ ei).norm e2)⟩
theorem Happb (i : Nat) {b : Array UInt8} {x : Int} {t : Tok} (h : H ex fr σ) (ei : ex[i]? = some (a, .barr b)) (h0 : 0 ≤ x) (h1 : x < 256) (hl : b.size < LIM) (e2 : ex.set i (a, .barr (b.push x.toNat.toUInt8)) = ex') (q : ∀ σ', H ex' fr σ' → K .none σ') : bappH [.ref a, .int x t] σ K := ⟨b, h.at i ei, h0, h1, hl, q _ ((h.upd i _ ei).norm e2)⟩
end
theorem H.cells1 {ex fr : List (Addr × O)} {σ : Store} {L : Addr} (h : H ex fr σ) (hL : Fresh σ L) (o : O) : H ((L + 1, o) :: ex) fr (σ.set (L + 1) o) := h.new (hL.up (Nat.le_succ _))
theorem H.cells2 {ex fr : List (Addr × O)} {σ : Store} {L : Addr} (h : H ex fr σ) (hL : Fresh σ L) (o o2 : O) : H ((L + 1 + 1, o2) :: (L + 1, o) :: ex) fr ((σ.set (L + 1) o).set (L + 1 + 1) o2) := (h.cells1 hL o).new ((hL.up (Nat.le_add_right L 2)).set (Nat.lt_succ_self _))
theorem H.cells3 {ex fr : List (Addr × O)} {σ : Store} {L : Addr} (h : H ex fr σ) (hL : Fresh σ L) (o o2 o3 : O) : H ((L + 1 + 1 + 1, o3) :: (L + 1 + 1, o2) :: (L + 1, o) :: ex) fr (((σ.set (L + 1) o).set (L + 1 + 1) o2).set (L + 1 + 1 + 1) o3) := (h.cells2 hL o o2).new (((hL.up (Nat.le_add_right L 3)).set (Nat.lt_succ_of_lt (Nat.lt_succ_self _))).set (Nat.lt_succ_self _))
theorem H.cells4 {ex fr : List (Addr × O)} {σ : Store} {L : Addr} (h : H ex fr σ) (hL : Fresh σ L) (o o2 o3 o4 : O) : H ((L + 1 + 1 + 1 + 1, o4) :: (L + 1 + 1 + 1, o3) :: (L + 1 + 1, o2) :: (L + 1, o) :: ex) fr ((((σ.set (L + 1) o).set (L + 1 + 1) o2).set (L + 1 + 1 + 1) o3).set (L + 1 + 1 + 1 + 1) o4) := (h.cells3 hL o o2 o3).new ((((hL.up (Nat.le_add_right L 4)).set (Nat.lt_succ_of_lt (Nat.lt_succ_of_lt (Nat.lt_succ_self _)))).set (Nat.lt_succ_of_lt (Nat.lt_succ_self _))).set (Nat.lt_succ_self _))
theorem H.cells5 {ex fr : List (Addr × O)} {σ : Store} {L : Addr} (h : H ex fr σ) (hL : Fresh σ L) (o o2 o3 o4 o5 : O) : H ((L + 1 + 1 + 1 + 1 + 1, o5) :: (L + 1 + 1 + 1 + 1, o4) :: (L + 1 + 1 + 1, o3) :: (L + 1 + 1, o2) :: (L + 1, o) :: ex) fr (((((σ.set (L + 1) o).set (L + 1 + 1) o2).set (L + 1 + 1 + 1) o3).set (L + 1 + 1 + 1 + 1) o4).set (L + 1 + 1 + 1 + 1 + 1) o5) := (h.cells4 hL o o2 o3 o4).new (((((hL.up (Nat.le_add_right L 5)).set (Nat.lt_succ_of_lt (Nat.lt_succ_of_lt (Nat.lt_succ_of_lt (Nat.lt_succ_self _))))).set (Nat.lt_succ_of_lt (Nat.lt_succ_of_lt (Nat.lt_succ_self _)))).set (Nat.lt_succ_of_lt (Nat.lt_succ_self _))).set (Nat.lt_succ_self _))
/-- a cell filled -/
theorem Hcell (i : Nat) {ex ex' fr : List (Addr × O)} {σ : Store} {a : Addr} {v : Value} {u : Option Value} {Ks : Store → Prop} (h : H ex fr σ) (ei : ex[i]? = some (a, .cell u)) (e2 : ex.set i (a, .cell (some v)) = ex') (q : ∀ σ', H ex' fr σ' → Ks σ') : ∃ u, σ a = some (.cell u) ∧ Ks (σ.set a (.cell (some v))) := ⟨u, h.at i ei, q _ ((h.upd i _ ei).norm e2)⟩
theorem Hcomp (i : Nat) {ex ex' fr : List (Addr × O)} {σ : Store} {a : Addr} {v : Value} {vs : List Value} {Ks : Store → Prop} (h : H ex fr σ) (ei : ex[i]? = some (a, .list vs)) (hl : vs.length < LIM) (e2 : ex.set i (a, .list (vs ++ [v])) = ex') (q : ∀ σ', H ex' fr σ' → Ks σ') : ∃ vs, σ a = some (.list vs) ∧ vs.length < LIM ∧ Ks (σ.set a (.list (vs ++ [v]))) := ⟨vs, h.at i ei, hl, q _ ((h.upd i _ ei).norm e2)⟩
end Mine
end

section
open PySem PySem.W PyProof.Rows
open Lean Meta Elab Tactic
namespace Mine

/-! `hl` steps the goal to the next reading of the store; `kr` closes an equation by the kernel's own evaluation -/

def kwhnf (e : Lean.Expr) : MetaM Lean.Expr := do
  let e ← instantiateMVars e
  if e.hasExprMVar then whnf e else
  match Kernel.whnf (← getEnv) (← getLCtx) e with
  | .ok r => return r
  | .error _ => whnf e

def stopC : List Name := [``And, ``Or, ``Exists, ``Eq, ``True, ``False, ``Fresh, ``LE.le, ``LT.lt, ``Not, ``Iff, ``callD, ``callI, ``forH, ``compH, ``alloc]
def opsC : List Name := [``getItemH, ``getSliceH, ``setItemH, ``binH, ``cmpH, ``getAttrH, ``setAttrH, ``iterH, ``seqH, ``fieldH, ``methH, ``bappH, ``bextH, ``builtinH, ``typeH]

def isCtorApp' (e : Lean.Expr) : MetaM Bool := do
  let f := e.getAppFn
  if f.isConst then return (← getEnv).isConstructor f.constName!
  return f.isLit

def numeral? (n : Lean.Expr) : Option Nat := if n.isAppOfArity ``OfNat.ofNat 3 then n.getAppArgs[1]!.rawNatLit? else n.rawNatLit?

/-- the evaluator's parts -/
def evPart? (e : Lean.Expr) : MetaM (Option Lean.Expr) := do
  let f := e.getAppFn
  let .const c _ := f | return none
  unless c == ``Ev.E || c == ``Ev.T || c == ``Ev.As || c == ``Ev.S do return none
  let args := e.getAppArgs
  let some r := args[0]? | return none
  let rf := r.getAppFn
  let .const rc _ := rf | return none
  let ra := r.getAppArgs
  let rest := args.extract 1 args.size
  if rc == ``ev then
    unless ra.size == 4 do return none
    let (F, G, cf) := (ra[0]!, ra[1]!, ra[2]!)
    let k := (numeral? ra[3]!).getD 0
    if k == 0 then return none
    let r' := mkAppN rf #[F, G, cf, mkNatLit (k - 1)]
    if c == ``Ev.E then return some (mkAppN (.const ``stepE []) (#[F, G, cf, r'] ++ rest))
    else if c == ``Ev.T then return some (mkAppN (.const ``stepT []) (#[r'] ++ rest))
    else if c == ``Ev.As then return some (mkAppN (.const ``stepA []) (#[F, r'] ++ rest))
    else return some (mkAppN (.const ``stepS []) (#[F, G, r'] ++ rest))
  else if rc == ``evI then
    unless ra.size == 5 do return none
    let (F, G, cf, cfI) := (ra[0]!, ra[1]!, ra[2]!, ra[3]!)
    let k := (numeral? ra[4]!).getD 0
    if k == 0 then return none
    let rI := mkAppN rf #[F, G, cf, cfI, mkNatLit (k - 1)]
    let rP := mkAppN (.const ``ev []) #[F, G, cf, mkNatLit (k - 1)]
    if c == ``Ev.T then return some (mkAppN (.const ``stepT []) (#[rP] ++ rest))
    else if c == ``Ev.As then return some (mkAppN (.const ``stepA []) (#[F, rP] ++ rest))
    else if c == ``Ev.E then
      let b ← kwhnf (mkApp (mkConst ``isIE) rest[1]!)
      if b.isConstOf ``Bool.true then return some (mkAppN (.const ``stepE []) (#[F, G, cfI, rI] ++ rest))
      else return some (mkAppN (.const ``stepE []) (#[F, G, cf, rP] ++ rest))
    else
      let b ← kwhnf (mkApp (mkConst ``isIS) rest[1]!)
      if b.isConstOf ``Bool.true then return some (mkAppN (.const ``stepS []) (#[F, G, rI] ++ rest))
      else return some (mkAppN (.const ``stepS []) (#[F, G, rP] ++ rest))
  else return none

def pred? (n : Lean.Expr) : Option Lean.Expr :=
  if n.isAppOfArity ``HAdd.hAdd 6 then
    let k := (numeral? n.appArg!).getD 0
    if k == 0 then none else if k == 1 then some n.appFn!.appArg! else some (mkApp n.appFn! (mkNatLit (k - 1)))
  else none
/-- calls of what is built in are opened -/
def callPart? (e : Lean.Expr) : MetaM (Option Lean.Expr) := do
  let .const c _ := e.getAppFn | return none
  if c == ``callD then
    let args := e.getAppArgs
    unless args.size == 8 do return none
    let f ← kwhnf args[3]!
    unless f.isAppOf ``PySem.Value.builtin || f.isAppOf ``PySem.Value.type do return none
    let some n := pred? args[2]! | return none
    return some (mkAppN (.const ``callStep []) #[args[0]!, args[1]!, mkAppN e.getAppFn #[args[0]!, args[1]!, n], f, args[4]!, args[5]!, args[6]!, args[7]!])
  else if c == ``callI then
    let args := e.getAppArgs
    unless args.size == 9 do return none
    let f ← kwhnf args[4]!
    unless f.isAppOf ``PySem.Value.builtin || f.isAppOf ``PySem.Value.type do return none
    let some n := pred? args[3]! | return none
    return some (mkAppN (.const ``callStepI []) #[args[0]!, args[1]!, args[2]!, mkAppN (.const ``callD []) #[args[0]!, args[1]!, n], mkAppN e.getAppFn #[args[0]!, args[1]!, args[2]!, n], f, args[5]!, args[6]!, args[7]!, args[8]!])
  else return none

def knormList : Nat → Lean.Expr → MetaM Lean.Expr
  | 0, e => return e
  | n + 1, e => do
  let e ← kwhnf e
  if e.isAppOfArity ``List.cons 3 then
    let a := e.appFn!.appArg!
    let a ← kwhnf a
    let a ← (if a.isAppOfArity ``Prod.mk 4 then do
      let x ← whnfCore a.appFn!.appArg!
      return mkApp (mkApp a.appFn!.appFn! x) (← whnfCore a.appArg!)
      else return a)
    return mkApp (mkApp e.appFn!.appFn! a) (← knormList n e.appArg!)
  else return e

def hdelta? (e : Lean.Expr) (c : Name) (_ls : List Level) : MetaM (Option Lean.Expr) := do
  -- structural recursions: force the arguments that steer
  let steer : List Nat := if c == ``Ev.Ss then [2] else if c == ``Ev.Es then [4] else if c == ``Ev.AsAll then [3, 4] else if c == ``storeAll then [1, 2] else if c == ``pairsH then [4, 5] else if c == ``joinH then [4] else if c == ``handH then [8] else if c == ``simpEs then [5] else []
  let mut args := e.getAppArgs
  for i in steer do
    if h : i < args.size then
      args := args.set! i (← kwhnf args[i])
  let e := mkAppN e.getAppFn args
  match ← unfoldDefinition? e with
  | some e' => return some e'.headBeta
  | none => return none
def hstuck (r : Lean.Expr) : MetaM Bool := do
  match r.getAppFn with
  | .const c _ => return (← getMatcherInfo? c).isSome || (c.isStr && (c.getString! == "casesOn" || c.getString! == "rec"))
  | _ => return false

def hred : Nat → Lean.Expr → MetaM Lean.Expr
  | 0, e => return e
  | fuel + 1, e => do
  let e := (← instantiateMVars e).headBeta
  let f := e.getAppFn
  if f.isMData || f.isLambda then return ← hred fuel (f.consumeMData.beta e.getAppArgs)
  match e with
  | .forallE .. => return e
  | .letE .. => hred fuel (e.letBody!.instantiate1 e.letValue!)
  | .mdata _ b => hred fuel b
  | _ =>
  if let some e' ← evPart? e then return ← hred fuel e'
  if let some e' ← callPart? e then return ← hred fuel e'
  match e.getAppFn with
  | .const c ls =>
    if stopC.contains c then return e
    if c == ``Ev.Es || c == ``Ev.Ss then
      let k := if c == ``Ev.Es then 4 else 2
      let args := e.getAppArgs
      if h : k < args.size then
        let l ← kwhnf args[k]
        let e' := mkAppN e.getAppFn (args.set! k l)
        if l.isAppOfArity ``List.cons 3 then return e'
        else
          match ← unfoldDefinition? e' with
          | some e2 => return ← hred fuel e2.headBeta
          | none => return e'
    if c == ``builtinH then
      if let some x := e.getAppArgs[1]? then
        if x == mkStrLit "max" then return e
    if let some info ← getMatcherInfo? c then
      let mut args := e.getAppArgs
      if args.size < info.arity then return e
      for i in [info.getFirstDiscrPos : info.getFirstDiscrPos + info.numDiscrs] do
        let d := args[i]!
        unless ← isCtorApp' d do
          let d' ← kwhnf d
          let d' ← (if d.isAppOf ``bindF && d'.isAppOfArity ``Option.some 2 then do return mkApp d'.appFn! (← knormList 1000 d'.appArg!) else return d')
          args := args.set! i d'
      let e' := mkAppN e.getAppFn args
      match ← reduceMatcher? e' with
      | .reduced r => return ← hred fuel r
      | _ =>
        -- nested discriminants: evaluate one level down
        let mut args2 := args
        for i in [info.getFirstDiscrPos : info.getFirstDiscrPos + info.numDiscrs] do
          let d := args2[i]!
          if ← isCtorApp' d then
            let ds ← d.getAppArgs.mapM fun a => do
              let ty ← inferType a
              if ty.isSort then return a
              if ← isProp ty then return a
              if (← isCtorApp' a) || a.isFVar || a.isLambda then return a else
                let a' ← kwhnf a
                if ← isCtorApp' a' then return a' else return a
            args2 := args2.set! i (mkAppN d.getAppFn ds)
        let e'' := mkAppN e.getAppFn args2
        match ← reduceMatcher? e'' with
        | .reduced r => return ← hred fuel r
        | _ =>
          -- last: let the kernel see all
          let k ← kwhnf e''
          if k.getAppFn.isConst && (← getMatcherInfo? k.getAppFn.constName!).isNone && !(k.getAppFn.constName!.isStr && k.getAppFn.constName!.getString! == "casesOn") && !(k.getAppFn.constName!.isStr && k.getAppFn.constName!.getString! == "rec") then return ← hred fuel k
          if args.any (fun a => a.isApp && a.getAppFn.isFVar && a.getAppNumArgs == 1) then return e'
          return e
    -- a definition
    if let some pinfo ← getProjectionFnInfo? c then
      let args := e.getAppArgs
      if args.size > pinfo.numParams then
        let s ← kwhnf args[pinfo.numParams]!
        if ← isCtorApp' s then
          return ← hred fuel (mkAppN (s.getAppArgs[pinfo.numParams + pinfo.i]!) (args.extract (pinfo.numParams + 1) args.size))
      return e
    if opsC.contains c then
      let K := e.appArg!
      let r ← withLocalDeclD `k (← inferType K) fun k => do
        match ← hdelta? (mkApp e.appFn! k) c ls with
        | some e' =>
          let r ← hred fuel e'
          let stuck ← hstuck r
          if stuck || r.isAppOf ``Exists || r.isAppOf ``Or then return none else return some (r.replaceFVar k K)
        | none => return none
      match r with
      | some r => return ← hred fuel r
      | none => return e
    match ← hdelta? e c ls with
    | some e' => return ← hred fuel e'
    | none => return e
  | _ => return e
theorem Es_cons {r : Ev} {env : Env} {loc : Loc} {X : KX} {e : PySem.Expr} {es : List PySem.Expr} {σ : Store} {K : List Value → Store → Prop} : r.Es env loc X (e :: es) σ K = r.E env e loc σ (fun v σ => r.Es env loc X es σ fun vs σ => K (v :: vs) σ) X := rfl
theorem Ss_cons {r : Ev} {env : Env} {s : Stmt} {ss : List Stmt} {loc : Loc} {σ : Store} {K : KS} {X : KXL} : r.Ss env (s :: ss) loc σ K X = r.S env s loc σ (fun fl loc σ => match fl with | .next => r.Ss env ss loc σ K X | fl => K fl loc σ) X := rfl

/-- a closed condition, decided by the kernel -/
def decided? (p : Lean.Expr) : MetaM (Option Lean.Expr) := do
  let p := (← instantiateMVars p).headBeta
  if p.hasExprMVar then return none
  try
    let d ← mkDecide p
    let r ← kwhnf d
    if r.isConstOf ``Bool.true then
      let inst := d.appArg!
      return some (mkApp3 (mkConst ``of_decide_eq_true) p inst (mkApp2 (mkConst ``Eq.refl [1]) (mkConst ``Bool) (mkConst ``Bool.true)))
    else return none
  catch _ => return none

/-- what ends in Prop: a continuation -/
def isCont (a : Lean.Expr) : MetaM Bool := do
  if a.isFVar then return false
  let ty ← whnfR (← inferType a)
  if !ty.isForall then return false
  forallTelescopeReducing ty fun _ b => return b.isProp

/-- one segment: the continuations hidden -/
def segStep (g : MVarId) : MetaM (Option MVarId) := g.withContext do
  let t := (← instantiateMVars (← g.getType)).headBeta.consumeMData
  let f := t.getAppFn
  let args := t.getAppArgs
  let mut idx : Array Nat := #[]
  if f.isConst && !stopC.contains f.constName! then
    for i in [0:args.size] do
      if ← isCont args[i]! then idx := idx.push i
  let vals := idx.map (args[·]!)
  let decls ← idx.mapM fun i => do
    let ty ← inferType args[i]!
    return ((`k : Name), fun (_ : Array Lean.Expr) => (pure ty : MetaM Lean.Expr))
  let res ← withLocalDeclsD decls fun ks => do
    let mut args' := args
    for (i, k) in idx.zip ks do args' := args'.set! i k
    let tk := mkAppN f args'
    let rk ← hred 1000000 tk
    if rk == tk then return (none : Option (Lean.Expr × Lean.Expr))
    let lam ← withLocalDeclD `h rk fun h => do mkLambdaFVars (ks.push h) (← mkExpectedTypeHint h tk)
    return some ((rk.replaceFVars ks vals).headBeta, lam)
  match res with
  | some (r, lam) =>
    let g' ← mkFreshExprSyntheticOpaqueMVar r (← g.getTag)
    g.assign (mkAppN lam (vals.push g'))
    return some g'.mvarId!
  | none => return none

def hlT : TacticM Unit := do
  let mut go := true
  while go do
    let mut g0 ← getMainGoal
    go := false
    while true do
      match ← segStep g0 with
      | some g' => g0 := g'
      | none => break
    let t ← g0.withContext do return (← instantiateMVars (← g0.getType)).headBeta.consumeMData
    let g ← g0.replaceTargetDefEq t
    replaceMainGoal [g]
    if t.isAppOf ``Ev.Es || t.isAppOf ``Ev.Ss then
      let c := if t.isAppOf ``Ev.Es then ``Es_cons else ``Ss_cons
      let g' ← g.withContext do
        let pr ← mkConstWithFreshMVarLevels c
        let (ms, _, ty) ← forallMetaTelescope (← inferType pr)
        let some (_, l, r) := ty.eq? | throwError "hl: no equation"
        unless ← withReducible (isDefEq l t) do throwError "hl: no list"
        g.replaceTargetEq (← instantiateMVars r) (← instantiateMVars (mkAppN pr ms))
      replaceMainGoal [g']
      go := true
      continue
    if t.isAppOfArity ``And 2 then
      let p := t.appFn!.appArg!
      if let some pr ← g.withContext (decided? p) then
        let q := t.appArg!
        let g' ← g.withContext (mkFreshExprSyntheticOpaqueMVar q)
        g.assign (mkApp4 (mkConst ``And.intro) p q pr g')
        replaceMainGoal [g'.mvarId!]
        go := true

/-- an equation, by evaluation -/
def krT : TacticM Unit := do
  let g ← getMainGoal
  g.withContext do
    let t ← instantiateMVars (← g.getType)
    let some (ty, l, r) := t.eq? | throwError "kr: no equation"
    let l' ← kwhnf l
    let l' ← if l'.isAppOfArity ``Option.some 2 then do pure (mkApp l'.appFn! (← kwhnf l'.appArg!)) else if ty.isAppOf ``List then knormList 1000 l' else pure l'
    unless ← isDefEq l' r do throwError "kr: {l'} is not {r}"
    let u ← getLevel ty
    g.assign (← mkExpectedTypeHint (mkApp2 (mkConst ``Eq.refl [u]) ty l') (← instantiateMVars t))
  replaceMainGoal []

def cellSets : Nat → Lean.Expr → Lean.Expr → Lean.Expr → Lean.Expr → MetaM Lean.Expr
  | 0, _, _, _, σ => return σ
  | n + 1, sc, binds, cells, σ => do
  let cells ← kwhnf cells
  if cells.isAppOfArity ``List.cons 3 then
    let p ← kwhnf cells.appFn!.appArg!
    let x := p.appFn!.appArg!
    let c := p.appArg!
    let rest ← cellSets n sc binds cells.appArg! σ
    let k ← mkAppM ``kindIn #[sc]
    let none ← mkAppOptM ``Option.none #[some (mkConst ``PySem.Value)]
    let none := Lean.mkLambda `y .default (mkConst ``PySem.Str) none
    let v ← kwhnf (← mkAppM ``bindC #[k, binds, none, x])
    let v ← if v.isAppOfArity ``Option.some 2 then pure (mkApp v.appFn! (← kwhnf v.appArg!)) else pure v
    return mkApp3 (mkConst ``Store.set) rest c (mkApp (mkConst ``O.cell) v)
  else return σ

/-- a new frame: the place of its names, and its cells -/
def hinT (L hL : Name) : TacticM Unit := do
  evalTactic (← `(tactic| intro $(mkIdent L):ident $(mkIdent hL):ident))
  let g ← getMainGoal
  g.withContext do
    let t ← instantiateMVars (← g.getType)
    let some e := t.find? (fun e => e.isAppOfArity ``cellStore 4) | return
    let args := e.getAppArgs
    let e' ← cellSets 100 args[0]! args[1]! args[2]! args[3]!
    let t' := t.replace fun x => if x == e then some e' else none
    let g' ← g.replaceTargetDefEq t'
    replaceMainGoal [g']
  hlT

/-- a branch -/
def hcaseT (h : Name) : TacticM Unit := do
  let g ← getMainGoal
  let gs ← g.withContext do
    let t := (← instantiateMVars (← g.getType)).consumeMData
    let .const c _ := t.getAppFn | throwError "hcase: no branch {t.getAppFn.ctorName} {t.ctorName}"
    let some info ← getMatcherInfo? c | throwError "hcase: no branch: {c}"
    let args := t.getAppArgs
    let mut d? : Option Lean.Expr := none
    for i in [info.getFirstDiscrPos : info.getFirstDiscrPos + info.numDiscrs] do
      let d := args[i]!
      if d?.isNone then
        unless ← isCtorApp' d do d? := some d
    let some d := d? | throwError "hcase: no part"
    let (fs, g) ← g.generalize #[{ expr := d, xName? := some `tt, hName? := some h }]
    let ss ← g.cases fs[0]!
    return ss.toList.map (·.mvarId)
  replaceMainGoal gs

/-- a closed condition -/
def kdT : TacticM Unit := do
  let g ← getMainGoal
  g.withContext do
    let some pr ← decided? (← g.getType) | throwError "kd: not decided"
    g.assign pr
  replaceMainGoal []

/-- the left side, evaluated -/
def klT : TacticM Unit := do
  let g ← getMainGoal
  let t' ← g.withContext do
    let t ← instantiateMVars (← g.getType)
    let some (_, l, r) := t.eq? | throwError "kl: no equation"
    return mkApp2 t.appFn!.appFn! (← kwhnf l) r
  let g' ← g.replaceTargetDefEq t'
  replaceMainGoal [g']
/-- one turn of a loop whose items are at hand -/
def hturnT : TacticM Unit := do
  let g ← getMainGoal
  let t' ← g.withContext do
    let t := (← instantiateMVars (← g.getType)).consumeMData
    let .const c _ := t.getAppFn | throwError "hturn: no loop"
    let k := if c == ``compH then 5 else 3
    unless c == ``compH || c == ``forH do throwError "hturn: no loop {c}"
    let args := t.getAppArgs
    let args := args.set! k (← kwhnf args[k]!)
    let t := mkAppN t.getAppFn args
    let some t' ← unfoldDefinition? t | throwError "hturn: no unfolding"
    return t'
  let g' ← g.replaceTargetDefEq t'
  replaceMainGoal [g']
  hlT
/-- the store behind a fact, named -/
def gsT (h s : Name) : TacticM Unit := do
  let g ← getMainGoal
  let g' ← g.withContext do
    let hv ← getLocalDeclFromUserName h
    let t ← instantiateMVars hv.type
    let st := t.appArg!
    let (_, _, g') ← g.generalizeHyp #[{ expr := st, xName? := some s }] #[hv.fvarId]
    return g'
  replaceMainGoal [g']
/-- the store turned, as the goal says -/
def hsetT (h : Name) (i : Nat) (s h' : Name) : TacticM Unit := do
  let g ← getMainGoal
  g.withContext do
    let hv ← getLocalDeclFromUserName h
    let st := (← instantiateMVars hv.type).appArg!
    let t ← instantiateMVars (← g.getType)
    let some e := t.find? (fun e => e.isAppOfArity ``Store.set 3 && e.getAppArgs[0]! == st) | throwError "hset: no turn"
    let o ← Term.exprToSyntax e.appArg!
    evalTactic (← `(tactic| have $(mkIdent h'):ident := H.norm (H.upd $(quote i) $o $(mkIdent h):ident rfl) (by run_tac krT)))
  -- the goal's own turn, named
  let g ← getMainGoal
  let g' ← g.withContext do
    let hv ← getLocalDeclFromUserName h
    let st := (← instantiateMVars hv.type).appArg!
    let t ← instantiateMVars (← g.getType)
    let some e := t.find? (fun e => e.isAppOfArity ``Store.set 3 && e.getAppArgs[0]! == st) | throwError "hset: no turn"
    let hv' ← getLocalDeclFromUserName h'
    let (_, _, g') ← g.generalizeHyp #[{ expr := e, xName? := some s }] #[hv'.fvarId]
    return g'
  replaceMainGoal [g']
  hlT
end Mine
end

section
open PySem PySem.W PyProof.Rows
set_option maxRecDepth 100000
namespace Mine

noncomputable def GL : List (PySem.Str × Value) := [(S "PressError", .ref cPressError), (S "BadBlock", .ref cBadBlock), (S "BadDistance", .ref cBadDistance), (S "BadSequence", .ref cBadSequence), (S "BadSize", .ref cBadSize), (S "TooLarge", .ref cTooLarge), (S "NeedsDictionary", .ref cNeedsDictionary), (S "WrongDictionary", .ref cWrongDictionary),
  (S "FrameHeader", .ref cFrameHeader), (S "BlockHead", .ref cBlockHead), (S "Dictionary", .ref cDictionary), (S "FrameState", .ref cFrameState), (S "Tables", .ref cTables), (S "Offsets", .ref cOffsets), (S "pick_dictionary", .ref fpick_dictionary),
  (S "_law_box", .ref f_law_box), (S "_law_take", .ref f_law_take), (S "_law_word", .ref f_law_word), (S "_law_books", .ref f_law_books), (S "_law_picked", .ref f_law_picked), (S "_law_meant", .ref f_law_meant), (S "_law_played", .ref f_law_played), (S "_law_rows", .ref f_law_rows), (S "_law_block", .ref f_law_block), (S "_law_deed_right", .ref f_law_deed_right),
  (S "len", .builtin "len"), (S "abs", .builtin "abs"), (S "min", .builtin "min"), (S "max", .builtin "max"), (S "range", .type "range"), (S "bytes", .type "bytes"), (S "tuple", .type "tuple"), (S "int", .type "int"), (S "bytearray", .type "bytearray"), (S "ValueError", .type "ValueError"),
  (S "RUN", .int 1 0), (S "RESERVED", .int 3 0), (S "RAW_zframe", .int 0 0)]
noncomputable def GG : PySem.Str → Option Value := fun x => GL.lookup x

section
variable {P : Params} {σ : Store} {fr : List (Addr × O)} {K : KV} {X : KX} {d : Nat}

theorem small_lt {i : Int} (h0 : 0 ≤ i) (h : i < 2 ^ 60) : small i := by
  run_tac beginC
  unfold small
  have : i.natAbs < 2 ^ 60 := by (run_tac Mine.Lin.om)
  exact Nat.lt_of_lt_of_le this (Nat.pow_le_pow_right (by decide) (by decide))
  run_tac endC

theorem take_ok {b : Addr} {w n m : Int} (h : H [(b, .list [vI w, vI n])] fr σ) (hw : 0 ≤ w) (hn : 0 ≤ n) (hN : n < 2 ^ 40) (hm : 0 < m) (hm' : m < 2 ^ 40)
    (q : ∀ t w' σ', 0 ≤ t → t < m → 0 ≤ w' → H [(b, .list [vI w', vI (n + 1)])] fr σ' → K (vI t) σ') : callD (K0 P) GG (d + 1) (.ref f_law_take) [.ref b, vI m] σ K X := by
  run_tac beginC
  show callStep (K0 P) GG (callD (K0 P) GG d) (.ref f_law_take) [.ref b, vI m] σ K X
  generalize callD (K0 P) GG d = cf
  (run_tac hlT)
  (run_tac hinT `L `hL)
  refine item_list (h.at 0 rfl) (by decide) rfl ?_
  (run_tac hlT)
  refine puto_list (h.at 0 rfl) (by decide) (by simp) ?_
  have h1 := h.upd 0 (.list [vI w, vI (n + 1)]) rfl
  (run_tac hlT)
  refine item_list (h1.at 0 rfl) (by decide) rfl ?_
  (run_tac hlT)
  (run_tac hcaseT `hw0)
  · (run_tac hlT)
    refine item_list (h1.at 0 rfl) (by decide) rfl ?_
    (run_tac hlT)
    have hw0 : ¬ w = 0 := of_decide_eq_false hw0
    refine ⟨hm, ?_⟩
    (run_tac hlT)
    refine item_list (h1.at 0 rfl) (by decide) rfl ?_
    (run_tac hlT)
    refine ⟨hm, small_lt (by (run_tac Mine.Lin.om)) (by (run_tac Mine.Lin.om)), ?_⟩
    (run_tac hlT)
    refine puto_list (h1.at 0 rfl) (by decide) (by simp) ?_
    have h2 := h1.upd 0 (.list [vI (w / m), vI (n + 1)]) rfl
    (run_tac hlT)
    exact q _ _ _ (Int.emod_nonneg _ (by (run_tac Mine.Lin.om))) (Int.emod_lt_of_pos _ hm) (Int.ediv_nonneg hw (by (run_tac Mine.Lin.om))) h2
  · (run_tac hlT)
    refine item_list (h1.at 0 rfl) (by decide) rfl ?_
    (run_tac hlT)
    refine ⟨small_lt (by (run_tac Mine.Lin.om)) (by (run_tac Mine.Lin.om)), small_lt (by (run_tac Mine.Lin.om)) (by (run_tac Mine.Lin.om)), ?_⟩
    (run_tac hlT)
    refine item_list (h1.at 0 rfl) (by decide) rfl ?_
    (run_tac hlT)
    refine ⟨small_lt (by (run_tac Mine.Lin.om)) (by (run_tac Mine.Lin.om)), small_lt (by (run_tac Mine.Lin.om)) (by (run_tac Mine.Lin.om)), ?_⟩
    (run_tac hlT)
    refine item_list (h1.at 0 rfl) (by decide) rfl ?_
    (run_tac hlT)
    refine ⟨small_lt (by (run_tac Mine.Lin.om)) (by (run_tac Mine.Lin.om)), small_lt (by (run_tac Mine.Lin.om)) (by (run_tac Mine.Lin.om)), ?_⟩
    (run_tac hlT)
    refine ⟨hm, ?_⟩
    (run_tac hlT)
    exact q _ _ _ (Int.emod_nonneg _ (by (run_tac Mine.Lin.om))) (Int.emod_lt_of_pos _ hm) hw h1
  run_tac endC
end
end Mine
end

section
open PySem PySem.W PyProof.Rows
set_option maxRecDepth 100000
namespace Mine

section
variable {F : Frag} {σ : Store} {a : Addr}
theorem meth_inst {K : Value → List Value → Prop} {C dx f : Addr} {es : List (PySem.Str × Value)} {name : PySem.Str} (h : σ a = some (.inst C dx)) (hd : σ dx = some (.dict es)) (hl : es.lookup name = none) (hi : instOk F C = true) (hm : methOf F C name = some f) (hf : isFn F (.ref f) = true) (q : K (.ref f) [.ref a]) : methH F (.ref a) name σ K := by
  run_tac beginC
  refine .inr ?_
  simp only [h]
  refine ⟨es, hd, hl, hi, ?_⟩
  simp only [hm]
  exact ⟨hf, q⟩
  run_tac endC
theorem meth_cls {K : Value → List Value → Prop} {f : Addr} {cd : ClassData} {name : PySem.Str} (hc : clsIn F a = some cd) (hf : findCls F (.ref a) (.type "type") name = some (.val (.ref f))) (hr : readsIn F a (.type "type") = true) (q : K (.ref f) []) : methH F (.ref a) name σ K := by
  run_tac beginC
  refine .inl ?_
  simp only [hc, hf]
  exact ⟨hr, q⟩
  run_tac endC
theorem meth_app {K : Value → List Value → Prop} {vs : List Value} (h : σ a = some (.list vs)) (q : K (.builtin "list.append") [.ref a]) : methH F (.ref a) (S "append") σ K := by
  run_tac beginC
  refine .inr ?_
  simp only [h]
  exact ⟨trivial, q⟩
  run_tac endC
theorem meth_bapp {K : Value → List Value → Prop} {b : Array UInt8} (h : σ a = some (.barr b)) (q : K (.builtin "bytearray.append") [.ref a]) : methH F (.ref a) (S "append") σ K := by
  run_tac beginC
  refine .inr ?_
  simp only [h]
  exact .inl ⟨trivial, q⟩
  run_tac endC
theorem meth_bext {K : Value → List Value → Prop} {b : Array UInt8} (h : σ a = some (.barr b)) (q : K (.builtin "bytearray.extend") [.ref a]) : methH F (.ref a) (S "extend") σ K := by
  run_tac beginC
  refine .inr ?_
  simp only [h]
  exact .inr ⟨trivial, q⟩
  run_tac endC
end

section
variable {P : Params} {σ : Store} {fr : List (Addr × O)} {K : KV} {X : KX} {d : Nat}

theorem verr_ok {x C : Addr} {dx : Option Addr} {n : Bool} {s : PySem.Str} (h : H [(x, .exc C dx n)] fr σ) (hC : excOk (K0 P) C = true) (q : K .none σ) : builtinH (K0 P) "ValueError.__init__" [.ref x, vS s] σ K :=
  ⟨C, dx, n, h.at 0 rfl, hC, q⟩

theorem perr_ok {x C : Addr} {s : PySem.Str} (h : H [(x, .exc C none true)] fr σ) (hC : excOk (K0 P) C = true) (hb : bareOf (K0 P) C (S "reason") = true)
    (q : ∀ dx σ', H [(dx, .dict [(S "reason", vS s)]), (x, .exc C (some dx) true)] fr σ' → K .none σ') : callD (K0 P) GG (d + 2) (.ref fPressError_init) [.ref x, vS s] σ K X := by
  run_tac beginC
  show callStep (K0 P) GG (callD (K0 P) GG (d + 1)) _ _ _ _ _
  (run_tac hlT)
  (run_tac hinT `L `hL)
  refine verr_ok h hC ?_
  (run_tac hlT)
  refine sattr_exc0 (h.at 0 rfl) hC hb fun dx hdx => ?_
  (run_tac hlT)
  have h1 := h.new (o := .dict []) hdx
  have h2 := h1.upd 1 (.exc C (some dx) true) rfl
  have h3 := h2.upd 0 (.dict [(S "reason", vS s)]) rfl
  exact q _ _ h3
  run_tac endC
end
end Mine
end

section
open PySem PySem.W PyProof.Rows
set_option maxRecDepth 100000
namespace Mine

section
variable {P : Params} {σ : Store} {fr : List (Addr × O)} {K : KV} {X : KX} {d : Nat}

theorem badBlock_ok {s : PySem.Str} (h : H [] fr σ) (q : ∀ x dx σ', H [(x, .exc cBadBlock (some dx) true), (dx, .dict [(S "reason", vS s)])] fr σ' → K (.ref x) σ') : callD (K0 P) GG (d + 3) (.ref cBadBlock) [vS s] σ K X := by
  run_tac beginC
  show callStep (K0 P) GG (callD (K0 P) GG (d + 2)) _ _ _ _ _
  (run_tac hlT)
  intro x hx
  refine perr_ok (h.new hx) (by kernel_rfl) (by kernel_rfl) fun dx σ' h' => ?_
  exact ⟨rfl, q x dx σ' (h'.pick [1, 0])⟩
  run_tac endC
theorem badDistance_ok {s : PySem.Str} (h : H [] fr σ) (q : ∀ x dx σ', H [(x, .exc cBadDistance (some dx) true), (dx, .dict [(S "reason", vS s)])] fr σ' → K (.ref x) σ') : callD (K0 P) GG (d + 3) (.ref cBadDistance) [vS s] σ K X := by
  run_tac beginC
  show callStep (K0 P) GG (callD (K0 P) GG (d + 2)) _ _ _ _ _
  (run_tac hlT)
  intro x hx
  refine perr_ok (h.new hx) (by kernel_rfl) (by kernel_rfl) fun dx σ' h' => ?_
  exact ⟨rfl, q x dx σ' (h'.pick [1, 0])⟩
  run_tac endC
theorem badSequence_ok {s : PySem.Str} (h : H [] fr σ) (q : ∀ x dx σ', H [(x, .exc cBadSequence (some dx) true), (dx, .dict [(S "reason", vS s)])] fr σ' → K (.ref x) σ') : callD (K0 P) GG (d + 3) (.ref cBadSequence) [vS s] σ K X := by
  run_tac beginC
  show callStep (K0 P) GG (callD (K0 P) GG (d + 2)) _ _ _ _ _
  (run_tac hlT)
  intro x hx
  refine perr_ok (h.new hx) (by kernel_rfl) (by kernel_rfl) fun dx σ' h' => ?_
  exact ⟨rfl, q x dx σ' (h'.pick [1, 0])⟩
  run_tac endC

noncomputable def tlong (i : Int) : Prop := i.natAbs < 10 ^ 12
theorem tooLarge_ok {s : PySem.Str} {i j : Int} (h : H [] fr σ) (hs : s.length ≤ 100) (hi : tlong i) (hj : tlong j) (q : ∀ x dx r σ', H [(x, .exc cTooLarge (some dx) true), (dx, .dict [(S "reason", r), (S "kind", vS s), (S "size", vI i), (S "most", vI j)])] fr σ' → K (.ref x) σ') :
    callD (K0 P) GG (d + 4) (.ref cTooLarge) [vS s, vI i, vI j] σ K X := by
  run_tac beginC
  show callStep (K0 P) GG (callD (K0 P) GG (d + 3)) _ _ _ _ _
  (run_tac hlT)
  intro x hx
  have h1 := h.new (o := .exc cTooLarge none true) hx
  show callStep (K0 P) GG (callD (K0 P) GG (d + 2)) _ _ _ _ _
  (run_tac hlT)
  (run_tac hinT `L `hL)
  refine meth_cls (f := fPressError_init) rfl (by kernel_rfl) (by kernel_rfl) ?_
  (run_tac hlT)
  refine ⟨hs, ?_⟩
  (run_tac hlT)
  refine ⟨hi, ?_⟩
  (run_tac hlT)
  refine ⟨hj, ?_⟩
  (run_tac hlT)
  refine perr_ok h1 (by kernel_rfl) (by kernel_rfl) fun dx σ' h' => ?_
  (run_tac hlT)
  refine Hsattre 1 0 h' rfl rfl (by kernel_rfl) (by kernel_rfl) (by (run_tac kdT)) (by (run_tac krT)) (by (run_tac krT)) fun σ1 h2 => ?_; (run_tac hlT)
  refine Hsattre 1 0 h2 rfl rfl (by kernel_rfl) (by kernel_rfl) (by (run_tac kdT)) (by (run_tac krT)) (by (run_tac krT)) fun σ2 h3 => ?_; (run_tac hlT)
  refine Hsattre 1 0 h3 rfl rfl (by kernel_rfl) (by kernel_rfl) (by (run_tac kdT)) (by (run_tac krT)) (by (run_tac krT)) fun σ3 h4 => ?_; (run_tac hlT)
  exact q x dx _ _ (h4.pick [1, 0])
  run_tac endC
theorem badSize_ok {s : PySem.Str} {i j : Int} (h : H [] fr σ) (hs : s.length ≤ 100) (hi : tlong i) (hj : tlong j) (q : ∀ x dx r σ', H [(x, .exc cBadSize (some dx) true), (dx, .dict [(S "reason", r), (S "kind", vS s), (S "told", vI i), (S "found", vI j)])] fr σ' → K (.ref x) σ') :
    callD (K0 P) GG (d + 4) (.ref cBadSize) [vS s, vI i, vI j] σ K X := by
  run_tac beginC
  show callStep (K0 P) GG (callD (K0 P) GG (d + 3)) _ _ _ _ _
  (run_tac hlT)
  intro x hx
  have h1 := h.new (o := .exc cBadSize none true) hx
  show callStep (K0 P) GG (callD (K0 P) GG (d + 2)) _ _ _ _ _
  (run_tac hlT)
  (run_tac hinT `L `hL)
  refine meth_cls (f := fPressError_init) rfl (by kernel_rfl) (by kernel_rfl) ?_
  (run_tac hlT)
  refine ⟨hs, ?_⟩
  (run_tac hlT)
  refine ⟨hi, ?_⟩
  (run_tac hlT)
  refine ⟨hj, ?_⟩
  (run_tac hlT)
  refine perr_ok h1 (by kernel_rfl) (by kernel_rfl) fun dx σ' h' => ?_
  (run_tac hlT)
  refine Hsattre 1 0 h' rfl rfl (by kernel_rfl) (by kernel_rfl) (by (run_tac kdT)) (by (run_tac krT)) (by (run_tac krT)) fun σ1 h2 => ?_; (run_tac hlT)
  refine Hsattre 1 0 h2 rfl rfl (by kernel_rfl) (by kernel_rfl) (by (run_tac kdT)) (by (run_tac krT)) (by (run_tac krT)) fun σ2 h3 => ?_; (run_tac hlT)
  refine Hsattre 1 0 h3 rfl rfl (by kernel_rfl) (by kernel_rfl) (by (run_tac kdT)) (by (run_tac krT)) (by (run_tac krT)) fun σ3 h4 => ?_; (run_tac hlT)
  exact q x dx _ _ (h4.pick [1, 0])
  run_tac endC
theorem needs_ok {i : Int} (h : H [] fr σ) (hi : tlong i) (q : ∀ x dx r σ', H [(x, .exc cNeedsDictionary (some dx) true), (dx, .dict [(S "reason", r), (S "ident", vI i)])] fr σ' → K (.ref x) σ') :
    callD (K0 P) GG (d + 4) (.ref cNeedsDictionary) [vI i] σ K X := by
  run_tac beginC
  show callStep (K0 P) GG (callD (K0 P) GG (d + 3)) _ _ _ _ _
  (run_tac hlT)
  intro x hx
  have h1 := h.new (o := .exc cNeedsDictionary none true) hx
  show callStep (K0 P) GG (callD (K0 P) GG (d + 2)) _ _ _ _ _
  (run_tac hlT)
  (run_tac hinT `L `hL)
  refine meth_cls (f := fPressError_init) rfl (by kernel_rfl) (by kernel_rfl) ?_
  (run_tac hlT)
  refine ⟨hi, ?_⟩
  (run_tac hlT)
  refine perr_ok h1 (by kernel_rfl) (by kernel_rfl) fun dx σ' h' => ?_
  (run_tac hlT)
  refine Hsattre 1 0 h' rfl rfl (by kernel_rfl) (by kernel_rfl) (by (run_tac kdT)) (by (run_tac krT)) (by (run_tac krT)) fun σ1 h2 => ?_; (run_tac hlT)
  exact q x dx _ _ (h2.pick [1, 0])
  run_tac endC
theorem wrong_ok {i j : Int} (h : H [] fr σ) (hi : tlong i) (hj : tlong j) (q : ∀ x dx r σ', H [(x, .exc cWrongDictionary (some dx) true), (dx, .dict [(S "reason", r), (S "told", vI i), (S "found", vI j)])] fr σ' → K (.ref x) σ') :
    callD (K0 P) GG (d + 4) (.ref cWrongDictionary) [vI i, vI j] σ K X := by
  run_tac beginC
  show callStep (K0 P) GG (callD (K0 P) GG (d + 3)) _ _ _ _ _
  (run_tac hlT)
  intro x hx
  have h1 := h.new (o := .exc cWrongDictionary none true) hx
  show callStep (K0 P) GG (callD (K0 P) GG (d + 2)) _ _ _ _ _
  (run_tac hlT)
  (run_tac hinT `L `hL)
  refine meth_cls (f := fPressError_init) rfl (by kernel_rfl) (by kernel_rfl) ?_
  (run_tac hlT)
  refine ⟨hi, ?_⟩
  (run_tac hlT)
  refine ⟨hj, ?_⟩
  (run_tac hlT)
  refine perr_ok h1 (by kernel_rfl) (by kernel_rfl) fun dx σ' h' => ?_
  (run_tac hlT)
  refine Hsattre 1 0 h' rfl rfl (by kernel_rfl) (by kernel_rfl) (by (run_tac kdT)) (by (run_tac krT)) (by (run_tac krT)) fun σ1 h2 => ?_; (run_tac hlT)
  refine Hsattre 1 0 h2 rfl rfl (by kernel_rfl) (by kernel_rfl) (by (run_tac kdT)) (by (run_tac krT)) (by (run_tac krT)) fun σ2 h3 => ?_; (run_tac hlT)
  exact q x dx _ _ (h3.pick [1, 0])
  run_tac endC
end
end Mine
end

section
open PySem PySem.W PyProof.Rows
set_option maxRecDepth 100000
namespace Mine

section
variable {P : Params} {σ : Store} {fr : List (Addr × O)} {K : KV} {X : KX} {d : Nat}

noncomputable abbrev dHeader (window : Int) (size : Value) (ident : Int) : O := .dict [(S "window", vI window), (S "size", size), (S "ident", vI ident), (S "checksum", .bool false), (S "single", .bool false)]
noncomputable abbrev dOffs (a b c : Int) : O := .dict [(S "one", vI a), (S "two", vI b), (S "three", vI c)]
noncomputable abbrev dHead (last : Value) (kind size : Int) : O := .dict [(S "last", last), (S "kind", vI kind), (S "size", vI size)]
noncomputable abbrev dDict (ident : Int) (content : Array UInt8) (t : Addr) : O := .dict [(S "ident", vI ident), (S "content", vB content), (S "huff", .none), (S "tables", .none), (S "offsets", .ref t)]

theorem header_ok {window ident : Int} {size : Value} (hz : handedIn size = true) (h : H [] fr σ) (q : ∀ x dx σ', H [(x, .inst cFrameHeader dx), (dx, dHeader window size ident)] fr σ' → K (.ref x) σ') :
    callD (K0 P) GG (d + 2) (.ref cFrameHeader) [vI window, size, vI ident] σ K X := by
  run_tac beginC
  show callStep (K0 P) GG (callD (K0 P) GG (d + 1)) _ _ _ _ _
  (run_tac hlT)
  intro dx hdx x hx
  have h1 := (h.new (o := .dict []) hdx).new (o := .inst cFrameHeader dx) hx
  show callStep (K0 P) GG (callD (K0 P) GG d) _ _ _ _ _
  (run_tac hlT)
  (run_tac hinT `L `hL)
  refine Hsattr 0 1 h1 rfl rfl (by kernel_rfl) (by kernel_rfl) (by (run_tac kdT)) (by (run_tac krT)) (by (run_tac krT)) fun σ1 h2 => ?_; (run_tac hlT)
  refine Hsattr 0 1 h2 rfl rfl (by kernel_rfl) (by kernel_rfl) (by (run_tac kdT)) (by (run_tac krT)) (by (run_tac krT)) fun σ2 h3 => ?_; (run_tac hlT)
  refine Hsattr 0 1 h3 rfl rfl (by kernel_rfl) (by kernel_rfl) (by (run_tac kdT)) (by (run_tac krT)) (by (run_tac krT)) fun σ3 h4 => ?_; (run_tac hlT)
  refine Hsattr 0 1 h4 rfl rfl (by kernel_rfl) (by kernel_rfl) (by (run_tac kdT)) (by (run_tac krT)) (by (run_tac krT)) fun σ4 h5 => ?_; (run_tac hlT)
  refine Hsattr 0 1 h5 rfl rfl (by kernel_rfl) (by kernel_rfl) (by (run_tac kdT)) (by (run_tac krT)) (by (run_tac krT)) fun σ5 h6 => ?_; (run_tac hlT)
  exact q _ _ _ h6
  run_tac endC

theorem blockHead_ok {kind size : Int} {last : Value} (h : H [] fr σ) (q : ∀ x dx σ', H [(x, .inst cBlockHead dx), (dx, dHead last kind size)] fr σ' → K (.ref x) σ') :
    callD (K0 P) GG (d + 2) (.ref cBlockHead) [last, vI kind, vI size] σ K X := by
  run_tac beginC
  show callStep (K0 P) GG (callD (K0 P) GG (d + 1)) _ _ _ _ _
  (run_tac hlT)
  intro dx hdx x hx
  have h1 := (h.new (o := .dict []) hdx).new (o := .inst cBlockHead dx) hx
  show callStep (K0 P) GG (callD (K0 P) GG d) _ _ _ _ _
  (run_tac hlT)
  (run_tac hinT `L `hL)
  refine Hsattr 0 1 h1 rfl rfl (by kernel_rfl) (by kernel_rfl) (by (run_tac kdT)) (by (run_tac krT)) (by (run_tac krT)) fun σ1 h2 => ?_; (run_tac hlT)
  refine Hsattr 0 1 h2 rfl rfl (by kernel_rfl) (by kernel_rfl) (by (run_tac kdT)) (by (run_tac krT)) (by (run_tac krT)) fun σ2 h3 => ?_; (run_tac hlT)
  refine Hsattr 0 1 h3 rfl rfl (by kernel_rfl) (by kernel_rfl) (by (run_tac kdT)) (by (run_tac krT)) (by (run_tac krT)) fun σ3 h4 => ?_; (run_tac hlT)
  exact q _ _ _ h4
  run_tac endC

theorem tables_ok (h : H [] fr σ) (q : ∀ x σ', H [] fr σ' → K (.ref x) σ') : callD (K0 P) GG (d + 2) (.ref cTables) [] σ K X := by
  run_tac beginC
  show callStep (K0 P) GG (callD (K0 P) GG (d + 1)) _ _ _ _ _
  (run_tac hlT)
  intro dx hdx x hx
  have h1 := (h.new (o := .dict []) hdx).new (o := .inst cTables dx) hx
  show callStep (K0 P) GG (callD (K0 P) GG d) _ _ _ _ _
  (run_tac hlT)
  (run_tac hinT `L `hL)
  refine Hsattr 0 1 h1 rfl rfl (by kernel_rfl) (by kernel_rfl) (by (run_tac kdT)) (by (run_tac krT)) (by (run_tac krT)) fun σ1 h2 => ?_; (run_tac hlT)
  refine Hsattr 0 1 h2 rfl rfl (by kernel_rfl) (by kernel_rfl) (by (run_tac kdT)) (by (run_tac krT)) (by (run_tac krT)) fun σ2 h3 => ?_; (run_tac hlT)
  refine Hsattr 0 1 h3 rfl rfl (by kernel_rfl) (by kernel_rfl) (by (run_tac kdT)) (by (run_tac krT)) (by (run_tac krT)) fun σ3 h4 => ?_; (run_tac hlT)
  refine Halloc h4 fun a σ4 h5 => ?_; (run_tac hlT)
  refine Hsattr 1 2 h5 rfl rfl (by kernel_rfl) (by kernel_rfl) (by (run_tac kdT)) (by (run_tac krT)) (by (run_tac krT)) fun σ5 h6 => ?_; (run_tac hlT)
  exact q _ _ (h6.pick [])
  run_tac endC

theorem offsets_ok {a b c : Int} (ha : 1 ≤ a) (hb : 1 ≤ b) (hc : 1 ≤ c) (h : H [] fr σ) (q : ∀ x dx σ', H [(x, .inst cOffsets dx), (dx, dOffs a b c)] fr σ' → K (.ref x) σ') :
    callD (K0 P) GG (d + 2) (.ref cOffsets) [vI a, vI b, vI c] σ K X := by
  run_tac beginC
  show callStep (K0 P) GG (callD (K0 P) GG (d + 1)) _ _ _ _ _
  (run_tac hlT)
  intro dx hdx x hx
  have h1 := (h.new (o := .dict []) hdx).new (o := .inst cOffsets dx) hx
  show callStep (K0 P) GG (callD (K0 P) GG d) _ _ _ _ _
  (run_tac hlT)
  (run_tac hinT `L `hL)
  (run_tac hcaseT `c1)
  · (run_tac hlT)
    (run_tac hcaseT `c2)
    · (run_tac hlT)
      (run_tac hcaseT `c3)
      · (run_tac hlT)
        refine Hsattr 0 1 h1 rfl rfl (by kernel_rfl) (by kernel_rfl) (by (run_tac kdT)) (by (run_tac krT)) (by (run_tac krT)) fun σ1 h2 => ?_; (run_tac hlT)
        refine Hsattr 0 1 h2 rfl rfl (by kernel_rfl) (by kernel_rfl) (by (run_tac kdT)) (by (run_tac krT)) (by (run_tac krT)) fun σ2 h3 => ?_; (run_tac hlT)
        refine Hsattr 0 1 h3 rfl rfl (by kernel_rfl) (by kernel_rfl) (by (run_tac kdT)) (by (run_tac krT)) (by (run_tac krT)) fun σ3 h4 => ?_; (run_tac hlT)
        exact q _ _ _ h4
      · exfalso; have := of_decide_eq_true c3; (run_tac Mine.Lin.om)
    · exfalso; have := of_decide_eq_true c2; (run_tac Mine.Lin.om)
  · exfalso; have := of_decide_eq_true c1; (run_tac Mine.Lin.om)
  run_tac endC
theorem offsets0_ok (h : H [] fr σ) (q : ∀ x dx σ', H [(x, .inst cOffsets dx), (dx, dOffs 1 4 8)] fr σ' → K (.ref x) σ') :
    callD (K0 P) GG (d + 2) (.ref cOffsets) [] σ K X := by
  run_tac beginC
  show callStep (K0 P) GG (callD (K0 P) GG (d + 1)) _ _ _ _ _
  (run_tac hlT)
  intro dx hdx x hx
  have h1 := (h.new (o := .dict []) hdx).new (o := .inst cOffsets dx) hx
  show callStep (K0 P) GG (callD (K0 P) GG d) _ _ _ _ _
  (run_tac hlT)
  (run_tac hinT `L `hL)
  refine Hsattr 0 1 h1 rfl rfl (by kernel_rfl) (by kernel_rfl) (by (run_tac kdT)) (by (run_tac krT)) (by (run_tac krT)) fun σ1 h2 => ?_; (run_tac hlT)
  refine Hsattr 0 1 h2 rfl rfl (by kernel_rfl) (by kernel_rfl) (by (run_tac kdT)) (by (run_tac krT)) (by (run_tac krT)) fun σ2 h3 => ?_; (run_tac hlT)
  refine Hsattr 0 1 h3 rfl rfl (by kernel_rfl) (by kernel_rfl) (by (run_tac kdT)) (by (run_tac krT)) (by (run_tac krT)) fun σ3 h4 => ?_; (run_tac hlT)
  exact q _ _ _ h4
  run_tac endC
end
end Mine
end

section
open PySem PySem.W PyProof.Rows
set_option maxRecDepth 100000
namespace Mine

/-- the distance that a value means, and its place -/
noncomputable def toldD (a b c value ahead : Int) : Int × Int :=
  if value > 3 then (value - 3, 3) else
    let p := if ahead > 0 then value - 1 else value
    if p = 3 then (a - 1, 3) else if p = 0 then (a, 0) else if p = 1 then (b, 1) else (c, 2)
noncomputable def movedT (a b c dist p : Int) : Int × Int × Int := if p = 1 then (dist, a, c) else if p > 1 then (dist, a, b) else (a, b, c)

section
variable {P : Params} {σ : Store} {fr : List (Addr × O)} {K : KV} {X : KX} {d : Nat}

theorem row_ok {x dx : Addr} {a b c : Int} (h : H [(x, .inst cOffsets dx), (dx, dOffs a b c)] fr σ) (q : ∀ t σ', H [(t, .tup [vI a, vI b, vI c]), (x, .inst cOffsets dx), (dx, dOffs a b c)] fr σ' → K (.ref t) σ') :
    callD (K0 P) GG (d + 1) (.ref fOffsets_row) [.ref x] σ K X := by
  run_tac beginC
  show callStep (K0 P) GG (callD (K0 P) GG d) _ _ _ _ _
  (run_tac hlT)
  (run_tac hinT `L `hL)
  refine attr_inst (H.at 0 h rfl) (H.at 1 h rfl) (by kernel_rfl) (by kernel_rfl) (by (run_tac krT)) (by kernel_rfl) ?_; (run_tac hlT)
  refine attr_inst (H.at 0 h rfl) (H.at 1 h rfl) (by kernel_rfl) (by kernel_rfl) (by (run_tac krT)) (by kernel_rfl) ?_; (run_tac hlT)
  refine attr_inst (H.at 0 h rfl) (H.at 1 h rfl) (by kernel_rfl) (by kernel_rfl) (by (run_tac krT)) (by kernel_rfl) ?_; (run_tac hlT)
  refine Halloc h fun t σ1 h1 => ?_; (run_tac hlT)
  exact q _ _ h1
  run_tac endC

theorem toldby_ok {x dx : Addr} {a b c value ahead : Int} (hv : 1 ≤ value) (ha : 0 ≤ ahead) (h : H [(x, .inst cOffsets dx), (dx, dOffs a b c)] fr σ)
    (q : ∀ t σ', H [(t, .tup [vI (toldD a b c value ahead).1, vI (toldD a b c value ahead).2]), (x, .inst cOffsets dx), (dx, dOffs a b c)] fr σ' → K (.ref t) σ') :
    callD (K0 P) GG (d + 2) (.ref fOffsets_toldby) [.ref x, vI value, vI ahead] σ K X := by
  run_tac beginC
  show callStep (K0 P) GG (callD (K0 P) GG (d + 1)) _ _ _ _ _
  (run_tac hlT)
  (run_tac hinT `L `hL)
  (run_tac hcaseT `c1)
  · (run_tac hlT)
    (run_tac hcaseT `c2)
    · (run_tac hlT)
      (run_tac hcaseT `c3)
      · (run_tac hlT)
        have c3 := of_decide_eq_false c3
        have hcs : value = 1 ∨ value = 2 ∨ value = 3 := by (run_tac Mine.Lin.om)
        (run_tac hcaseT `c4)
        · have c4 := of_decide_eq_false c4
          rcases hcs with rfl | rfl | rfl
          · have e : toldD a b c 1 ahead = (b, 1) := by unfold toldD; rw [if_neg (by (run_tac Mine.Lin.om)), if_neg c4]; rfl
            rw [e] at q
            (run_tac hlT)
            refine meth_inst (h.at 0 rfl) (h.at 1 rfl) (by (run_tac krT)) (by kernel_rfl) (f := fOffsets_row) (by kernel_rfl) (by kernel_rfl) ?_
            (run_tac hlT)
            refine row_ok h fun t σ1 h1 => ?_
            (run_tac hlT)
            refine item_tup (H.at 0 h1 rfl) (by decide) rfl ?_; (run_tac hlT)
            refine Halloc h1 fun t2 σ2 h2 => ?_; (run_tac hlT)
            exact q _ _ (h2.pick [0, 2, 3])
          · have e : toldD a b c 2 ahead = (c, 2) := by unfold toldD; rw [if_neg (by (run_tac Mine.Lin.om)), if_neg c4]; rfl
            rw [e] at q
            (run_tac hlT)
            refine meth_inst (h.at 0 rfl) (h.at 1 rfl) (by (run_tac krT)) (by kernel_rfl) (f := fOffsets_row) (by kernel_rfl) (by kernel_rfl) ?_
            (run_tac hlT)
            refine row_ok h fun t σ1 h1 => ?_
            (run_tac hlT)
            refine item_tup (H.at 0 h1 rfl) (by decide) rfl ?_; (run_tac hlT)
            refine Halloc h1 fun t2 σ2 h2 => ?_; (run_tac hlT)
            exact q _ _ (h2.pick [0, 2, 3])
          · have e : toldD a b c 3 ahead = (a - 1, 3) := by unfold toldD; rw [if_neg (by (run_tac Mine.Lin.om)), if_neg c4]; rfl
            rw [e] at q
            (run_tac hlT)
            refine attr_inst (H.at 0 h rfl) (H.at 1 h rfl) (by kernel_rfl) (by kernel_rfl) (by (run_tac krT)) (by kernel_rfl) ?_; (run_tac hlT)
            refine Halloc h fun t2 σ2 h2 => ?_; (run_tac hlT)
            exact q _ _ h2
        · have c4 := of_decide_eq_true c4
          rcases hcs with rfl | rfl | rfl
          · have e : toldD a b c 1 ahead = (a, 0) := by unfold toldD; rw [if_neg (by (run_tac Mine.Lin.om)), if_pos c4]; rfl
            rw [e] at q
            (run_tac hlT)
            refine meth_inst (h.at 0 rfl) (h.at 1 rfl) (by (run_tac krT)) (by kernel_rfl) (f := fOffsets_row) (by kernel_rfl) (by kernel_rfl) ?_
            (run_tac hlT)
            refine row_ok h fun t σ1 h1 => ?_
            (run_tac hlT)
            refine item_tup (H.at 0 h1 rfl) (by decide) rfl ?_; (run_tac hlT)
            refine Halloc h1 fun t2 σ2 h2 => ?_; (run_tac hlT)
            exact q _ _ (h2.pick [0, 2, 3])
          · have e : toldD a b c 2 ahead = (b, 1) := by unfold toldD; rw [if_neg (by (run_tac Mine.Lin.om)), if_pos c4]; rfl
            rw [e] at q
            (run_tac hlT)
            refine meth_inst (h.at 0 rfl) (h.at 1 rfl) (by (run_tac krT)) (by kernel_rfl) (f := fOffsets_row) (by kernel_rfl) (by kernel_rfl) ?_
            (run_tac hlT)
            refine row_ok h fun t σ1 h1 => ?_
            (run_tac hlT)
            refine item_tup (H.at 0 h1 rfl) (by decide) rfl ?_; (run_tac hlT)
            refine Halloc h1 fun t2 σ2 h2 => ?_; (run_tac hlT)
            exact q _ _ (h2.pick [0, 2, 3])
          · have e : toldD a b c 3 ahead = (c, 2) := by unfold toldD; rw [if_neg (by (run_tac Mine.Lin.om)), if_pos c4]; rfl
            rw [e] at q
            (run_tac hlT)
            refine meth_inst (h.at 0 rfl) (h.at 1 rfl) (by (run_tac krT)) (by kernel_rfl) (f := fOffsets_row) (by kernel_rfl) (by kernel_rfl) ?_
            (run_tac hlT)
            refine row_ok h fun t σ1 h1 => ?_
            (run_tac hlT)
            refine item_tup (H.at 0 h1 rfl) (by decide) rfl ?_; (run_tac hlT)
            refine Halloc h1 fun t2 σ2 h2 => ?_; (run_tac hlT)
            exact q _ _ (h2.pick [0, 2, 3])
      · (run_tac hlT)
        have c3 := of_decide_eq_true c3
        refine Halloc h fun t σ1 h1 => ?_; (run_tac hlT)
        have e : toldD a b c value ahead = (value - 3, 3) := by unfold toldD; rw [if_pos (by (run_tac Mine.Lin.om))]
        rw [e] at q
        exact q _ _ h1
    · exfalso; have := of_decide_eq_true c2; (run_tac Mine.Lin.om)
  · exfalso; have := of_decide_eq_true c1; (run_tac Mine.Lin.om)
  run_tac endC

theorem move_ok {x dx : Addr} {a b c dist p : Int} (h : H [(x, .inst cOffsets dx), (dx, dOffs a b c)] fr σ)
    (q : ∀ σ', H [(x, .inst cOffsets dx), (dx, dOffs (movedT a b c dist p).1 (movedT a b c dist p).2.1 (movedT a b c dist p).2.2)] fr σ' → K .none σ') :
    callD (K0 P) GG (d + 1) (.ref fOffsets_move) [.ref x, vI dist, vI p] σ K X := by
  run_tac beginC
  show callStep (K0 P) GG (callD (K0 P) GG d) _ _ _ _ _
  (run_tac hlT)
  (run_tac hinT `L `hL)
  (run_tac hcaseT `c1)
  · have c1 := of_decide_eq_false c1
    (run_tac hlT)
    (run_tac hcaseT `c2)
    · have c2 := of_decide_eq_false c2
      have e : movedT a b c dist p = (a, b, c) := by unfold movedT; rw [if_neg c1, if_neg c2]
      rw [e] at q
      (run_tac hlT)
      exact q _ h
    · have c2 := of_decide_eq_true c2
      have e : movedT a b c dist p = (dist, a, b) := by unfold movedT; rw [if_neg c1, if_pos c2]
      rw [e] at q
      (run_tac hlT)
      refine attr_inst (H.at 0 h rfl) (H.at 1 h rfl) (by kernel_rfl) (by kernel_rfl) (by (run_tac krT)) (by kernel_rfl) ?_; (run_tac hlT)
      refine attr_inst (H.at 0 h rfl) (H.at 1 h rfl) (by kernel_rfl) (by kernel_rfl) (by (run_tac krT)) (by kernel_rfl) ?_; (run_tac hlT)
      refine Halloc h fun t σ1 h1 => ?_; (run_tac hlT)
      refine seq_tup (h1.at 0 rfl) ?_
      (run_tac hlT)
      refine Hsattr 1 2 h1 rfl rfl (by kernel_rfl) (by kernel_rfl) (by (run_tac kdT)) (by (run_tac krT)) (by (run_tac krT)) fun σ2 h2 => ?_; (run_tac hlT)
      refine Hsattr 1 2 h2 rfl rfl (by kernel_rfl) (by kernel_rfl) (by (run_tac kdT)) (by (run_tac krT)) (by (run_tac krT)) fun σ3 h3 => ?_; (run_tac hlT)
      refine Hsattr 1 2 h3 rfl rfl (by kernel_rfl) (by kernel_rfl) (by (run_tac kdT)) (by (run_tac krT)) (by (run_tac krT)) fun σ4 h4 => ?_; (run_tac hlT)
      exact q _ (h4.pick [1, 2])
  · have c1 := of_decide_eq_true c1
    have e : movedT a b c dist p = (dist, a, c) := by unfold movedT; rw [if_pos c1]
    rw [e] at q
    (run_tac hlT)
    refine attr_inst (H.at 0 h rfl) (H.at 1 h rfl) (by kernel_rfl) (by kernel_rfl) (by (run_tac krT)) (by kernel_rfl) ?_; (run_tac hlT)
    refine Halloc h fun t σ1 h1 => ?_; (run_tac hlT)
    refine seq_tup (h1.at 0 rfl) ?_
    (run_tac hlT)
    refine Hsattr 1 2 h1 rfl rfl (by kernel_rfl) (by kernel_rfl) (by (run_tac kdT)) (by (run_tac krT)) (by (run_tac krT)) fun σ2 h2 => ?_; (run_tac hlT)
    refine Hsattr 1 2 h2 rfl rfl (by kernel_rfl) (by kernel_rfl) (by (run_tac kdT)) (by (run_tac krT)) (by (run_tac krT)) fun σ3 h3 => ?_; (run_tac hlT)
    exact q _ (h3.pick [1, 2])
  run_tac endC

theorem distance_ok {x dx : Addr} {a b c value ahead : Int} (hv : 1 ≤ value) (ha : 0 ≤ ahead) (h : H [(x, .inst cOffsets dx), (dx, dOffs a b c)] fr σ)
    (q0 : (toldD a b c value ahead).1 = 0 → ∀ e dx σ', H [(e, .exc cBadSequence (some dx) false)] fr σ' → X e σ')
    (q : (toldD a b c value ahead).1 ≠ 0 → ∀ σ', H [(x, .inst cOffsets dx), (dx, dOffs (movedT a b c (toldD a b c value ahead).1 (toldD a b c value ahead).2).1 (movedT a b c (toldD a b c value ahead).1 (toldD a b c value ahead).2).2.1 (movedT a b c (toldD a b c value ahead).1 (toldD a b c value ahead).2).2.2)] fr σ' → K (vI (toldD a b c value ahead).1) σ') :
    callD (K0 P) GG (d + 5) (.ref fOffsets_distance) [.ref x, vI value, vI ahead] σ K X := by
  run_tac beginC
  show callStep (K0 P) GG (callD (K0 P) GG (d + 4)) _ _ _ _ _
  (run_tac hlT)
  (run_tac hinT `L `hL)
  refine meth_inst (h.at 0 rfl) (h.at 1 rfl) (by (run_tac krT)) (by kernel_rfl) (f := fOffsets_toldby) (by kernel_rfl) (by kernel_rfl) ?_
  (run_tac hlT)
  refine toldby_ok hv ha h fun t σ1 h1 => ?_
  (run_tac hlT)
  refine seq_tup (h1.at 0 rfl) ?_
  (run_tac hlT)
  (run_tac hcaseT `c1)
  · have c1 := of_decide_eq_false c1
    (run_tac hlT)
    refine meth_inst (h1.at 1 rfl) (h1.at 2 rfl) (by (run_tac krT)) (by kernel_rfl) (f := fOffsets_move) (by kernel_rfl) (by kernel_rfl) ?_
    (run_tac hlT)
    refine move_ok (h1.pick [1, 2]) fun σ2 h2 => ?_
    (run_tac hlT)
    exact q c1 _ h2
  · have c1 := of_decide_eq_true c1
    (run_tac hlT)
    refine badSequence_ok (h1.pick []) fun e dx' σ2 h2 => ?_
    (run_tac hlT)
    rw [H.at 0 h2 rfl]; (run_tac hlT)
    have h3 := h2.upd 0 (.exc cBadSequence (some dx') false) rfl
    exact q0 c1 _ _ _ (h3.pick [0])
  run_tac endC
end
end Mine
end

section
open PySem PySem.W PyProof.Rows
set_option maxRecDepth 100000
namespace Mine

noncomputable def OW : List Addr := [cFrameState, fFrameState_init, fFrameState_block, fFrameState_play, fFrameState_copy, f_law_word, f_law_block, f_law_deed_right, flaw]

noncomputable abbrev dState (hd : Addr) (most : Int) (bo : Addr) (hist : Array UInt8) (tb ofs : Addr) : O := .dict [(S "header", .ref hd), (S "most", vI most), (S "out", .ref bo), (S "history", vB hist), (S "huff", .none), (S "tables", .ref tb), (S "offsets", .ref ofs)]

/-- copies, one by one -/
noncomputable def copyL : Nat → Nat → List UInt8 → List UInt8
  | 0, _, past => past
  | n + 1, dist, past => copyL n dist (past ++ [past.getD (past.length - dist) 0])

theorem copyL_succ {n dist : Nat} {past : List UInt8} : copyL (n + 1) dist past = copyL n dist (past ++ [past.getD (past.length - dist) 0]) := rfl

section
variable {P : Params} {σ : Store} {fr : List (Addr × O)} {K : KV} {X : KX} {d : Nat}

theorem copy_ok {st dst hd dhd bo tb ofs : Addr} {window most ident dist cnt : Int} {size : Value} {hist : List UInt8} {out : Array UInt8}
    (h : H [(st, .inst cFrameState dst), (dst, dState hd most bo hist.toArray tb ofs), (hd, .inst cFrameHeader dhd), (dhd, dHeader window size ident), (bo, .barr out)] fr σ)
    (hw : 0 ≤ window) (hd1 : 1 ≤ dist) (hc : 0 ≤ cnt) (hc' : cnt < 2 ^ 20) (ho : out.size + cnt.toNat < LIM) (hh : hist.length < LIM)
    (qx : (dist > out.size + hist.length ∨ (dist ≤ out.size ∧ dist > window) ∨ (dist > out.size ∧ (out.size : Int) > window)) → ∀ e dx σ', H [(e, .exc cBadDistance (some dx) false)] fr σ' → X e σ')
    (q : ¬ (dist > out.size + hist.length ∨ (dist ≤ out.size ∧ dist > window) ∨ (dist > out.size ∧ (out.size : Int) > window)) → ∀ out' σ', hist ++ out'.toList = copyL cnt.toNat dist.toNat (hist ++ out.toList) →
      H [(st, .inst cFrameState dst), (dst, dState hd most bo hist.toArray tb ofs), (hd, .inst cFrameHeader dhd), (dhd, dHeader window size ident), (bo, .barr out')] fr σ' → K .none σ') :
    callI (K0 P) GG OW (d + 5) (.ref fFrameState_copy) [.ref st, vI dist, vI cnt] σ K X := by
  run_tac beginC
  show callStepI (K0 P) GG OW (callD (K0 P) GG (d + 4)) (callI (K0 P) GG OW (d + 4)) _ _ _ _ _
  (run_tac hlT)
  (run_tac hinT `L `hL)
  refine attr_inst (H.at 0 h rfl) (H.at 1 h rfl) (by kernel_rfl) (by kernel_rfl) (by (run_tac krT)) (by kernel_rfl) ?_; (run_tac hlT)
  refine len_barr (H.at 4 h rfl) ?_; (run_tac hlT)
  (run_tac hcaseT `c1)
  · have c1 := of_decide_eq_false c1
    (run_tac hlT)
    refine attr_inst (H.at 0 h rfl) (H.at 1 h rfl) (by kernel_rfl) (by kernel_rfl) (by (run_tac krT)) (by kernel_rfl) ?_; (run_tac hlT)
    have hz : hist.toArray.size ≤ LIM := by simp; (run_tac Mine.Lin.om)
    refine ⟨hz, ?_⟩
    (run_tac hlT)
    (run_tac hcaseT `c2)
    · have c2 := of_decide_eq_false c2
      (run_tac hlT)
      refine attr_inst (H.at 0 h rfl) (H.at 1 h rfl) (by kernel_rfl) (by kernel_rfl) (by (run_tac krT)) (by kernel_rfl) ?_; (run_tac hlT)
      refine attr_inst (H.at 2 h rfl) (H.at 3 h rfl) (by kernel_rfl) (by kernel_rfl) (by (run_tac krT)) (by kernel_rfl) ?_; (run_tac hlT)
      (run_tac hcaseT `c3)
      · have c3 := of_decide_eq_false c3
        (run_tac hlT)
        refine attr_inst (H.at 0 h rfl) (H.at 1 h rfl) (by kernel_rfl) (by kernel_rfl) (by (run_tac krT)) (by kernel_rfl) ?_; (run_tac hlT)
        refine ⟨hz, ?_⟩
        (run_tac hlT)
        refine attr_inst (H.at 0 h rfl) (H.at 1 h rfl) (by kernel_rfl) (by kernel_rfl) (by (run_tac krT)) (by kernel_rfl) ?_; (run_tac hlT)
        refine ⟨hz, ?_⟩
        (run_tac hlT)
        have hsz : hist.toArray.size = hist.length := by simp
        refine ⟨by unfold LIM at *; (run_tac Mine.Lin.om), by unfold LIM at *; (run_tac Mine.Lin.om), by unfold LIM at *; (run_tac Mine.Lin.om), by unfold LIM at *; (run_tac Mine.Lin.om), ?_⟩
        refine Halloc h fun r σ1 h1 => ?_; (run_tac hlT)
        refine iter_rng (h1.at 0 rfl) ?_
        (run_tac hlT)
        refine forR (fun k loc σ' => (loc (S "self") = some (.ref st) ∧ loc (S "done") = some (vI out.size)) ∧ ∃ out2 : Array UInt8, out2.size = out.size + k ∧ k ≤ cnt.toNat ∧ copyL (cnt.toNat - k) dist.toNat (hist ++ out2.toList) = copyL cnt.toNat dist.toNat (hist ++ out.toList) ∧ H [(st, .inst cFrameState dst), (dst, dState hd most bo hist.toArray tb ofs), (hd, .inst cFrameHeader dhd), (dhd, dHeader window size ident), (bo, .barr out2)] fr σ') ?_ ?_ ?_
        · exact ⟨⟨by (run_tac krT), by (run_tac krT)⟩, out, rfl, Nat.zero_le _, rfl, h1.pick [1, 2, 3, 4, 5]⟩
        · rintro loc σ2 ⟨hs, out2, e1, e2, e3, h2⟩
          (run_tac hlT)
          have e4 : (↑hist.toArray.size - (dist - ↑out.size) + cnt - (↑hist.toArray.size - (dist - ↑out.size))).toNat = cnt.toNat := by (run_tac Mine.Lin.om)
          rw [e4, Nat.sub_self] at e3
          exact q (by (run_tac Mine.Lin.om)) out2 _ e3 h2
        · rintro k loc σ2 KK hk ⟨⟨hs, hs2⟩, out2, e1, e2, e3, h2⟩ hKK
          have hk : k < cnt.toNat := by (run_tac Mine.Lin.om)
          have fin : ∀ u : UInt8, (hist ++ out2.toList).getD ((hist ++ out2.toList).length - dist.toNat) 0 = u → copyL (cnt.toNat - (k + 1)) dist.toNat (hist ++ (out2.push u).toList) = copyL cnt.toNat dist.toNat (hist ++ out.toList) := fun u hu => by
            rw [← e3, show cnt.toNat - k = (cnt.toNat - (k + 1)) + 1 by (run_tac Mine.Lin.om), copyL_succ, hu, Array.toList_push, List.append_assoc]
          have e5 : (hist ++ out2.toList).length - dist.toNat = (hist.length - (dist - out.size) + k : Int).toNat := by simp; (run_tac Mine.Lin.om)
          (run_tac hlT)
          rw [hs]; (run_tac hlT)
          refine attr_inst (H.at 0 h2 rfl) (H.at 1 h2 rfl) (by kernel_rfl) (by kernel_rfl) (by (run_tac krT)) (by kernel_rfl) ?_; (run_tac hlT)
          refine ⟨hz, ?_⟩
          (run_tac hlT)
          (run_tac hcaseT `c4)
          · have c4 := of_decide_eq_false c4
            (run_tac hlT)
            rw [hs]; (run_tac hlT)
            refine attr_inst (H.at 0 h2 rfl) (H.at 1 h2 rfl) (by kernel_rfl) (by kernel_rfl) (by (run_tac krT)) (by kernel_rfl) ?_; (run_tac hlT)
            refine meth_bapp (h2.at 4 rfl) ?_
            (run_tac hlT)
            rw [hs]; (run_tac hlT)
            refine attr_inst (H.at 0 h2 rfl) (H.at 1 h2 rfl) (by kernel_rfl) (by kernel_rfl) (by (run_tac krT)) (by kernel_rfl) ?_; (run_tac hlT)
            rw [hs]; (run_tac hlT)
            refine attr_inst (H.at 0 h2 rfl) (H.at 1 h2 rfl) (by kernel_rfl) (by kernel_rfl) (by (run_tac krT)) (by kernel_rfl) ?_; (run_tac hlT)
            refine ⟨hz, ?_⟩
            have hg : out2[(↑hist.toArray.size - (dist - ↑out.size) + ↑k - ↑hist.toArray.size : Int).toNat]? = some (out2[(↑hist.toArray.size - (dist - ↑out.size) + ↑k - ↑hist.toArray.size : Int).toNat]'(by (run_tac Mine.Lin.om))) := Array.getElem?_eq_getElem (by (run_tac Mine.Lin.om))
            have hb := (out2[(↑hist.toArray.size - (dist - ↑out.size) + ↑k - ↑hist.toArray.size : Int).toNat]'(by (run_tac Mine.Lin.om))).toNat_lt
            (run_tac hlT)
            refine item_barr (h2.at 4 rfl) (by (run_tac Mine.Lin.om)) hg ?_
            (run_tac hlT)
            refine Happb 4 h2 rfl (by (run_tac Mine.Lin.om)) (by (run_tac Mine.Lin.om)) (by (run_tac Mine.Lin.om)) (by (run_tac krT)) fun σ3 h3 => ?_
            (run_tac hlT)
            refine hKK _ _ ⟨⟨by (run_tac klT); exact hs, by (run_tac klT); exact hs2⟩, _, by simp; (run_tac Mine.Lin.om), hk, fin _ ?_, h3⟩
            rw [Int.toNat_natCast, show ∀ u : UInt8, u.toNat.toUInt8 = u from fun u => UInt8.ofNat_toNat]
            rw [List.getD_eq_getElem?_getD, List.getElem?_append_right (by (run_tac Mine.Lin.om)), e5, show (hist.length - (dist - out.size) + k : Int).toNat - hist.length = (↑hist.toArray.size - (dist - ↑out.size) + ↑k - ↑hist.toArray.size : Int).toNat by (run_tac Mine.Lin.om), Array.getElem?_toList, hg]; rfl
          · have c4 := of_decide_eq_true c4
            have hg : hist.toArray[(↑hist.toArray.size - (dist - ↑out.size) + ↑k : Int).toNat]? = some (hist.toArray[(↑hist.toArray.size - (dist - ↑out.size) + ↑k : Int).toNat]'(by (run_tac Mine.Lin.om))) := Array.getElem?_eq_getElem (by (run_tac Mine.Lin.om))
            have hb := (hist.toArray[(↑hist.toArray.size - (dist - ↑out.size) + ↑k : Int).toNat]'(by (run_tac Mine.Lin.om))).toNat_lt
            (run_tac hlT)
            rw [hs]; (run_tac hlT)
            refine attr_inst (H.at 0 h2 rfl) (H.at 1 h2 rfl) (by kernel_rfl) (by kernel_rfl) (by (run_tac krT)) (by kernel_rfl) ?_; (run_tac hlT)
            refine meth_bapp (h2.at 4 rfl) ?_
            (run_tac hlT)
            rw [hs]; (run_tac hlT)
            refine attr_inst (H.at 0 h2 rfl) (H.at 1 h2 rfl) (by kernel_rfl) (by kernel_rfl) (by (run_tac krT)) (by kernel_rfl) ?_; (run_tac hlT)
            refine ⟨hz, by (run_tac Mine.Lin.om), _, hg, ?_⟩
            (run_tac hlT)
            refine Happb 4 h2 rfl (by (run_tac Mine.Lin.om)) (by (run_tac Mine.Lin.om)) (by (run_tac Mine.Lin.om)) (by (run_tac krT)) fun σ3 h3 => ?_
            (run_tac hlT)
            refine hKK _ _ ⟨⟨by (run_tac klT); exact hs, by (run_tac klT); exact hs2⟩, _, by simp; (run_tac Mine.Lin.om), hk, fin _ ?_, h3⟩
            rw [Int.toNat_natCast, show ∀ u : UInt8, u.toNat.toUInt8 = u from fun u => UInt8.ofNat_toNat]
            rw [List.getD_eq_getElem?_getD, e5, List.getElem?_append_left (by (run_tac Mine.Lin.om)), show (hist.length - (dist - out.size) + k : Int).toNat = (↑hist.toArray.size - (dist - ↑out.size) + ↑k : Int).toNat by (run_tac Mine.Lin.om), ← List.getElem?_toArray, hg]; rfl
      · have c3 := of_decide_eq_true c3
        (run_tac hlT)
        refine badDistance_ok (d := d + 1) (h.pick []) fun e dx σ2 h2 => ?_
        (run_tac hlT)
        rw [H.at 0 h2 rfl]; (run_tac hlT)
        exact qx (.inr (.inr ⟨by (run_tac Mine.Lin.om), c3⟩)) _ _ _ ((h2.upd 0 (.exc cBadDistance (some dx) false) rfl).pick [0])
    · have c2 := of_decide_eq_true c2
      (run_tac hlT)
      refine badDistance_ok (d := d + 1) (h.pick []) fun e dx σ2 h2 => ?_
      (run_tac hlT)
      rw [H.at 0 h2 rfl]; (run_tac hlT)
      have hsz : hist.toArray.size = hist.length := by simp
      exact qx (.inl (by (run_tac Mine.Lin.om))) _ _ _ ((h2.upd 0 (.exc cBadDistance (some dx) false) rfl).pick [0])
  · have c1 := of_decide_eq_true c1
    (run_tac hlT)
    refine attr_inst (H.at 0 h rfl) (H.at 1 h rfl) (by kernel_rfl) (by kernel_rfl) (by (run_tac krT)) (by kernel_rfl) ?_; (run_tac hlT)
    refine attr_inst (H.at 2 h rfl) (H.at 3 h rfl) (by kernel_rfl) (by kernel_rfl) (by (run_tac krT)) (by kernel_rfl) ?_; (run_tac hlT)
    (run_tac hcaseT `c2)
    · have c2 := of_decide_eq_false c2
      (run_tac hlT)
      refine ⟨by unfold LIM at *; (run_tac Mine.Lin.om), by unfold LIM at *; (run_tac Mine.Lin.om), by unfold LIM at *; (run_tac Mine.Lin.om), by unfold LIM at *; (run_tac Mine.Lin.om), ?_⟩
      refine Halloc h fun r σ1 h1 => ?_; (run_tac hlT)
      refine iter_rng (h1.at 0 rfl) ?_
      (run_tac hlT)
      refine forR (fun k loc σ' => loc (S "self") = some (.ref st) ∧ ∃ out2 : Array UInt8, out2.size = out.size + k ∧ k ≤ cnt.toNat ∧ copyL (cnt.toNat - k) dist.toNat (hist ++ out2.toList) = copyL cnt.toNat dist.toNat (hist ++ out.toList) ∧ H [(st, .inst cFrameState dst), (dst, dState hd most bo hist.toArray tb ofs), (hd, .inst cFrameHeader dhd), (dhd, dHeader window size ident), (bo, .barr out2)] fr σ') ?_ ?_ ?_
      · exact ⟨by (run_tac krT), out, rfl, Nat.zero_le _, rfl, h1.pick [1, 2, 3, 4, 5]⟩
      · rintro loc σ2 ⟨hs, out2, e1, e2, e3, h2⟩
        (run_tac hlT)
        have e4 : (↑out.size - dist + cnt - (↑out.size - dist)).toNat = cnt.toNat := by (run_tac Mine.Lin.om)
        rw [e4, Nat.sub_self] at e3
        exact q (by (run_tac Mine.Lin.om)) out2 _ e3 h2
      · rintro k loc σ2 KK hk ⟨hs, out2, e1, e2, e3, h2⟩ hKK
        have hk : k < cnt.toNat := by (run_tac Mine.Lin.om)
        have hg : out2[(out.size - dist + k : Int).toNat]? = some (out2[(out.size - dist + k : Int).toNat]'(by (run_tac Mine.Lin.om))) := Array.getElem?_eq_getElem (by (run_tac Mine.Lin.om))
        (run_tac hlT)
        rw [hs]; (run_tac hlT)
        refine attr_inst (H.at 0 h2 rfl) (H.at 1 h2 rfl) (by kernel_rfl) (by kernel_rfl) (by (run_tac krT)) (by kernel_rfl) ?_; (run_tac hlT)
        refine meth_bapp (h2.at 4 rfl) ?_
        (run_tac hlT)
        rw [hs]; (run_tac hlT)
        refine attr_inst (H.at 0 h2 rfl) (H.at 1 h2 rfl) (by kernel_rfl) (by kernel_rfl) (by (run_tac krT)) (by kernel_rfl) ?_; (run_tac hlT)
        refine item_barr (h2.at 4 rfl) (by (run_tac Mine.Lin.om)) hg ?_
        (run_tac hlT)
        have hb := (out2[(out.size - dist + k : Int).toNat]'(by (run_tac Mine.Lin.om))).toNat_lt
        refine Happb 4 h2 rfl (by (run_tac Mine.Lin.om)) (by (run_tac Mine.Lin.om)) (by (run_tac Mine.Lin.om)) (by (run_tac krT)) fun σ3 h3 => ?_
        (run_tac hlT)
        refine hKK _ _ ⟨by (run_tac klT); exact hs, _, by simp; (run_tac Mine.Lin.om), hk, ?_, h3⟩
        rw [← e3, show cnt.toNat - k = (cnt.toNat - (k + 1)) + 1 by (run_tac Mine.Lin.om), copyL_succ]
        congr 1
        rw [Array.toList_push, ← List.append_assoc]
        congr 2
        rw [Int.toNat_natCast]
        rw [show ∀ u : UInt8, u.toNat.toUInt8 = u from fun u => UInt8.ofNat_toNat]
        rw [List.getD_eq_getElem?_getD, List.getElem?_append_right (by simp; (run_tac Mine.Lin.om))]
        have e5 : (hist ++ out2.toList).length - dist.toNat - hist.length = (out.size - dist + k : Int).toNat := by simp; (run_tac Mine.Lin.om)
        rw [e5, Array.getElem?_toList, hg]; rfl
    · have c2 := of_decide_eq_true c2
      (run_tac hlT)
      refine badDistance_ok (d := d + 1) (h.pick []) fun e dx σ2 h2 => ?_
      (run_tac hlT)
      rw [H.at 0 h2 rfl]; (run_tac hlT)
      exact qx (.inr (.inl ⟨c1, c2⟩)) _ _ _ ((h2.upd 0 (.exc cBadDistance (some dx) false) rfl).pick [0])
  run_tac endC
end
end Mine
end

section
open PySem PySem.W PyProof.Rows
set_option maxRecDepth 100000
namespace Mine

theorem part_int {i : Int} {t : Tok} (h : 0 ≤ i) : partOk (.int i t) = some (some i) := by simp [partOk, h]
noncomputable abbrev RowD := Int × Int × Int
/-- rows played: 0 and what is told; 1 a bad sequence; 2 a bad distance -/
noncomputable def playP (hist lit : List UInt8) (window most : Int) (begin : Nat) : List RowD → Int → List UInt8 → Int × Int × Int → Nat × List UInt8 × (Int × Int × Int)
  | [], spot, out, t => if (out.length : Int) - begin + lit.length - spot > most then (1, out, t) else (0, out ++ cutL lit (some spot) none, t)
  | (ahead, many, value) :: rs, spot, out, (a, b, c) =>
    if spot + ahead > lit.length then (1, out, a, b, c) else
    let out1 := out ++ cutL lit (some spot) (some (spot + ahead))
    let dp := toldD a b c value ahead
    if dp.1 = 0 ∨ (out1.length : Int) - begin + many > most then (1, out1, movedT a b c dp.1 dp.2) else
    if dp.1 > out1.length + hist.length ∨ (dp.1 ≤ out1.length ∧ dp.1 > window) ∨ (dp.1 > out1.length ∧ (out1.length : Int) > window) then (2, out1, movedT a b c dp.1 dp.2) else
    playP hist lit window most begin rs (spot + ahead) ((copyL many.toNat dp.1.toNat (hist ++ out1)).drop hist.length) (movedT a b c dp.1 dp.2)

theorem playP_nil {hist lit : List UInt8} {window most : Int} {begin : Nat} {spot : Int} {out : List UInt8} {t : Int × Int × Int} : playP hist lit window most begin [] spot out t = if (out.length : Int) - begin + lit.length - spot > most then (1, out, t) else (0, out ++ cutL lit (some spot) none, t) := rfl
theorem playP_cons {hist lit : List UInt8} {window most : Int} {begin : Nat} {spot : Int} {out : List UInt8} {ahead many value a b c : Int} {rs : List RowD} : playP hist lit window most begin ((ahead, many, value) :: rs) spot out (a, b, c) =
    if spot + ahead > lit.length then (1, out, a, b, c) else
    if (toldD a b c value ahead).1 = 0 ∨ ((out ++ cutL lit (some spot) (some (spot + ahead))).length : Int) - begin + many > most then (1, out ++ cutL lit (some spot) (some (spot + ahead)), movedT a b c (toldD a b c value ahead).1 (toldD a b c value ahead).2) else
    if (toldD a b c value ahead).1 > (out ++ cutL lit (some spot) (some (spot + ahead))).length + hist.length ∨ ((toldD a b c value ahead).1 ≤ (out ++ cutL lit (some spot) (some (spot + ahead))).length ∧ (toldD a b c value ahead).1 > window) ∨ ((toldD a b c value ahead).1 > (out ++ cutL lit (some spot) (some (spot + ahead))).length ∧ ((out ++ cutL lit (some spot) (some (spot + ahead))).length : Int) > window) then (2, out ++ cutL lit (some spot) (some (spot + ahead)), movedT a b c (toldD a b c value ahead).1 (toldD a b c value ahead).2) else
    playP hist lit window most begin rs (spot + ahead) ((copyL many.toNat (toldD a b c value ahead).1.toNat (hist ++ (out ++ cutL lit (some spot) (some (spot + ahead))))).drop hist.length) (movedT a b c (toldD a b c value ahead).1 (toldD a b c value ahead).2) := rfl

noncomputable abbrev RowA := Addr × RowD
noncomputable def rowO (r : RowA) : Addr × O := (r.1, .tup [vI r.2.1, vI r.2.2.1, vI r.2.2.2])
noncomputable def rowOk (r : RowD) : Prop := 0 ≤ r.1 ∧ 0 ≤ r.2.1 ∧ r.2.1 < 2 ^ 20 ∧ 1 ≤ r.2.2

/-- rows that may be played: what comes behind one that takes too many letters does not matter -/
noncomputable def rowsOk (n : Nat) : Int → List RowD → Prop
  | _, [] => True
  | s, r :: rs => rowOk r ∧ (s + r.1 ≤ n → rowsOk n (s + r.1) rs)
noncomputable def rowsEnd (n : Nat) : Int → List RowD → Option Int
  | s, [] => some s
  | s, r :: rs => if s + r.1 ≤ n then rowsEnd n (s + r.1) rs else none
theorem rowsOk_snoc {n : Nat} {r : RowD} : ∀ {rs : List RowD} {s : Int}, rowsOk n s rs → (∀ e, rowsEnd n s rs = some e → rowOk r) → rowsOk n s (rs ++ [r])
  | [], s, _, h => ⟨h s rfl, fun _ => trivial⟩
  | x :: rs, s, h, q => ⟨h.1, fun hs => rowsOk_snoc (h.2 hs) fun e he => q e (by unfold rowsEnd; rw [if_pos hs]; exact he)⟩
theorem rowsEnd_snoc {n : Nat} {r : RowD} : ∀ {rs : List RowD} {s : Int}, rowsEnd n s (rs ++ [r]) = (rowsEnd n s rs).bind fun e => if e + r.1 ≤ n then some (e + r.1) else none
  | [], s => by
    show (if s + r.1 ≤ n then rowsEnd n (s + r.1) [] else none) = _
    rfl
  | x :: rs, s => by
    show (if s + x.1 ≤ n then rowsEnd n (s + x.1) (rs ++ [r]) else none) = (if s + x.1 ≤ n then rowsEnd n (s + x.1) rs else none).bind _
    split
    · exact rowsEnd_snoc
    · rfl

theorem toldD_pos {a b c value ahead : Int} (ha : 1 ≤ a) (hb : 1 ≤ b) (hc : 1 ≤ c) (hv : 1 ≤ value) : 0 ≤ (toldD a b c value ahead).1 := by
  run_tac beginC
  have key : ∀ (x y : Int × Int) (p : Prop) [Decidable p], 0 ≤ x.1 → 0 ≤ y.1 → 0 ≤ (if p then x else y).1 := fun x y p _ hx hy => by split <;> assumption
  unfold toldD
  by_cases h : value > 3
  · rw [if_pos h]; show 0 ≤ value - 3; (run_tac Mine.Lin.om)
  · rw [if_neg h]
    exact key _ _ _ (show 0 ≤ a - 1 by (run_tac Mine.Lin.om)) (key _ _ _ (show 0 ≤ a by (run_tac Mine.Lin.om)) (key _ _ _ (show 0 ≤ b by (run_tac Mine.Lin.om)) (show 0 ≤ c by (run_tac Mine.Lin.om))))
  run_tac endC
theorem movedT_pos {a b c dist p : Int} (ha : 1 ≤ a) (hb : 1 ≤ b) (hc : 1 ≤ c) (hv : 1 ≤ dist) : 1 ≤ (movedT a b c dist p).1 ∧ 1 ≤ (movedT a b c dist p).2.1 ∧ 1 ≤ (movedT a b c dist p).2.2 := by
  run_tac beginC
  unfold movedT
  split
  · exact ⟨hv, ha, hc⟩
  · split
    · exact ⟨hv, ha, hb⟩
    · exact ⟨ha, hb, hc⟩
  run_tac endC
theorem cutL_len {l : List UInt8} {i j : Int} (hi : 0 ≤ i) (hj : i ≤ j) (hl : j ≤ l.length) : ((cutL l (some i) (some j)).length : Int) = j - i := by
  run_tac beginC
  unfold cutL
  simp only [List.length_drop, List.length_take]
  (run_tac Mine.Lin.om)
  run_tac endC
theorem copyL_len : ∀ {n dist : Nat} {past : List UInt8}, (copyL n dist past).length = past.length + n
  | 0, _, _ => rfl
  | n + 1, dist, past => by rw [copyL_succ, copyL_len]; simp; (run_tac Mine.Lin.om)
theorem copyL_pre : ∀ {n dist : Nat} {past : List UInt8}, ∃ r, copyL n dist past = past ++ r
  | 0, _, past => ⟨[], by simp [copyL]⟩
  | n + 1, dist, past => by
    rw [copyL_succ]
    obtain ⟨r, e⟩ := copyL_pre (n := n) (dist := dist) (past := past ++ [past.getD (past.length - dist) 0])
    exact ⟨_, by rw [e, List.append_assoc]⟩

section
variable {P : Params} {σ : Store} {fr : List (Addr × O)} {K : KV} {X : KX} {d : Nat}

theorem callI_P {a : Addr} {args : List Value} (ho : OW.contains a = false) (hs : ((K0 P).lookup a).isSome = true) (h : callD (K0 P) GG (d + 1) (.ref a) args σ K X) : callI (K0 P) GG OW (d + 1) (.ref a) args σ K X := by
  run_tac beginC
  show callStepI (K0 P) GG OW (callD (K0 P) GG d) (callI (K0 P) GG OW d) (.ref a) args σ K X
  unfold callStepI
  dsimp only
  split
  · rename_i q; rw [ho] at q; cases q
  · rename_i q; rw [ho] at q; cases q
  · rename_i q; rw [q] at hs; cases hs
  · exact h
  run_tac endC

theorem play_ok {st dst hd dhd bo tb ofs dof rl : Addr} {window most ident a b c : Int} {size : Value} {hist lit : List UInt8} {out : Array UInt8} {rs : List RowA}
    (h : H [(st, .inst cFrameState dst), (dst, dState hd most bo hist.toArray tb ofs), (hd, .inst cFrameHeader dhd), (dhd, dHeader window size ident), (bo, .barr out), (ofs, .inst cOffsets dof), (dof, dOffs a b c), (rl, .list (rs.map fun r => .ref r.1))] fr σ)
    (hr : ∀ r ∈ rs, rowO r ∈ fr) (hro : rowsOk lit.length 0 (rs.map (·.2))) (hw : 0 ≤ window) (hm : 0 ≤ most) (ha : 1 ≤ a) (hb : 1 ≤ b) (hc : 1 ≤ c) (hz : (out.size : Int) + most + lit.length + hist.length < 60000)
    (qx1 : (playP hist lit window most out.size (rs.map (·.2)) 0 out.toList (a, b, c)).1 = 1 → ∀ e dx σ', H [(e, .exc cBadSequence (some dx) false)] fr σ' → X e σ')
    (qx2 : (playP hist lit window most out.size (rs.map (·.2)) 0 out.toList (a, b, c)).1 = 2 → ∀ e dx σ', H [(e, .exc cBadDistance (some dx) false)] fr σ' → X e σ')
    (q : (playP hist lit window most out.size (rs.map (·.2)) 0 out.toList (a, b, c)).1 = 0 → ∀ out' a' b' c' σ', (playP hist lit window most out.size (rs.map (·.2)) 0 out.toList (a, b, c)).2 = (out'.toList, a', b', c') → 1 ≤ a' → 1 ≤ b' → 1 ≤ c' → (out'.size : Int) ≤ out.size + most →
      H [(st, .inst cFrameState dst), (dst, dState hd most bo hist.toArray tb ofs), (hd, .inst cFrameHeader dhd), (dhd, dHeader window size ident), (bo, .barr out'), (ofs, .inst cOffsets dof), (dof, dOffs a' b' c')] fr σ' → K .none σ') :
    callI (K0 P) GG OW (d + 7) (.ref fFrameState_play) [.ref st, .ref rl, vB lit.toArray] σ K X := by
  run_tac beginC
  show callStepI (K0 P) GG OW (callD (K0 P) GG (d + 6)) (callI (K0 P) GG OW (d + 6)) _ _ _ _ _
  (run_tac hlT)
  (run_tac hinT `L `hL)
  refine attr_inst (H.at 0 h rfl) (H.at 1 h rfl) (by kernel_rfl) (by kernel_rfl) (by (run_tac krT)) (by kernel_rfl) ?_; (run_tac hlT)
  refine len_barr (H.at 4 h rfl) ?_; (run_tac hlT)
  refine Halloc h fun t σ1 h1 => ?_; (run_tac hlT)
  refine seq_tup (h1.at 0 rfl) ?_
  (run_tac hlT)
  refine iter_list (h1.at 8 rfl) ?_
  (run_tac hlT)
  have hzl : lit.toArray.size ≤ LIM := by simp; unfold LIM; (run_tac Mine.Lin.om)
  have hzs : lit.toArray.size = lit.length := by simp
  generalize hR : playP hist lit window most out.size (rs.map (·.2)) 0 out.toList (a, b, c) = R at qx1 qx2 q
  refine forH_ind (fun items loc σ' => (loc (S "self") = some (.ref st) ∧ loc (S "literals") = some (vB lit.toArray) ∧ loc (S "begin") = some (vI out.size)) ∧ ∃ (rs' : List RowA) (spot : Int) (out2 : Array UInt8) (a2 b2 c2 : Int),
      items = rs'.map (fun r => Value.ref r.1) ∧ ((∀ r ∈ rs', rowO r ∈ fr) ∧ rowsOk lit.length spot (rs'.map (·.2))) ∧ loc (S "spot") = some (vI spot) ∧ 0 ≤ spot ∧ spot ≤ lit.length ∧ (out.size ≤ out2.size ∧ (out2.size : Int) ≤ out.size + most) ∧ (1 ≤ a2 ∧ 1 ≤ b2 ∧ 1 ≤ c2) ∧
      playP hist lit window most out.size (rs'.map (·.2)) spot out2.toList (a2, b2, c2) = R ∧
      H [(st, .inst cFrameState dst), (dst, dState hd most bo hist.toArray tb ofs), (hd, .inst cFrameHeader dhd), (dhd, dHeader window size ident), (bo, .barr out2), (ofs, .inst cOffsets dof), (dof, dOffs a2 b2 c2), (rl, .list (rs.map fun r => .ref r.1))] fr σ') ?_ ?_ _ _ _ ?_
  · rintro loc σ2 ⟨⟨l1, l2, l3⟩, rs', spot, out2, a2, b2, c2, e1, e2, l4, e3, e4, ⟨e5, e6⟩, ⟨p1, p2, p3⟩, e7, h2⟩
    refine ⟨h2.at 7 rfl, ?_⟩
    have : rs' = [] := by cases rs' with | nil => rfl | cons => cases e1
    subst this
    (run_tac hlT)
    rw [l1]; (run_tac hlT)
    refine attr_inst (H.at 0 h2 rfl) (H.at 1 h2 rfl) (by kernel_rfl) (by kernel_rfl) (by (run_tac krT)) (by kernel_rfl) ?_; (run_tac hlT)
    refine len_barr (H.at 4 h2 rfl) ?_; (run_tac hlT)
    rw [l3]; (run_tac hlT)
    rw [l2]; (run_tac hlT)
    refine ⟨hzl, ?_⟩
    (run_tac hlT)
    rw [l4]; (run_tac hlT)
    rw [l1]; (run_tac hlT)
    refine attr_inst (H.at 0 h2 rfl) (H.at 1 h2 rfl) (by kernel_rfl) (by kernel_rfl) (by (run_tac krT)) (by kernel_rfl) ?_; (run_tac hlT)
    have hout : out2.toList.length = out2.size := by simp
    rw [show ([] : List RowA).map (·.2) = [] from rfl, playP_nil] at e7
    (run_tac hcaseT `c1)
    · have c1 := of_decide_eq_false c1
      rw [if_neg (by rw [hout]; (run_tac Mine.Lin.om))] at e7
      (run_tac hlT)
      rw [l1]; (run_tac hlT)
      refine attr_inst (H.at 0 h2 rfl) (H.at 1 h2 rfl) (by kernel_rfl) (by kernel_rfl) (by (run_tac krT)) (by kernel_rfl) ?_; (run_tac hlT)
      refine meth_bext (h2.at 4 rfl) ?_
      (run_tac hlT)
      rw [l2]; (run_tac hlT)
      rw [l4]; (run_tac hlT)
      refine slice_bytes (lo := some spot) (hi := none) hzl (part_int e3) rfl ?_
      (run_tac hlT)
      have hcl : (cutL lit (some spot) none).length = lit.length - spot.toNat := by simp [cutL]
      have hcl2 : (cutL lit.toArray.toList (some spot) none).toArray.size = lit.length - spot.toNat := by simp [cutL]
      refine Hext (c := (cutL lit.toArray.toList (some spot) none).toArray) 4 h2 rfl (by rw [hcl2]; unfold LIM; (run_tac Mine.Lin.om)) (by (run_tac krT)) fun σ3 h3 => ?_
      (run_tac hlT)
      have h3 := h3.pick [0, 1, 2, 3, 4, 5, 6]
      refine q (by rw [← e7]) _ a2 b2 c2 _ (by rw [← e7]; simp) p1 p2 p3 (by rw [Array.size_append, hcl2]; (run_tac Mine.Lin.om)) h3
    · have c1 := of_decide_eq_true c1
      rw [if_pos (by rw [hout]; (run_tac Mine.Lin.om))] at e7
      (run_tac hlT)
      refine badSequence_ok (d := d + 3) (h2.pick []) fun e dx σ3 h3 => ?_
      (run_tac hlT)
      rw [H.at 0 h3 rfl]; (run_tac hlT)
      exact qx1 (by rw [← e7]) _ _ _ ((h3.upd 0 (.exc cBadSequence (some dx) false) rfl).pick [0])
  · rintro x xs loc σ2 KK ⟨⟨l1, l2, l3⟩, rs', spot, out2, a2, b2, c2, e1, e2, l4, e3, e4, ⟨e5, e6⟩, ⟨p1, p2, p3⟩, e7, h2⟩ hKK
    refine ⟨h2.at 7 rfl, ?_⟩
    cases rs' with
    | nil => cases e1
    | cons r rs' =>
      obtain ⟨ta, ahead, many, value⟩ := r
      obtain ⟨rfl, e1x⟩ := List.cons.inj e1
      have hrow := e2.1 _ (.head _)
      obtain ⟨⟨r1, r2, r3, r4⟩, r5⟩ := e2.2
      have hrow : (ta, O.tup [vI ahead, vI many, vI value]) ∈ fr := hrow
      dsimp only at r1 r2 r3 r4 r5
      rw [List.map_cons, playP_cons] at e7
      have hout : out2.toList.length = out2.size := by simp
      (run_tac hlT)
      refine seq_tup (h2.mem hrow) ?_
      (run_tac hlT)
      rw [l4]; (run_tac hlT)
      rw [l2]; (run_tac hlT)
      refine ⟨hzl, ?_⟩
      (run_tac hlT)
      (run_tac hcaseT `c1)
      · have c1 := of_decide_eq_false c1
        rw [if_neg (by (run_tac Mine.Lin.om))] at e7
        (run_tac hlT)
        rw [l1]; (run_tac hlT)
        refine attr_inst (H.at 0 h2 rfl) (H.at 1 h2 rfl) (by kernel_rfl) (by kernel_rfl) (by (run_tac krT)) (by kernel_rfl) ?_; (run_tac hlT)
        refine meth_bext (h2.at 4 rfl) ?_
        (run_tac hlT)
        rw [l2]; (run_tac hlT)
        rw [l4]; (run_tac hlT)
        rw [l4]; (run_tac hlT)
        refine slice_bytes (lo := some spot) (hi := some (spot + ahead)) hzl (part_int e3) (part_int (by (run_tac Mine.Lin.om))) ?_
        (run_tac hlT)
        have hcl : ((cutL lit (some spot) (some (spot + ahead))).length : Int) = ahead := by rw [cutL_len e3 (by (run_tac Mine.Lin.om)) (by (run_tac Mine.Lin.om))]; (run_tac Mine.Lin.om)
        have hcl2 : (cutL lit.toArray.toList (some spot) (some (spot + ahead))).toArray = (cutL lit (some spot) (some (spot + ahead))).toArray := rfl
        rw [hcl2]
        generalize hcut : cutL lit (some spot) (some (spot + ahead)) = cut at hcl e7 ⊢
        have hcs : cut.toArray.size = cut.length := by simp
        refine Hext (c := cut.toArray) 4 h2 rfl (by unfold LIM; (run_tac Mine.Lin.om)) (by (run_tac krT)) fun σ3 h3 => ?_
        have e8 : (out2 ++ cut.toArray).toList = out2.toList ++ cut := by simp
        have e9 : (out2 ++ cut.toArray).size = (out2.toList ++ cut).length := by simp
        rw [← e8] at e7
        generalize hout3 : out2 ++ cut.toArray = out3 at h3 e7 e8 e9
        have e10 : out3.toList.length = out3.size := by simp
        have e11 : (out3.size : Int) = out2.size + ahead := by rw [← hout3, Array.size_append, List.size_toArray]; (run_tac Mine.Lin.om)
        (run_tac hlT)
        rw [l4]; (run_tac hlT)
        rw [l1]; (run_tac hlT)
        refine attr_inst (H.at 0 h3 rfl) (H.at 1 h3 rfl) (by kernel_rfl) (by kernel_rfl) (by (run_tac krT)) (by kernel_rfl) ?_; (run_tac hlT)
        refine meth_inst (h3.at 5 rfl) (h3.at 6 rfl) (by (run_tac krT)) (by kernel_rfl) (f := fOffsets_distance) (by kernel_rfl) (by kernel_rfl) ?_
        (run_tac hlT)
        refine callI_P (by kernel_rfl) (by kernel_rfl) ?_
        have hp := toldD_pos (ahead := ahead) p1 p2 p3 r4
        refine distance_ok (d := d + 1) r4 r1 ((h3.pick [5, 6, 0, 1, 2, 3, 4, 7]).frame 2) (fun z e dx σ4 h4 => ?_) fun z σ4 h4 => ?_
        · exact qx1 (by rw [← e7, if_pos (.inl z)]) _ _ _ (h4.unframe.pick [0])
        · have h4 := h4.unframe.norm (by (run_tac krT))
          have hdp : 1 ≤ (toldD a2 b2 c2 value ahead).1 := by (run_tac Mine.Lin.om)
          have hmv := movedT_pos (p := (toldD a2 b2 c2 value ahead).2) p1 p2 p3 hdp
          generalize (toldD a2 b2 c2 value ahead) = dp at *
          obtain ⟨dist, pl⟩ := dp
          dsimp only at *
          generalize (movedT a2 b2 c2 dist pl) = abc at *
          obtain ⟨a3, b3, c3⟩ := abc
          dsimp only at *
          (run_tac hlT)
          rw [l1]; (run_tac hlT)
          refine attr_inst (H.at 2 h4 rfl) (H.at 3 h4 rfl) (by kernel_rfl) (by kernel_rfl) (by (run_tac krT)) (by kernel_rfl) ?_; (run_tac hlT)
          refine len_barr (H.at 6 h4 rfl) ?_; (run_tac hlT)
          rw [l3]; (run_tac hlT)
          rw [l1]; (run_tac hlT)
          refine attr_inst (H.at 2 h4 rfl) (H.at 3 h4 rfl) (by kernel_rfl) (by kernel_rfl) (by (run_tac krT)) (by kernel_rfl) ?_; (run_tac hlT)
          (run_tac hcaseT `c2)
          · have c2 := of_decide_eq_false c2
            rw [if_neg (by rw [e10]; (run_tac Mine.Lin.om))] at e7
            (run_tac hlT)
            rw [l1]; (run_tac hlT)
            refine meth_inst (h4.at 2 rfl) (h4.at 3 rfl) (by (run_tac krT)) (by kernel_rfl) (f := fFrameState_copy) (by kernel_rfl) (by kernel_rfl) ?_
            (run_tac hlT)
            refine copy_ok (d := d + 1) ((h4.pick [2, 3, 4, 5, 6, 0, 1, 7]).frame 5) hw hdp r2 r3 (by unfold LIM; (run_tac Mine.Lin.om)) (by unfold LIM; (run_tac Mine.Lin.om)) (fun z e dx σ5 h5 => ?_) fun z out4 σ5 e12 h5 => ?_
            · rw [e10, if_pos z] at e7
              exact qx2 (by rw [← e7]) _ _ _ (h5.unframe.pick [0])
            · rw [e10, if_neg z] at e7
              have h5 := h5.unframe.norm (by (run_tac krT))
              have e13 : out4.toList = (copyL many.toNat dist.toNat (hist ++ out3.toList)).drop hist.length := by rw [← e12]; simp
              rw [← e13] at e7
              have e14 : (out4.size : Int) = out3.size + many := by
                have := congrArg List.length e12
                rw [copyL_len] at this
                simp at this
                (run_tac Mine.Lin.om)
              (run_tac hlT)
              refine hKK _ _ ⟨⟨by (run_tac klT); exact l1, by (run_tac klT); exact l2, by (run_tac klT); exact l3⟩, rs', spot + ahead, out4, a3, b3, c3, e1x, ⟨fun r hr => e2.1 r (.tail _ hr), r5 (by (run_tac Mine.Lin.om))⟩, by (run_tac krT), by (run_tac Mine.Lin.om), by (run_tac Mine.Lin.om), ⟨by (run_tac Mine.Lin.om), by (run_tac Mine.Lin.om)⟩, hmv, e7, ?_⟩
              exact h5.pick [0, 1, 2, 3, 4, 5, 6, 7]
          · have c2 := of_decide_eq_true c2
            rw [if_pos (.inr (by rw [e10]; (run_tac Mine.Lin.om)))] at e7
            (run_tac hlT)
            refine badSequence_ok (d := d + 3) (h4.pick []) fun e dx σ5 h5 => ?_
            (run_tac hlT)
            rw [H.at 0 h5 rfl]; (run_tac hlT)
            exact qx1 (by rw [← e7]) _ _ _ ((h5.upd 0 (.exc cBadSequence (some dx) false) rfl).pick [0])
      · have c1 := of_decide_eq_true c1
        rw [if_pos (by (run_tac Mine.Lin.om))] at e7
        (run_tac hlT)
        refine badSequence_ok (d := d + 3) (h2.pick []) fun e dx σ3 h3 => ?_
        (run_tac hlT)
        rw [H.at 0 h3 rfl]; (run_tac hlT)
        exact qx1 (by rw [← e7]) _ _ _ ((h3.upd 0 (.exc cBadSequence (some dx) false) rfl).pick [0])
  · exact ⟨⟨by (run_tac krT), by (run_tac krT), by (run_tac krT)⟩, rs, 0, out, a, b, c, rfl, ⟨hr, hro⟩, by (run_tac krT), by (run_tac Mine.Lin.om), by (run_tac Mine.Lin.om), ⟨by (run_tac Mine.Lin.om), by (run_tac Mine.Lin.om)⟩, ⟨ha, hb, hc⟩, hR, h1.pick [1, 2, 3, 4, 5, 6, 7, 8]⟩
  run_tac endC
end
end Mine
end

section
open PySem PySem.W PyProof.Rows
set_option maxRecDepth 100000
namespace Mine

noncomputable def optV : Option Int → Value
  | none => .none
  | some n => vI n

section
variable {P : Params} {σ : Store} {fr : List (Addr × O)} {K : KV} {X : KX} {d : Nat}

theorem count_ok {st dst hd bo tb ofs hb dhb : Addr} {most kind bsize : Int} {hist : Array UInt8} {last : Value}
    (h : H [(st, .inst cFrameState dst), (dst, dState hd most bo hist tb ofs), (hb, .inst cBlockHead dhb), (dhb, dHead last kind bsize)] fr σ) (hs : tlong bsize) (hm : tlong most)
    (qx1 : kind = 3 → ∀ e dx σ', H [(e, .exc cBadBlock (some dx) false)] fr σ' → X e σ')
    (qx2 : kind ≠ 3 → bsize > most → ∀ e dx r σ', H [(e, .exc cTooLarge (some dx) false), (dx, .dict [(S "reason", r), (S "kind", vS (S "block")), (S "size", vI bsize), (S "most", vI most)])] fr σ' → X e σ')
    (q : kind ≠ 3 → ¬ bsize > most → K (vI (if kind = 1 then 1 else bsize)) σ) :
    callD (K0 P) GG (d + 5) (.ref fFrameState_contentcount) [.ref st, .ref hb] σ K X := by
  run_tac beginC
  show callStep (K0 P) GG (callD (K0 P) GG (d + 4)) _ _ _ _ _
  (run_tac hlT)
  (run_tac hinT `L `hL)
  refine attr_inst (H.at 2 h rfl) (H.at 3 h rfl) (by kernel_rfl) (by kernel_rfl) (by (run_tac krT)) (by kernel_rfl) ?_; (run_tac hlT)
  (run_tac hcaseT `c1)
  · have c1 := of_decide_eq_false c1
    (run_tac hlT)
    refine attr_inst (H.at 2 h rfl) (H.at 3 h rfl) (by kernel_rfl) (by kernel_rfl) (by (run_tac krT)) (by kernel_rfl) ?_; (run_tac hlT)
    refine attr_inst (H.at 0 h rfl) (H.at 1 h rfl) (by kernel_rfl) (by kernel_rfl) (by (run_tac krT)) (by kernel_rfl) ?_; (run_tac hlT)
    (run_tac hcaseT `c2)
    · have c2 := of_decide_eq_false c2
      have q := q c1 c2
      (run_tac hlT)
      refine attr_inst (H.at 2 h rfl) (H.at 3 h rfl) (by kernel_rfl) (by kernel_rfl) (by (run_tac krT)) (by kernel_rfl) ?_; (run_tac hlT)
      (run_tac hcaseT `c3)
      · have c3 := of_decide_eq_false c3
        rw [if_neg c3] at q
        (run_tac hlT)
        refine attr_inst (H.at 2 h rfl) (H.at 3 h rfl) (by kernel_rfl) (by kernel_rfl) (by (run_tac krT)) (by kernel_rfl) ?_; (run_tac hlT)
        exact q
      · have c3 := of_decide_eq_true c3
        rw [if_pos c3] at q
        (run_tac hlT)
        exact q
    · have c2 := of_decide_eq_true c2
      (run_tac hlT)
      refine attr_inst (H.at 2 h rfl) (H.at 3 h rfl) (by kernel_rfl) (by kernel_rfl) (by (run_tac krT)) (by kernel_rfl) ?_; (run_tac hlT)
      refine attr_inst (H.at 0 h rfl) (H.at 1 h rfl) (by kernel_rfl) (by kernel_rfl) (by (run_tac krT)) (by kernel_rfl) ?_; (run_tac hlT)
      refine tooLarge_ok (d := d) (h.pick []) (by (run_tac kdT)) hs hm fun e dx r σ2 h2 => ?_
      (run_tac hlT)
      rw [H.at 0 h2 rfl]; (run_tac hlT)
      exact qx2 c1 c2 _ _ _ _ (h2.upd 0 (.exc cTooLarge (some dx) false) rfl)
  · have c1 := of_decide_eq_true c1
    (run_tac hlT)
    refine badBlock_ok (d := d + 1) (h.pick []) fun e dx σ2 h2 => ?_
    (run_tac hlT)
    rw [H.at 0 h2 rfl]; (run_tac hlT)
    exact qx1 c1 _ _ _ ((h2.upd 0 (.exc cBadBlock (some dx) false) rfl).pick [0])
  run_tac endC

theorem close_ok {st dst hd dhd bo tb ofs : Addr} {most window ident : Int} {sz : Option Int} {hist out : Array UInt8}
    (h : H [(st, .inst cFrameState dst), (dst, dState hd most bo hist tb ofs), (hd, .inst cFrameHeader dhd), (dhd, dHeader window (optV sz) ident), (bo, .barr out)] fr σ) (hs : ∀ n, sz = some n → tlong n) (hm : tlong out.size)
    (qx : ∀ n, sz = some n → n ≠ out.size → ∀ e dx r σ', H [(e, .exc cBadSize (some dx) false), (dx, .dict [(S "reason", r), (S "kind", vS (S "content")), (S "told", vI n), (S "found", vI out.size)])] fr σ' → X e σ')
    (q : (∀ n, sz = some n → n = out.size) → K .none σ) :
    callD (K0 P) GG (d + 5) (.ref fFrameState_close) [.ref st] σ K X := by
  run_tac beginC
  show callStep (K0 P) GG (callD (K0 P) GG (d + 4)) _ _ _ _ _
  (run_tac hlT)
  (run_tac hinT `L `hL)
  refine attr_inst (H.at 0 h rfl) (H.at 1 h rfl) (by kernel_rfl) (by kernel_rfl) (by (run_tac krT)) (by kernel_rfl) ?_; (run_tac hlT)
  cases sz with
  | none =>
    dsimp only [optV] at h
    refine attr_inst (H.at 2 h rfl) (H.at 3 h rfl) (by kernel_rfl) (by kernel_rfl) (by (run_tac krT)) (by kernel_rfl) ?_; (run_tac hlT)
    exact q (fun n e => by cases e)
  | some n =>
    dsimp only [optV] at h
    refine attr_inst (H.at 2 h rfl) (H.at 3 h rfl) (by kernel_rfl) (by kernel_rfl) (by (run_tac krT)) (by kernel_rfl) ?_; (run_tac hlT)
    refine attr_inst (H.at 0 h rfl) (H.at 1 h rfl) (by kernel_rfl) (by kernel_rfl) (by (run_tac krT)) (by kernel_rfl) ?_; (run_tac hlT)
    refine len_barr (H.at 4 h rfl) ?_; (run_tac hlT)
    refine attr_inst (H.at 0 h rfl) (H.at 1 h rfl) (by kernel_rfl) (by kernel_rfl) (by (run_tac krT)) (by kernel_rfl) ?_; (run_tac hlT)
    refine attr_inst (H.at 2 h rfl) (H.at 3 h rfl) (by kernel_rfl) (by kernel_rfl) (by (run_tac krT)) (by kernel_rfl) ?_; (run_tac hlT)
    (run_tac hcaseT `c1)
    · have c1 := of_decide_eq_false c1
      (run_tac hlT)
      exact q (fun n e => by cases e; (run_tac Mine.Lin.om))
    · have c1 := of_decide_eq_true c1
      (run_tac hlT)
      refine attr_inst (H.at 0 h rfl) (H.at 1 h rfl) (by kernel_rfl) (by kernel_rfl) (by (run_tac krT)) (by kernel_rfl) ?_; (run_tac hlT)
      refine attr_inst (H.at 2 h rfl) (H.at 3 h rfl) (by kernel_rfl) (by kernel_rfl) (by (run_tac krT)) (by kernel_rfl) ?_; (run_tac hlT)
      refine attr_inst (H.at 0 h rfl) (H.at 1 h rfl) (by kernel_rfl) (by kernel_rfl) (by (run_tac krT)) (by kernel_rfl) ?_; (run_tac hlT)
      refine len_barr (H.at 4 h rfl) ?_; (run_tac hlT)
      refine badSize_ok (d := d) (h.pick []) (by (run_tac kdT)) (hs _ rfl) hm fun e dx r σ2 h2 => ?_
      (run_tac hlT)
      rw [H.at 0 h2 rfl]; (run_tac hlT)
      exact qx n rfl (by (run_tac Mine.Lin.om)) _ _ _ _ (h2.upd 0 (.exc cBadSize (some dx) false) rfl)
  run_tac endC

/-- what a block of this kind puts down -/
noncomputable def moreP (kind bsize : Int) (content : List UInt8) : List UInt8 := if kind = 0 then content else (List.replicate bsize.toNat content).flatten

theorem block_ok {st dst hd dhd bo tb ofs hb dhb : Addr} {most window ident kind bsize : Int} {sz : Option Int} {hist out : Array UInt8} {content : List UInt8} {last : Value}
    (h : H [(st, .inst cFrameState dst), (dst, dState hd most bo hist tb ofs), (hd, .inst cFrameHeader dhd), (dhd, dHeader window (optV sz) ident), (bo, .barr out), (hb, .inst cBlockHead dhb), (dhb, dHead last kind bsize)] fr σ)
    (hk : kind = 0 ∨ kind = 1) (hc : kind = 1 → content.length = 1) (hs : ∀ n, sz = some n → tlong n) (hb0 : 0 ≤ bsize) (hb1 : bsize < 4096) (hz : out.size + (moreP kind bsize content).length < LIM)
    (qx : ∀ n, sz = some n → (out.size + (moreP kind bsize content).length : Int) > n → ∀ e dx r σ', H [(e, .exc cBadSize (some dx) false), (dx, .dict [(S "reason", r), (S "kind", vS (S "content")), (S "told", vI n), (S "found", vI (out.size + (moreP kind bsize content).length : Nat))])] fr σ' → X e σ')
    (q : (∀ n, sz = some n → ¬ (out.size + (moreP kind bsize content).length : Int) > n) → ∀ σ', H [(st, .inst cFrameState dst), (dst, dState hd most bo hist tb ofs), (hd, .inst cFrameHeader dhd), (dhd, dHeader window (optV sz) ident), (bo, .barr (out ++ (moreP kind bsize content).toArray)), (hb, .inst cBlockHead dhb), (dhb, dHead last kind bsize)] fr σ' → K (vB (moreP kind bsize content).toArray) σ') :
    callI (K0 P) GG OW (d + 5) (.ref fFrameState_block) [.ref st, .ref hb, vB content.toArray] σ K X := by
  run_tac beginC
  show callStepI (K0 P) GG OW (callD (K0 P) GG (d + 4)) (callI (K0 P) GG OW (d + 4)) _ _ _ _ _
  (run_tac hlT)
  (run_tac hinT `L `hL)
  refine attr_inst (H.at 0 h rfl) (H.at 1 h rfl) (by kernel_rfl) (by kernel_rfl) (by (run_tac krT)) (by kernel_rfl) ?_; (run_tac hlT)
  refine len_barr (H.at 4 h rfl) ?_; (run_tac hlT)
  refine attr_inst (H.at 5 h rfl) (H.at 6 h rfl) (by kernel_rfl) (by kernel_rfl) (by (run_tac krT)) (by kernel_rfl) ?_; (run_tac hlT)
  (run_tac hcaseT `c1)
  · have c1 := of_decide_eq_false c1
    have hk1 : kind = 1 := by (run_tac Mine.Lin.om)
    (run_tac hlT)
    refine attr_inst (H.at 5 h rfl) (H.at 6 h rfl) (by kernel_rfl) (by kernel_rfl) (by (run_tac krT)) (by kernel_rfl) ?_; (run_tac hlT)
    (run_tac hcaseT `c2)
    · exfalso; have := of_decide_eq_false c2; (run_tac Mine.Lin.om)
    · (run_tac hlT)
      refine attr_inst (H.at 0 h rfl) (H.at 1 h rfl) (by kernel_rfl) (by kernel_rfl) (by (run_tac krT)) (by kernel_rfl) ?_; (run_tac hlT)
      refine meth_bext (h.at 4 rfl) ?_
      (run_tac hlT)
      refine attr_inst (H.at 5 h rfl) (H.at 6 h rfl) (by kernel_rfl) (by kernel_rfl) (by (run_tac krT)) (by kernel_rfl) ?_; (run_tac hlT)
      refine ⟨hb0, hb1, by simp; rw [hc hk1]; decide, by simp; rw [hc hk1]; decide, ?_⟩
      (run_tac hlT)
      have hmore : moreP kind bsize content = (List.replicate bsize.toNat content).flatten := by unfold moreP; rw [if_neg (by (run_tac Mine.Lin.om))]
      rw [hmore] at hz qx q
      show bextH [Value.ref bo, vB (List.replicate bsize.toNat content).flatten.toArray] σ _
      generalize (List.replicate bsize.toNat content).flatten = more at hz qx q ⊢
      have hms : more.toArray.size = more.length := by simp
      refine Hext (c := more.toArray) 4 h rfl (by (run_tac Mine.Lin.om)) (by (run_tac krT)) fun σ3 h3 => ?_
      have hcut : (cutL (out ++ more.toArray).toList (some (out.size : Int)) none).toArray = more.toArray := by simp [cutL]
      have hsz : (out ++ more.toArray).size = out.size + more.length := by simp
      (run_tac hlT)
      cases sz with
      | none =>
        dsimp only [optV] at h3 q
        have q := q (fun n e => by cases e)
        refine attr_inst (H.at 0 h3 rfl) (H.at 1 h3 rfl) (by kernel_rfl) (by kernel_rfl) (by (run_tac krT)) (by kernel_rfl) ?_; (run_tac hlT)
        refine attr_inst (H.at 2 h3 rfl) (H.at 3 h3 rfl) (by kernel_rfl) (by kernel_rfl) (by (run_tac krT)) (by kernel_rfl) ?_; (run_tac hlT)
        refine attr_inst (H.at 0 h3 rfl) (H.at 1 h3 rfl) (by kernel_rfl) (by kernel_rfl) (by (run_tac krT)) (by kernel_rfl) ?_; (run_tac hlT)
        refine slice_barr (lo := some (out.size : Int)) (hi := none) (h3.at 4 rfl) (part_int (by (run_tac Mine.Lin.om))) rfl ?_
        refine Halloc h3 fun t σ4 h4 => ?_; (run_tac hlT)
        refine bytes_barr (h4.at 0 rfl) ?_
        (run_tac hlT)
        rw [hcut]
        exact q _ (h4.pick [1, 2, 3, 4, 5, 6, 7])
      | some n =>
        dsimp only [optV] at h3 q
        refine attr_inst (H.at 0 h3 rfl) (H.at 1 h3 rfl) (by kernel_rfl) (by kernel_rfl) (by (run_tac krT)) (by kernel_rfl) ?_; (run_tac hlT)
        refine attr_inst (H.at 2 h3 rfl) (H.at 3 h3 rfl) (by kernel_rfl) (by kernel_rfl) (by (run_tac krT)) (by kernel_rfl) ?_; (run_tac hlT)
        refine attr_inst (H.at 0 h3 rfl) (H.at 1 h3 rfl) (by kernel_rfl) (by kernel_rfl) (by (run_tac krT)) (by kernel_rfl) ?_; (run_tac hlT)
        refine len_barr (H.at 4 h3 rfl) ?_; (run_tac hlT)
        refine attr_inst (H.at 0 h3 rfl) (H.at 1 h3 rfl) (by kernel_rfl) (by kernel_rfl) (by (run_tac krT)) (by kernel_rfl) ?_; (run_tac hlT)
        refine attr_inst (H.at 2 h3 rfl) (H.at 3 h3 rfl) (by kernel_rfl) (by kernel_rfl) (by (run_tac krT)) (by kernel_rfl) ?_; (run_tac hlT)
        (run_tac hcaseT `c5)
        · have c5 := of_decide_eq_false c5
          have q := q (fun m e => by cases e; (run_tac Mine.Lin.om))
          (run_tac hlT)
          refine attr_inst (H.at 0 h3 rfl) (H.at 1 h3 rfl) (by kernel_rfl) (by kernel_rfl) (by (run_tac krT)) (by kernel_rfl) ?_; (run_tac hlT)
          refine slice_barr (lo := some (out.size : Int)) (hi := none) (h3.at 4 rfl) (part_int (by (run_tac Mine.Lin.om))) rfl ?_
          refine Halloc h3 fun t σ4 h4 => ?_; (run_tac hlT)
          refine bytes_barr (h4.at 0 rfl) ?_
          (run_tac hlT)
          rw [hcut]
          exact q _ (h4.pick [1, 2, 3, 4, 5, 6, 7])
        · have c5 := of_decide_eq_true c5
          (run_tac hlT)
          refine attr_inst (H.at 0 h3 rfl) (H.at 1 h3 rfl) (by kernel_rfl) (by kernel_rfl) (by (run_tac krT)) (by kernel_rfl) ?_; (run_tac hlT)
          refine attr_inst (H.at 2 h3 rfl) (H.at 3 h3 rfl) (by kernel_rfl) (by kernel_rfl) (by (run_tac krT)) (by kernel_rfl) ?_; (run_tac hlT)
          refine attr_inst (H.at 0 h3 rfl) (H.at 1 h3 rfl) (by kernel_rfl) (by kernel_rfl) (by (run_tac krT)) (by kernel_rfl) ?_; (run_tac hlT)
          refine len_barr (H.at 4 h3 rfl) ?_; (run_tac hlT)
          refine badSize_ok (d := d) (h3.pick []) (by (run_tac kdT)) (hs _ rfl) (by unfold tlong; unfold LIM at hz; (run_tac Mine.Lin.om)) fun e dx r σ4 h4 => ?_
          (run_tac hlT)
          rw [H.at 0 h4 rfl]; (run_tac hlT)
          have qx := qx n rfl (by (run_tac Mine.Lin.om)) e dx r _ (by rw [← hsz]; exact h4.upd 0 (.exc cBadSize (some dx) false) rfl)
          exact qx
  · have c1 := of_decide_eq_true c1
    (run_tac hlT)
    refine attr_inst (H.at 0 h rfl) (H.at 1 h rfl) (by kernel_rfl) (by kernel_rfl) (by (run_tac krT)) (by kernel_rfl) ?_; (run_tac hlT)
    refine meth_bext (h.at 4 rfl) ?_
    (run_tac hlT)
    have hmore : moreP kind bsize content = content := by unfold moreP; rw [if_pos (by (run_tac Mine.Lin.om))]
    rw [hmore] at hz qx q
    generalize content = more at hz qx q ⊢
    have hms : more.toArray.size = more.length := by simp
    refine Hext (c := more.toArray) 4 h rfl (by (run_tac Mine.Lin.om)) (by (run_tac krT)) fun σ3 h3 => ?_
    have hcut : (cutL (out ++ more.toArray).toList (some (out.size : Int)) none).toArray = more.toArray := by simp [cutL]
    have hsz : (out ++ more.toArray).size = out.size + more.length := by simp
    (run_tac hlT)
    cases sz with
    | none =>
      dsimp only [optV] at h3 q
      have q := q (fun n e => by cases e)
      refine attr_inst (H.at 0 h3 rfl) (H.at 1 h3 rfl) (by kernel_rfl) (by kernel_rfl) (by (run_tac krT)) (by kernel_rfl) ?_; (run_tac hlT)
      refine attr_inst (H.at 2 h3 rfl) (H.at 3 h3 rfl) (by kernel_rfl) (by kernel_rfl) (by (run_tac krT)) (by kernel_rfl) ?_; (run_tac hlT)
      refine attr_inst (H.at 0 h3 rfl) (H.at 1 h3 rfl) (by kernel_rfl) (by kernel_rfl) (by (run_tac krT)) (by kernel_rfl) ?_; (run_tac hlT)
      refine slice_barr (lo := some (out.size : Int)) (hi := none) (h3.at 4 rfl) (part_int (by (run_tac Mine.Lin.om))) rfl ?_
      refine Halloc h3 fun t σ4 h4 => ?_; (run_tac hlT)
      refine bytes_barr (h4.at 0 rfl) ?_
      (run_tac hlT)
      rw [hcut]
      exact q _ (h4.pick [1, 2, 3, 4, 5, 6, 7])
    | some n =>
      dsimp only [optV] at h3 q
      refine attr_inst (H.at 0 h3 rfl) (H.at 1 h3 rfl) (by kernel_rfl) (by kernel_rfl) (by (run_tac krT)) (by kernel_rfl) ?_; (run_tac hlT)
      refine attr_inst (H.at 2 h3 rfl) (H.at 3 h3 rfl) (by kernel_rfl) (by kernel_rfl) (by (run_tac krT)) (by kernel_rfl) ?_; (run_tac hlT)
      refine attr_inst (H.at 0 h3 rfl) (H.at 1 h3 rfl) (by kernel_rfl) (by kernel_rfl) (by (run_tac krT)) (by kernel_rfl) ?_; (run_tac hlT)
      refine len_barr (H.at 4 h3 rfl) ?_; (run_tac hlT)
      refine attr_inst (H.at 0 h3 rfl) (H.at 1 h3 rfl) (by kernel_rfl) (by kernel_rfl) (by (run_tac krT)) (by kernel_rfl) ?_; (run_tac hlT)
      refine attr_inst (H.at 2 h3 rfl) (H.at 3 h3 rfl) (by kernel_rfl) (by kernel_rfl) (by (run_tac krT)) (by kernel_rfl) ?_; (run_tac hlT)
      (run_tac hcaseT `c5)
      · have c5 := of_decide_eq_false c5
        have q := q (fun m e => by cases e; (run_tac Mine.Lin.om))
        (run_tac hlT)
        refine attr_inst (H.at 0 h3 rfl) (H.at 1 h3 rfl) (by kernel_rfl) (by kernel_rfl) (by (run_tac krT)) (by kernel_rfl) ?_; (run_tac hlT)
        refine slice_barr (lo := some (out.size : Int)) (hi := none) (h3.at 4 rfl) (part_int (by (run_tac Mine.Lin.om))) rfl ?_
        refine Halloc h3 fun t σ4 h4 => ?_; (run_tac hlT)
        refine bytes_barr (h4.at 0 rfl) ?_
        (run_tac hlT)
        rw [hcut]
        exact q _ (h4.pick [1, 2, 3, 4, 5, 6, 7])
      · have c5 := of_decide_eq_true c5
        (run_tac hlT)
        refine attr_inst (H.at 0 h3 rfl) (H.at 1 h3 rfl) (by kernel_rfl) (by kernel_rfl) (by (run_tac krT)) (by kernel_rfl) ?_; (run_tac hlT)
        refine attr_inst (H.at 2 h3 rfl) (H.at 3 h3 rfl) (by kernel_rfl) (by kernel_rfl) (by (run_tac krT)) (by kernel_rfl) ?_; (run_tac hlT)
        refine attr_inst (H.at 0 h3 rfl) (H.at 1 h3 rfl) (by kernel_rfl) (by kernel_rfl) (by (run_tac krT)) (by kernel_rfl) ?_; (run_tac hlT)
        refine len_barr (H.at 4 h3 rfl) ?_; (run_tac hlT)
        refine badSize_ok (d := d) (h3.pick []) (by (run_tac kdT)) (hs _ rfl) (by unfold tlong; unfold LIM at hz; (run_tac Mine.Lin.om)) fun e dx r σ4 h4 => ?_
        (run_tac hlT)
        rw [H.at 0 h4 rfl]; (run_tac hlT)
        have qx := qx n rfl (by (run_tac Mine.Lin.om)) e dx r _ (by rw [← hsz]; exact h4.upd 0 (.exc cBadSize (some dx) false) rfl)
        exact qx
  run_tac endC
end
end Mine
end

section
open PySem PySem.W PyProof.Rows
set_option maxRecDepth 100000
namespace Mine

/-- a dictionary: its object, its dict, its tuple; number, content, three -/
noncomputable abbrev DicA := Addr × Addr × Addr × Int × List UInt8 × Int × Int × Int
noncomputable def dicO (z : DicA) : List (Addr × O) := [(z.1, .inst cDictionary z.2.1), (z.2.1, dDict z.2.2.2.1 z.2.2.2.2.1.toArray z.2.2.1), (z.2.2.1, .tup [vI z.2.2.2.2.2.1, vI z.2.2.2.2.2.2.1, vI z.2.2.2.2.2.2.2])]
inductive Pk where
  | at (i : Nat)
  | no
  | needs
  | wrong (w : Int)
noncomputable def pickI (ids : List Int) (ident : Int) : Pk := match ids.findIdx? (· = ident) with
  | some i => .at i
  | none => if ident = 0 then (if ids.length = 1 then .at 0 else .no) else match ids with
    | [] => .needs
    | w :: _ => .wrong w

section
variable {P : Params} {σ : Store} {fr : List (Addr × O)} {K : KV} {X : KX} {d : Nat}

theorem dict_ok {ident a b c : Int} {content : List UInt8} {tl : Addr} (hi : 0 ≤ ident) (hi2 : ident < 2 ^ 32) (h : H [(tl, .list [vI a, vI b, vI c])] fr σ)
    (q : ∀ x dx t σ', H [(x, .inst cDictionary dx), (dx, dDict ident content.toArray t), (t, .tup [vI a, vI b, vI c]), (tl, .list [vI a, vI b, vI c])] fr σ' → K (.ref x) σ') :
    callD (K0 P) GG (d + 3) (.ref cDictionary) [vI ident, vB content.toArray, .none, .none, .ref tl] σ K X := by
  run_tac beginC
  show callStep (K0 P) GG (callD (K0 P) GG (d + 2)) _ _ _ _ _
  (run_tac hlT)
  intro dx hdx x hx
  have h1 := (h.new (o := .dict []) hdx).new (o := .inst cDictionary dx) hx
  show callStep (K0 P) GG (callD (K0 P) GG (d + 1)) _ _ _ _ _
  (run_tac hlT)
  (run_tac hinT `L `hL)
  (run_tac hcaseT `c1)
  · exfalso; have := of_decide_eq_false c1; (run_tac Mine.Lin.om)
  · (run_tac hlT)
    (run_tac hcaseT `c2)
    · (run_tac hlT)
      refine Hsattr 0 1 h1 rfl rfl (by kernel_rfl) (by kernel_rfl) (by (run_tac kdT)) (by (run_tac krT)) (by (run_tac krT)) fun σ1 h2 => ?_; (run_tac hlT)
      refine Hsattr 0 1 h2 rfl rfl (by kernel_rfl) (by kernel_rfl) (by (run_tac kdT)) (by (run_tac krT)) (by (run_tac krT)) fun σ2 h3 => ?_; (run_tac hlT)
      refine Hsattr 0 1 h3 rfl rfl (by kernel_rfl) (by kernel_rfl) (by (run_tac kdT)) (by (run_tac krT)) (by (run_tac krT)) fun σ3 h4 => ?_; (run_tac hlT)
      refine Hsattr 0 1 h4 rfl rfl (by kernel_rfl) (by kernel_rfl) (by (run_tac kdT)) (by (run_tac krT)) (by (run_tac krT)) fun σ4 h5 => ?_; (run_tac hlT)
      refine ⟨_, h5.at 2 rfl, ?_⟩
      refine Halloc h5 fun t σ5 h6 => ?_; (run_tac hlT)
      refine Hsattr 1 2 h6 rfl rfl (by kernel_rfl) (by kernel_rfl) (by (run_tac kdT)) (by (run_tac krT)) (by (run_tac krT)) fun σ6 h7 => ?_; (run_tac hlT)
      exact q _ _ _ _ (h7.pick [1, 2, 0, 3])
    · exfalso
      simp at c2
      (run_tac Mine.Lin.om)
  run_tac endC

theorem begin_ok {st dst hd bo tb ofs : Addr} {z : DicA} {most : Int} {hist : Array UInt8} (h1 : 1 ≤ z.2.2.2.2.2.1) (h2 : 1 ≤ z.2.2.2.2.2.2.1) (h3 : 1 ≤ z.2.2.2.2.2.2.2)
    (h : H [(st, .inst cFrameState dst), (dst, dState hd most bo hist tb ofs)] fr σ) (hz : ∀ p ∈ dicO z, p ∈ fr)
    (q : ∀ ofs' dof σ', H [(st, .inst cFrameState dst), (dst, dState hd most bo z.2.2.2.2.1.toArray tb ofs'), (ofs', .inst cOffsets dof), (dof, dOffs z.2.2.2.2.2.1 z.2.2.2.2.2.2.1 z.2.2.2.2.2.2.2)] fr σ' → K .none σ') :
    callD (K0 P) GG (d + 3) (.ref fFrameState_beginwith) [.ref st, .ref z.1] σ K X := by
  run_tac beginC
  obtain ⟨x, dx, t, ident, content, a, b, c⟩ := z
  dsimp only at *
  have z1 : (x, O.inst cDictionary dx) ∈ fr := hz _ (.head _)
  have z2 : (dx, dDict ident content.toArray t) ∈ fr := hz _ (.tail _ (.head _))
  have z3 : (t, O.tup [vI a, vI b, vI c]) ∈ fr := hz _ (.tail _ (.tail _ (.head _)))
  show callStep (K0 P) GG (callD (K0 P) GG (d + 2)) _ _ _ _ _
  (run_tac hlT)
  (run_tac hinT `L `hL)
  refine attr_inst (h.mem z1) (h.mem z2) (by kernel_rfl) (by kernel_rfl) (by (run_tac krT)) (by kernel_rfl) ?_
  (run_tac hlT)
  refine Hsattr 0 1 h rfl rfl (by kernel_rfl) (by kernel_rfl) (by (run_tac kdT)) (by (run_tac krT)) (by (run_tac krT)) fun σ1 h4 => ?_; (run_tac hlT)
  refine attr_inst (h4.mem z1) (h4.mem z2) (by kernel_rfl) (by kernel_rfl) (by (run_tac krT)) (by kernel_rfl) ?_
  (run_tac hlT)
  refine Hsattr 0 1 h4 rfl rfl (by kernel_rfl) (by kernel_rfl) (by (run_tac kdT)) (by (run_tac krT)) (by (run_tac krT)) fun σ2 h5 => ?_; (run_tac hlT)
  refine attr_inst (h5.mem z1) (h5.mem z2) (by kernel_rfl) (by kernel_rfl) (by (run_tac krT)) (by kernel_rfl) ?_
  (run_tac hlT)
  refine attr_inst (h5.mem z1) (h5.mem z2) (by kernel_rfl) (by kernel_rfl) (by (run_tac krT)) (by kernel_rfl) ?_
  (run_tac hlT)
  refine seq_tup (h5.mem z3) ?_
  (run_tac hlT)
  refine offsets_ok (d := d) h1 h2 h3 (h5.frame 0) fun ofs' dof σ3 h6 => ?_
  have h6 := h6.unframe.norm (by (run_tac krT))
  (run_tac hlT)
  refine Hsattr 2 3 h6 rfl rfl (by kernel_rfl) (by kernel_rfl) (by (run_tac kdT)) (by (run_tac krT)) (by (run_tac krT)) fun σ4 h7 => ?_; (run_tac hlT)
  exact q _ _ _ (h7.pick [2, 3, 0, 1])
  run_tac endC

theorem pick_ok {rl : Addr} {ds : List DicA} {ident : Int} (h : H [(rl, .list (ds.map fun z => .ref z.1))] fr σ) (hz : ∀ z ∈ ds, ∀ p ∈ dicO z, p ∈ fr) (hi : tlong ident) (hj : ∀ z ∈ ds, tlong z.2.2.2.1)
    (qx1 : pickI (ds.map (·.2.2.2.1)) ident = .needs → ∀ e dx r σ', H [(e, .exc cNeedsDictionary (some dx) false), (dx, .dict [(S "reason", r), (S "ident", vI ident)])] fr σ' → X e σ')
    (qx2 : ∀ w, pickI (ds.map (·.2.2.2.1)) ident = .wrong w → ∀ e dx r σ', H [(e, .exc cWrongDictionary (some dx) false), (dx, .dict [(S "reason", r), (S "told", vI ident), (S "found", vI w)])] fr σ' → X e σ')
    (q1 : ∀ i z, pickI (ds.map (·.2.2.2.1)) ident = .at i → ds[i]? = some z → K (.ref z.1) σ)
    (q2 : pickI (ds.map (·.2.2.2.1)) ident = .no → K .none σ) :
    callD (K0 P) GG (d + 5) (.ref fpick_dictionary) [.ref rl, vI ident] σ K X := by
  run_tac beginC
  show callStep (K0 P) GG (callD (K0 P) GG (d + 4)) _ _ _ _ _
  (run_tac hlT)
  (run_tac hinT `L `hL)
  refine iter_list (h.at 0 rfl) ?_
  (run_tac hlT)
  refine forH_ind (fun items loc σ' => σ' = σ ∧ (loc (S "ident") = some (vI ident) ∧ loc (S "dictionaries") = some (.ref rl)) ∧ ∃ pre post, ds = pre ++ post ∧ items = post.map (fun z => Value.ref z.1) ∧ ∀ z ∈ pre, z.2.2.2.1 ≠ ident) ?_ ?_ _ _ _ ?_
  · rintro loc σ2 ⟨rfl, ⟨l1, l2⟩, pre, post, rfl, e1, e2⟩
    have : post = [] := by cases post with | nil => rfl | cons => cases e1
    subst this
    rw [List.append_nil] at *
    have hno : (pre.map (·.2.2.2.1)).findIdx? (· = ident) = none := by
      rw [List.findIdx?_eq_none_iff]
      intro x hx
      obtain ⟨z, hz, rfl⟩ := List.mem_map.mp hx
      simpa using e2 z hz
    refine ⟨h.at 0 rfl, ?_⟩
    (run_tac hlT)
    rw [l1]; (run_tac hlT)
    (run_tac hcaseT `c1)
    · have c1 := of_decide_eq_false c1
      (run_tac hlT)
      rw [l2]; (run_tac hlT)
      refine len_list (H.at 0 h rfl) ?_; (run_tac hlT)
      (run_tac hcaseT `c2)
      · have c2 := of_decide_eq_false c2
        cases pre with
        | nil => exact absurd rfl c2
        | cons z pre =>
          have hp : pickI ((z :: pre).map (·.2.2.2.1)) ident = .wrong z.2.2.2.1 := by
            unfold pickI; rw [hno]; dsimp only; rw [if_neg c1]; rfl
          have z1 : (z.1, O.inst cDictionary z.2.1) ∈ fr := hz z (.head _) _ (.head _)
          have z2 : (z.2.1, dDict z.2.2.2.1 z.2.2.2.2.1.toArray z.2.2.1) ∈ fr := hz z (.head _) _ (.tail _ (.head _))
          (run_tac hlT)
          rw [l1]; (run_tac hlT)
          rw [l2]; (run_tac hlT)
          refine item_list (h.at 0 rfl) (by decide) rfl ?_
          (run_tac hlT)
          refine attr_inst (h.mem z1) (h.mem z2) (by kernel_rfl) (by kernel_rfl) (by (run_tac krT)) (by kernel_rfl) ?_
          (run_tac hlT)
          refine wrong_ok (d := d) (h.pick []) hi (hj z (.head _)) fun e dx r σ2 h2 => ?_
          (run_tac hlT)
          rw [H.at 0 h2 rfl]; (run_tac hlT)
          exact qx2 _ hp _ _ _ _ (h2.upd 0 (.exc cWrongDictionary (some dx) false) rfl)
      · have c2 := of_decide_eq_true c2
        have : pre = [] := by
          rw [List.length_map] at c2
          exact List.eq_nil_of_length_eq_zero (by (run_tac Mine.Lin.om))
        subst this
        (run_tac hlT)
        rw [l1]; (run_tac hlT)
        refine needs_ok (d := d) (h.pick []) hi fun e dx r σ2 h2 => ?_
        (run_tac hlT)
        rw [H.at 0 h2 rfl]; (run_tac hlT)
        exact qx1 (by unfold pickI; rw [hno]; dsimp only; rw [if_neg c1]; rfl) _ _ _ _ (h2.upd 0 (.exc cNeedsDictionary (some dx) false) rfl)
    · have c1 := of_decide_eq_true c1
      (run_tac hlT)
      rw [l2]; (run_tac hlT)
      refine len_list (H.at 0 h rfl) ?_; (run_tac hlT)
      (run_tac hcaseT `c2)
      · have c2 := of_decide_eq_false c2
        (run_tac hlT)
        exact q2 (by unfold pickI; rw [hno]; dsimp only; rw [if_pos c1, if_neg (by rw [List.length_map] at c2 ⊢; (run_tac Mine.Lin.om))])
      · have c2 := of_decide_eq_true c2
        cases pre with
        | nil => exact absurd c2 (by decide)
        | cons z pre =>
          (run_tac hlT)
          rw [l2]; (run_tac hlT)
          refine item_list (h.at 0 rfl) (by decide) rfl ?_
          (run_tac hlT)
          exact q1 0 z (by unfold pickI; rw [hno]; dsimp only; rw [if_pos c1, if_pos (by rw [List.length_map] at c2 ⊢; (run_tac Mine.Lin.om))]) rfl
  · rintro x xs loc σ2 KK ⟨rfl, ⟨l1, l2⟩, pre, post, rfl, e1, e2⟩ hKK
    refine ⟨h.at 0 rfl, ?_⟩
    cases post with
    | nil => cases e1
    | cons z post =>
      obtain ⟨rfl, e1x⟩ := List.cons.inj e1
      have hm : z ∈ pre ++ z :: post := List.mem_append_right _ (.head _)
      have z1 : (z.1, O.inst cDictionary z.2.1) ∈ fr := hz z hm _ (.head _)
      have z2 : (z.2.1, dDict z.2.2.2.1 z.2.2.2.2.1.toArray z.2.2.1) ∈ fr := hz z hm _ (.tail _ (.head _))
      (run_tac hlT)
      refine attr_inst (h.mem z1) (h.mem z2) (by kernel_rfl) (by kernel_rfl) (by (run_tac krT)) (by kernel_rfl) ?_
      (run_tac hlT)
      rw [l1]; (run_tac hlT)
      (run_tac hcaseT `c1)
      · have c1 := of_decide_eq_false c1
        (run_tac hlT)
        exact hKK _ _ ⟨rfl, ⟨by (run_tac klT); exact l1, by (run_tac klT); exact l2⟩, pre ++ [z], post, by simp, e1x, fun y hy => by
          rcases List.mem_append.mp hy with hy | hy
          · exact e2 y hy
          · rw [List.mem_singleton.mp hy]; exact c1⟩
      · have c1 := of_decide_eq_true c1
        (run_tac hlT)
        refine q1 pre.length z ?_ (by simp)
        unfold pickI
        have : ((pre ++ z :: post).map (·.2.2.2.1)).findIdx? (· = ident) = some pre.length := by
          rw [List.map_append, List.findIdx?_append, (List.findIdx?_eq_none_iff).mpr (by
            intro x hx
            obtain ⟨y, hy, rfl⟩ := List.mem_map.mp hx
            simpa using e2 y hy)]
          simp [List.findIdx?_cons, c1]
        rw [this]
  · exact ⟨rfl, ⟨by (run_tac krT), by (run_tac krT)⟩, [], ds, rfl, rfl, fun z hz => by cases hz⟩
  run_tac endC
end
end Mine
end

section
open PySem PySem.W PyProof.Rows
set_option maxRecDepth 100000
namespace Mine

section
variable {P : Params} {σ : Store} {fr : List (Addr × O)} {K : KV} {X : KX} {d : Nat}

theorem state_ok {hd dhd rl : Addr} {window ident room mostb : Int} {size : Value} {ds : List DicA} (h : H [(hd, .inst cFrameHeader dhd), (dhd, dHeader window size ident), (rl, .list (ds.map fun z => .ref z.1))] fr σ)
    (hz : ∀ z ∈ ds, ∀ p ∈ dicO z, p ∈ fr) (hi : tlong ident) (hj : ∀ z ∈ ds, tlong z.2.2.2.1 ∧ 1 ≤ z.2.2.2.2.2.1 ∧ 1 ≤ z.2.2.2.2.2.2.1 ∧ 1 ≤ z.2.2.2.2.2.2.2) (hw : tlong window) (hr : tlong room)
    (qx0 : window > room → ∀ e dx r σ', H [(e, .exc cTooLarge (some dx) false), (dx, .dict [(S "reason", r), (S "kind", vS (S "window")), (S "size", vI window), (S "most", vI room)])] fr σ' → X e σ')
    (qx1 : ¬ window > room → pickI (ds.map (·.2.2.2.1)) ident = .needs → ∀ e dx r σ', H [(e, .exc cNeedsDictionary (some dx) false), (dx, .dict [(S "reason", r), (S "ident", vI ident)])] fr σ' → X e σ')
    (qx2 : ¬ window > room → ∀ w, pickI (ds.map (·.2.2.2.1)) ident = .wrong w → ∀ e dx r σ', H [(e, .exc cWrongDictionary (some dx) false), (dx, .dict [(S "reason", r), (S "told", vI ident), (S "found", vI w)])] fr σ' → X e σ')
    (q1 : ¬ window > room → ∀ i z, pickI (ds.map (·.2.2.2.1)) ident = .at i → ds[i]? = some z → ∀ st dst bo tb ofs dof σ', H [(st, .inst cFrameState dst), (dst, dState hd (min window mostb) bo z.2.2.2.2.1.toArray tb ofs), (hd, .inst cFrameHeader dhd), (dhd, dHeader window size ident), (bo, .barr #[]), (ofs, .inst cOffsets dof), (dof, dOffs z.2.2.2.2.2.1 z.2.2.2.2.2.2.1 z.2.2.2.2.2.2.2), (rl, .list (ds.map fun z => .ref z.1))] fr σ' → K (.ref st) σ')
    (q2 : ¬ window > room → pickI (ds.map (·.2.2.2.1)) ident = .no → ∀ st dst bo tb ofs dof σ', H [(st, .inst cFrameState dst), (dst, dState hd (min window mostb) bo #[] tb ofs), (hd, .inst cFrameHeader dhd), (dhd, dHeader window size ident), (bo, .barr #[]), (ofs, .inst cOffsets dof), (dof, dOffs 1 4 8), (rl, .list (ds.map fun z => .ref z.1))] fr σ' → K (.ref st) σ') :
    callI (K0 P) GG OW (d + 7) (.ref cFrameState) [.ref hd, .ref rl, vI room, vI mostb] σ K X := by
  run_tac beginC
  show callStepI (K0 P) GG OW (callD (K0 P) GG (d + 6)) (callI (K0 P) GG OW (d + 6)) _ _ _ _ _
  (run_tac hlT)
  intro dst hdst st hst
  have h1 := (h.new (o := .dict []) hdst).new (o := .inst cFrameState dst) hst
  show callStepI (K0 P) GG OW (callD (K0 P) GG (d + 5)) (callI (K0 P) GG OW (d + 5)) _ _ _ _ _
  (run_tac hlT)
  (run_tac hinT `L `hL)
  refine attr_inst (H.at 2 h1 rfl) (H.at 3 h1 rfl) (by kernel_rfl) (by kernel_rfl) (by (run_tac krT)) (by kernel_rfl) ?_; (run_tac hlT)
  (run_tac hcaseT `c1)
  · have c1 := of_decide_eq_false c1
    have qx1 := qx1 c1
    have qx2 := qx2 c1
    have q1 := q1 c1
    have q2 := q2 c1
    (run_tac hlT)
    refine Hsattr 0 1 h1 rfl rfl (by kernel_rfl) (by kernel_rfl) (by (run_tac kdT)) (by (run_tac krT)) (by (run_tac krT)) fun σ1 h2 => ?_; (run_tac hlT)
    refine attr_inst (H.at 2 h2 rfl) (H.at 3 h2 rfl) (by kernel_rfl) (by kernel_rfl) (by (run_tac krT)) (by kernel_rfl) ?_; (run_tac hlT)
    refine Hsattr 0 1 h2 rfl rfl (by kernel_rfl) (by kernel_rfl) (by (run_tac kdT)) (by (run_tac krT)) (by (run_tac krT)) fun σ2 h3 => ?_; (run_tac hlT)
    refine Halloc h3 fun bo σ3 h4 => ?_; (run_tac hlT)
    refine Hsattr 1 2 h4 rfl rfl (by kernel_rfl) (by kernel_rfl) (by (run_tac kdT)) (by (run_tac krT)) (by (run_tac krT)) fun σ4 h5 => ?_; (run_tac hlT)
    refine Hsattr 1 2 h5 rfl rfl (by kernel_rfl) (by kernel_rfl) (by (run_tac kdT)) (by (run_tac krT)) (by (run_tac krT)) fun σ5 h6 => ?_; (run_tac hlT)
    refine Hsattr 1 2 h6 rfl rfl (by kernel_rfl) (by kernel_rfl) (by (run_tac kdT)) (by (run_tac krT)) (by (run_tac krT)) fun σ6 h7 => ?_; (run_tac hlT)
    refine callI_P (by kernel_rfl) (by kernel_rfl) ?_
    refine tables_ok (d := d + 3) (h7.frame 0) fun tb σ7 h8 => ?_
    have h8 := h8.unframe.norm (by (run_tac krT))
    (run_tac hlT)
    refine Hsattr 1 2 h8 rfl rfl (by kernel_rfl) (by kernel_rfl) (by (run_tac kdT)) (by (run_tac krT)) (by (run_tac krT)) fun σ8 h9 => ?_; (run_tac hlT)
    refine callI_P (by kernel_rfl) (by kernel_rfl) ?_
    refine offsets0_ok (d := d + 3) (h9.frame 0) fun ofs dof σ9 h10 => ?_
    have h10 := h10.unframe.norm (by (run_tac krT))
    (run_tac hlT)
    refine Hsattr 3 4 h10 rfl rfl (by kernel_rfl) (by kernel_rfl) (by (run_tac kdT)) (by (run_tac krT)) (by (run_tac krT)) fun σ10 h11 => ?_; (run_tac hlT)
    refine attr_inst (H.at 5 h11 rfl) (H.at 6 h11 rfl) (by kernel_rfl) (by kernel_rfl) (by (run_tac krT)) (by kernel_rfl) ?_; (run_tac hlT)
    refine callI_P (by kernel_rfl) (by kernel_rfl) ?_
    have hsub : ∀ {l : List (Addr × O)} {p}, p ∈ fr → p ∈ l ++ fr := fun hp => List.mem_append_right _ hp
    refine pick_ok (d := d) ((h11.pick [7, 0, 1, 2, 3, 4, 5, 6]).frame 1) (fun z hz' p hp => hsub (hz z hz' p hp)) hi (fun z hz' => (hj z hz').1) (fun e1 e dx r σ' h' => ?_) (fun w e1 e dx r σ' h' => ?_) (fun i z e1 e2 => ?_) (fun e1 => ?_)
    · exact qx1 e1 _ _ _ _ (h'.unframe.pick [0, 1])
    · exact qx2 w e1 _ _ _ _ (h'.unframe.pick [0, 1])
    · (run_tac hlT)
      have hzm : z ∈ ds := List.mem_of_getElem? e2
      refine meth_inst (h11.at 3 rfl) (h11.at 4 rfl) (by (run_tac krT)) (by kernel_rfl) (f := fFrameState_beginwith) (by kernel_rfl) (by kernel_rfl) ?_
      (run_tac hlT)
      refine callI_P (by kernel_rfl) (by kernel_rfl) ?_
      refine begin_ok (d := d + 2) (hj z hzm).2.1 (hj z hzm).2.2.1 (hj z hzm).2.2.2 ((h11.pick [3, 4, 2, 5, 6, 7]).frame 2) (fun p hp => hsub (hz z hzm p hp)) fun ofs' dof' σ' h' => ?_
      (run_tac hlT)
      have h' := h'.unframe.norm (by (run_tac krT))
      exact q1 i z e1 e2 _ _ _ _ _ _ _ (h'.pick [0, 1, 5, 6, 4, 2, 3, 7])
    · (run_tac hlT)
      exact q2 e1 _ _ _ _ _ _ _ (h11.pick [3, 4, 5, 6, 2, 0, 1, 7])
  · have c1 := of_decide_eq_true c1
    (run_tac hlT)
    refine attr_inst (H.at 2 h1 rfl) (H.at 3 h1 rfl) (by kernel_rfl) (by kernel_rfl) (by (run_tac krT)) (by kernel_rfl) ?_; (run_tac hlT)
    refine tooLarge_ok (d := d + 1) (h1.pick []) (by (run_tac kdT)) hw hr fun e dx r σ2 h2 => ?_
    (run_tac hlT)
    rw [H.at 0 h2 rfl]; (run_tac hlT)
    exact qx0 c1 _ _ _ _ (h2.upd 0 (.exc cTooLarge (some dx) false) rfl)
  run_tac endC
end
end Mine
end

section
open PySem PySem.W PyProof.Rows
set_option maxRecDepth 100000
namespace Mine

/-- how an exception is told of -/
inductive Exd (Q : List Value → Store → Prop) (e : Addr) (σ : Store) : Prop where
  | block (dx : Addr) (he : σ e = some (.exc cBadBlock (some dx) false)) (q : Q [vS (S "block")] σ)
  | distance (dx : Addr) (he : σ e = some (.exc cBadDistance (some dx) false)) (q : Q [vS (S "distance")] σ)
  | sequence (dx : Addr) (he : σ e = some (.exc cBadSequence (some dx) false)) (q : Q [vS (S "sequence")] σ)
  | size (dx : Addr) (r : Value) (k : PySem.Str) (t f : Int) (he : σ e = some (.exc cBadSize (some dx) false)) (hd : σ dx = some (.dict [(S "reason", r), (S "kind", vS k), (S "told", vI t), (S "found", vI f)])) (q : Q [vS (S "size"), vS k, vI t, vI f] σ)
  | large (dx : Addr) (r : Value) (k : PySem.Str) (t f : Int) (he : σ e = some (.exc cTooLarge (some dx) false)) (hd : σ dx = some (.dict [(S "reason", r), (S "kind", vS k), (S "size", vI t), (S "most", vI f)])) (q : Q [vS (S "large"), vS k, vI t, vI f] σ)
  | needs (dx : Addr) (r : Value) (t : Int) (he : σ e = some (.exc cNeedsDictionary (some dx) false)) (hd : σ dx = some (.dict [(S "reason", r), (S "ident", vI t)])) (q : Q [vS (S "needs"), vI t] σ)
  | wrong (dx : Addr) (r : Value) (t f : Int) (he : σ e = some (.exc cWrongDictionary (some dx) false)) (hd : σ dx = some (.dict [(S "reason", r), (S "told", vI t), (S "found", vI f)])) (q : Q [vS (S "wrong"), vI t, vI f] σ)

section
variable {P : Params} {σ : Store} {fr : List (Addr × O)} {K : KV} {X : KX} {d : Nat}

theorem wordI {f : Addr} (Q : List Value → Store → Prop) (hc : ∀ (K' : KV) (X' : KX), (∀ v σ', Q [vS (S "gave"), v] σ' → K' v σ') → (∀ e σ', Exd Q e σ' → X' e σ') → callI (K0 P) GG OW d (.ref f) [] σ K' X')
    (hK : ∀ vs σ', Q vs σ' → alloc (.tup vs) σ' K) : callI (K0 P) GG OW (d + 1) (.ref f_law_word) [.ref f] σ K X := by
  run_tac beginC
  show callStepI (K0 P) GG OW (callD (K0 P) GG d) (callI (K0 P) GG OW d) _ _ _ _ _
  (run_tac hlT)
  (run_tac hinT `L `hL)
  refine hc _ _ (fun v σ' q => ?_) fun e σ' x => ?_
  · (run_tac hlT)
    exact hK _ _ q
  · cases x with
    | block dx he q =>
      (run_tac hlT); rw [he]; (run_tac hlT)
      exact hK _ _ q
    | distance dx he q =>
      (run_tac hlT); rw [he]; (run_tac hlT)
      exact hK _ _ q
    | sequence dx he q =>
      (run_tac hlT); rw [he]; (run_tac hlT)
      exact hK _ _ q
    | size dx r k t f he hd q =>
      (run_tac hlT); rw [he]; (run_tac hlT)
      refine attr_exc he hd (by kernel_rfl) (by kernel_rfl) (by (run_tac krT)) (by kernel_rfl) ?_; (run_tac hlT)
      refine attr_exc he hd (by kernel_rfl) (by kernel_rfl) (by (run_tac krT)) (by kernel_rfl) ?_; (run_tac hlT)
      refine attr_exc he hd (by kernel_rfl) (by kernel_rfl) (by (run_tac krT)) (by kernel_rfl) ?_; (run_tac hlT)
      exact fun a ha u => hK _ _ q a ha
    | large dx r k t f he hd q =>
      (run_tac hlT); rw [he]; (run_tac hlT)
      refine attr_exc he hd (by kernel_rfl) (by kernel_rfl) (by (run_tac krT)) (by kernel_rfl) ?_; (run_tac hlT)
      refine attr_exc he hd (by kernel_rfl) (by kernel_rfl) (by (run_tac krT)) (by kernel_rfl) ?_; (run_tac hlT)
      refine attr_exc he hd (by kernel_rfl) (by kernel_rfl) (by (run_tac krT)) (by kernel_rfl) ?_; (run_tac hlT)
      exact fun a ha u => hK _ _ q a ha
    | needs dx r t he hd q =>
      (run_tac hlT); rw [he]; (run_tac hlT)
      refine attr_exc he hd (by kernel_rfl) (by kernel_rfl) (by (run_tac krT)) (by kernel_rfl) ?_; (run_tac hlT)
      exact fun a ha u => hK _ _ q a ha
    | wrong dx r t f he hd q =>
      (run_tac hlT); rw [he]; (run_tac hlT)
      refine attr_exc he hd (by kernel_rfl) (by kernel_rfl) (by (run_tac krT)) (by kernel_rfl) ?_; (run_tac hlT)
      refine attr_exc he hd (by kernel_rfl) (by kernel_rfl) (by (run_tac krT)) (by kernel_rfl) ?_; (run_tac hlT)
      exact fun a ha u => hK _ _ q a ha
  run_tac endC
theorem wordD {f : Addr} (Q : List Value → Store → Prop) (hc : ∀ (K' : KV) (X' : KX), (∀ v σ', Q [vS (S "gave"), v] σ' → K' v σ') → (∀ e σ', Exd Q e σ' → X' e σ') → callD (K0 P) GG d (.ref f) [] σ K' X')
    (hK : ∀ vs σ', Q vs σ' → alloc (.tup vs) σ' K) : callD (K0 P) GG (d + 1) (.ref f_law_word) [.ref f] σ K X := by
  run_tac beginC
  show callStep (K0 P) GG (callD (K0 P) GG d) _ _ _ _ _
  (run_tac hlT)
  (run_tac hinT `L `hL)
  refine hc _ _ (fun v σ' q => ?_) fun e σ' x => ?_
  · (run_tac hlT)
    exact hK _ _ q
  · cases x with
    | block dx he q =>
      (run_tac hlT); rw [he]; (run_tac hlT)
      exact hK _ _ q
    | distance dx he q =>
      (run_tac hlT); rw [he]; (run_tac hlT)
      exact hK _ _ q
    | sequence dx he q =>
      (run_tac hlT); rw [he]; (run_tac hlT)
      exact hK _ _ q
    | size dx r k t f he hd q =>
      (run_tac hlT); rw [he]; (run_tac hlT)
      refine attr_exc he hd (by kernel_rfl) (by kernel_rfl) (by (run_tac krT)) (by kernel_rfl) ?_; (run_tac hlT)
      refine attr_exc he hd (by kernel_rfl) (by kernel_rfl) (by (run_tac krT)) (by kernel_rfl) ?_; (run_tac hlT)
      refine attr_exc he hd (by kernel_rfl) (by kernel_rfl) (by (run_tac krT)) (by kernel_rfl) ?_; (run_tac hlT)
      exact fun a ha u => hK _ _ q a ha
    | large dx r k t f he hd q =>
      (run_tac hlT); rw [he]; (run_tac hlT)
      refine attr_exc he hd (by kernel_rfl) (by kernel_rfl) (by (run_tac krT)) (by kernel_rfl) ?_; (run_tac hlT)
      refine attr_exc he hd (by kernel_rfl) (by kernel_rfl) (by (run_tac krT)) (by kernel_rfl) ?_; (run_tac hlT)
      refine attr_exc he hd (by kernel_rfl) (by kernel_rfl) (by (run_tac krT)) (by kernel_rfl) ?_; (run_tac hlT)
      exact fun a ha u => hK _ _ q a ha
    | needs dx r t he hd q =>
      (run_tac hlT); rw [he]; (run_tac hlT)
      refine attr_exc he hd (by kernel_rfl) (by kernel_rfl) (by (run_tac krT)) (by kernel_rfl) ?_; (run_tac hlT)
      exact fun a ha u => hK _ _ q a ha
    | wrong dx r t f he hd q =>
      (run_tac hlT); rw [he]; (run_tac hlT)
      refine attr_exc he hd (by kernel_rfl) (by kernel_rfl) (by (run_tac krT)) (by kernel_rfl) ?_; (run_tac hlT)
      refine attr_exc he hd (by kernel_rfl) (by kernel_rfl) (by (run_tac krT)) (by kernel_rfl) ?_; (run_tac hlT)
      exact fun a ha u => hK _ _ q a ha
  run_tac endC
end
end Mine
end

section
open PySem PySem.W PyProof.Rows
set_option maxRecDepth 100000
namespace Mine

section
variable {P : Params} {σ : Store} {fr : List (Addr × O)} {K : KV} {X : KX} {d : Nat}

theorem meant_ok {tl : Addr} {a b c value ahead : Int} (hv : 1 ≤ value) (ha : 0 ≤ ahead) (h : H [(tl, .list [vI a, vI b, vI c])] fr σ)
    (q : ∀ t l σ', H [(t, .tup [vI (toldD a b c value ahead).1, .ref l]), (l, .list [vI (movedT a b c (toldD a b c value ahead).1 (toldD a b c value ahead).2).1, vI (movedT a b c (toldD a b c value ahead).1 (toldD a b c value ahead).2).2.1, vI (movedT a b c (toldD a b c value ahead).1 (toldD a b c value ahead).2).2.2]), (tl, .list [vI a, vI b, vI c])] fr σ' → K (.ref t) σ') :
    callD (K0 P) GG (d + 2) (.ref f_law_meant) [.ref tl, vI value, vI ahead] σ K X := by
  run_tac beginC
  show callStep (K0 P) GG (callD (K0 P) GG (d + 1)) _ _ _ _ _
  (run_tac hlT)
  (run_tac hinT `L `hL)
  have h1 := h.cells2 hL (.cell (some (.ref tl))) (.cell none)
  (run_tac gsT `h1 `σ1)
  (run_tac hcaseT `c1)
  · have c1 := of_decide_eq_false c1
    have hcs : value = 1 ∨ value = 2 ∨ value = 3 := by (run_tac Mine.Lin.om)
    (run_tac hlT)
    (run_tac hcaseT `c2)
    · have c2 := of_decide_eq_false c2
      rcases hcs with rfl | rfl | rfl
      · have e : toldD a b c 1 ahead = (b, 1) := by unfold toldD; rw [if_neg (by (run_tac Mine.Lin.om)), if_neg c2]; rfl
        rw [e] at q
        (run_tac hlT)
        refine Hcell 0 h1 rfl (by (run_tac krT)) fun σ2 h2 => ?_
        (run_tac hlT)
        rw [H.at 0 h2 rfl]; (run_tac hlT)
        rw [H.at 1 h2 rfl]; (run_tac hlT)
        rw [H.at 0 h2 rfl]; (run_tac hlT)
        refine item_list (H.at 2 h2 rfl) (by decide) rfl ?_; (run_tac hlT)
        rw [H.at 1 h2 rfl]; (run_tac hlT)
        rw [H.at 0 h2 rfl]; (run_tac hlT)
        refine item_list (H.at 2 h2 rfl) (by decide) rfl ?_; (run_tac hlT)
        refine Halloc h2 fun l1 σ3 h3 => ?_; (run_tac hlT)
        refine Halloc h3 fun r σ4 h4 => ?_; (run_tac hlT)
        refine iter_rng (h4.at 0 rfl) ?_
        (run_tac hlT)
        intro acc hacc L2 hL2
        have h5 := h4.new (o := .list []) hacc
        (run_tac gsT `h5 `σ5)
        (run_tac hturnT)
        rw [H.at 3 h5 rfl]; (run_tac hlT)
        rw [H.at 4 h5 rfl]; (run_tac hlT)
        refine item_list (H.at 5 h5 rfl) (by decide) rfl ?_; (run_tac hlT)
        refine ⟨_, h5.at 0 rfl, by (run_tac kdT), ?_⟩
        (run_tac hsetT `h5 0 `σ6 `h6)
        (run_tac hturnT)
        rw [H.at 3 h6 rfl]; (run_tac hlT)
        (run_tac hturnT)
        rw [H.at 3 h6 rfl]; (run_tac hlT)
        rw [H.at 4 h6 rfl]; (run_tac hlT)
        refine item_list (H.at 5 h6 rfl) (by decide) rfl ?_; (run_tac hlT)
        refine ⟨_, h6.at 0 rfl, by (run_tac kdT), ?_⟩
        (run_tac hsetT `h6 0 `σ7 `h7)
        (run_tac hturnT)
        refine add_lists (h7.at 2 rfl) (h7.at 0 rfl) (by (run_tac kdT)) ?_
        refine Halloc h7 fun l σ8 h8 => ?_; (run_tac hlT)
        refine Halloc h8 fun t σ9 h9 => ?_; (run_tac hlT)
        exact q _ _ _ (h9.pick [0, 1, 7])
      · have e : toldD a b c 2 ahead = (c, 2) := by unfold toldD; rw [if_neg (by (run_tac Mine.Lin.om)), if_neg c2]; rfl
        rw [e] at q
        (run_tac hlT)
        refine Hcell 0 h1 rfl (by (run_tac krT)) fun σ2 h2 => ?_
        (run_tac hlT)
        rw [H.at 0 h2 rfl]; (run_tac hlT)
        rw [H.at 1 h2 rfl]; (run_tac hlT)
        rw [H.at 0 h2 rfl]; (run_tac hlT)
        refine item_list (H.at 2 h2 rfl) (by decide) rfl ?_; (run_tac hlT)
        rw [H.at 1 h2 rfl]; (run_tac hlT)
        rw [H.at 0 h2 rfl]; (run_tac hlT)
        refine item_list (H.at 2 h2 rfl) (by decide) rfl ?_; (run_tac hlT)
        refine Halloc h2 fun l1 σ3 h3 => ?_; (run_tac hlT)
        refine Halloc h3 fun r σ4 h4 => ?_; (run_tac hlT)
        refine iter_rng (h4.at 0 rfl) ?_
        (run_tac hlT)
        intro acc hacc L2 hL2
        have h5 := h4.new (o := .list []) hacc
        (run_tac gsT `h5 `σ5)
        (run_tac hturnT)
        rw [H.at 3 h5 rfl]; (run_tac hlT)
        rw [H.at 4 h5 rfl]; (run_tac hlT)
        refine item_list (H.at 5 h5 rfl) (by decide) rfl ?_; (run_tac hlT)
        refine ⟨_, h5.at 0 rfl, by (run_tac kdT), ?_⟩
        (run_tac hsetT `h5 0 `σ6 `h6)
        (run_tac hturnT)
        rw [H.at 3 h6 rfl]; (run_tac hlT)
        rw [H.at 4 h6 rfl]; (run_tac hlT)
        refine item_list (H.at 5 h6 rfl) (by decide) rfl ?_; (run_tac hlT)
        refine ⟨_, h6.at 0 rfl, by (run_tac kdT), ?_⟩
        (run_tac hsetT `h6 0 `σ7 `h7)
        (run_tac hturnT)
        rw [H.at 3 h7 rfl]; (run_tac hlT)
        (run_tac hturnT)
        refine add_lists (h7.at 2 rfl) (h7.at 0 rfl) (by (run_tac kdT)) ?_
        refine Halloc h7 fun l σ8 h8 => ?_; (run_tac hlT)
        refine Halloc h8 fun t σ9 h9 => ?_; (run_tac hlT)
        exact q _ _ _ (h9.pick [0, 1, 7])
      · have e : toldD a b c 3 ahead = (a - 1, 3) := by unfold toldD; rw [if_neg (by (run_tac Mine.Lin.om)), if_neg c2]; rfl
        rw [e] at q
        (run_tac hlT)
        refine Hcell 0 h1 rfl (by (run_tac krT)) fun σ2 h2 => ?_
        (run_tac hlT)
        rw [H.at 0 h2 rfl]; (run_tac hlT)
        rw [H.at 1 h2 rfl]; (run_tac hlT)
        refine item_list (H.at 2 h2 rfl) (by decide) rfl ?_; (run_tac hlT)
        rw [H.at 1 h2 rfl]; (run_tac hlT)
        refine item_list (H.at 2 h2 rfl) (by decide) rfl ?_; (run_tac hlT)
        rw [H.at 1 h2 rfl]; (run_tac hlT)
        refine item_list (H.at 2 h2 rfl) (by decide) rfl ?_; (run_tac hlT)
        rw [H.at 1 h2 rfl]; (run_tac hlT)
        refine item_list (H.at 2 h2 rfl) (by decide) rfl ?_; (run_tac hlT)
        refine Halloc h2 fun l σ3 h3 => ?_; (run_tac hlT)
        refine Halloc h3 fun t σ4 h4 => ?_; (run_tac hlT)
        exact q _ _ _ (h4.pick [0, 1, 4])
    · have c2 := of_decide_eq_true c2
      rcases hcs with rfl | rfl | rfl
      · have e : toldD a b c 1 ahead = (a, 0) := by unfold toldD; rw [if_neg (by (run_tac Mine.Lin.om)), if_pos c2]; rfl
        rw [e] at q
        (run_tac hlT)
        refine Hcell 0 h1 rfl (by (run_tac krT)) fun σ2 h2 => ?_
        (run_tac hlT)
        rw [H.at 0 h2 rfl]; (run_tac hlT)
        rw [H.at 1 h2 rfl]; (run_tac hlT)
        rw [H.at 0 h2 rfl]; (run_tac hlT)
        refine item_list (H.at 2 h2 rfl) (by decide) rfl ?_; (run_tac hlT)
        rw [H.at 1 h2 rfl]; (run_tac hlT)
        rw [H.at 0 h2 rfl]; (run_tac hlT)
        refine item_list (H.at 2 h2 rfl) (by decide) rfl ?_; (run_tac hlT)
        refine Halloc h2 fun l1 σ3 h3 => ?_; (run_tac hlT)
        refine Halloc h3 fun r σ4 h4 => ?_; (run_tac hlT)
        refine iter_rng (h4.at 0 rfl) ?_
        (run_tac hlT)
        intro acc hacc L2 hL2
        have h5 := h4.new (o := .list []) hacc
        (run_tac gsT `h5 `σ5)
        (run_tac hturnT)
        rw [H.at 3 h5 rfl]; (run_tac hlT)
        (run_tac hturnT)
        rw [H.at 3 h5 rfl]; (run_tac hlT)
        rw [H.at 4 h5 rfl]; (run_tac hlT)
        refine item_list (H.at 5 h5 rfl) (by decide) rfl ?_; (run_tac hlT)
        refine ⟨_, h5.at 0 rfl, by (run_tac kdT), ?_⟩
        (run_tac hsetT `h5 0 `σ6 `h6)
        (run_tac hturnT)
        rw [H.at 3 h6 rfl]; (run_tac hlT)
        rw [H.at 4 h6 rfl]; (run_tac hlT)
        refine item_list (H.at 5 h6 rfl) (by decide) rfl ?_; (run_tac hlT)
        refine ⟨_, h6.at 0 rfl, by (run_tac kdT), ?_⟩
        (run_tac hsetT `h6 0 `σ7 `h7)
        (run_tac hturnT)
        refine add_lists (h7.at 2 rfl) (h7.at 0 rfl) (by (run_tac kdT)) ?_
        refine Halloc h7 fun l σ8 h8 => ?_; (run_tac hlT)
        refine Halloc h8 fun t σ9 h9 => ?_; (run_tac hlT)
        exact q _ _ _ (h9.pick [0, 1, 7])
      · have e : toldD a b c 2 ahead = (b, 1) := by unfold toldD; rw [if_neg (by (run_tac Mine.Lin.om)), if_pos c2]; rfl
        rw [e] at q
        (run_tac hlT)
        refine Hcell 0 h1 rfl (by (run_tac krT)) fun σ2 h2 => ?_
        (run_tac hlT)
        rw [H.at 0 h2 rfl]; (run_tac hlT)
        rw [H.at 1 h2 rfl]; (run_tac hlT)
        rw [H.at 0 h2 rfl]; (run_tac hlT)
        refine item_list (H.at 2 h2 rfl) (by decide) rfl ?_; (run_tac hlT)
        rw [H.at 1 h2 rfl]; (run_tac hlT)
        rw [H.at 0 h2 rfl]; (run_tac hlT)
        refine item_list (H.at 2 h2 rfl) (by decide) rfl ?_; (run_tac hlT)
        refine Halloc h2 fun l1 σ3 h3 => ?_; (run_tac hlT)
        refine Halloc h3 fun r σ4 h4 => ?_; (run_tac hlT)
        refine iter_rng (h4.at 0 rfl) ?_
        (run_tac hlT)
        intro acc hacc L2 hL2
        have h5 := h4.new (o := .list []) hacc
        (run_tac gsT `h5 `σ5)
        (run_tac hturnT)
        rw [H.at 3 h5 rfl]; (run_tac hlT)
        rw [H.at 4 h5 rfl]; (run_tac hlT)
        refine item_list (H.at 5 h5 rfl) (by decide) rfl ?_; (run_tac hlT)
        refine ⟨_, h5.at 0 rfl, by (run_tac kdT), ?_⟩
        (run_tac hsetT `h5 0 `σ6 `h6)
        (run_tac hturnT)
        rw [H.at 3 h6 rfl]; (run_tac hlT)
        (run_tac hturnT)
        rw [H.at 3 h6 rfl]; (run_tac hlT)
        rw [H.at 4 h6 rfl]; (run_tac hlT)
        refine item_list (H.at 5 h6 rfl) (by decide) rfl ?_; (run_tac hlT)
        refine ⟨_, h6.at 0 rfl, by (run_tac kdT), ?_⟩
        (run_tac hsetT `h6 0 `σ7 `h7)
        (run_tac hturnT)
        refine add_lists (h7.at 2 rfl) (h7.at 0 rfl) (by (run_tac kdT)) ?_
        refine Halloc h7 fun l σ8 h8 => ?_; (run_tac hlT)
        refine Halloc h8 fun t σ9 h9 => ?_; (run_tac hlT)
        exact q _ _ _ (h9.pick [0, 1, 7])
      · have e : toldD a b c 3 ahead = (c, 2) := by unfold toldD; rw [if_neg (by (run_tac Mine.Lin.om)), if_pos c2]; rfl
        rw [e] at q
        (run_tac hlT)
        refine Hcell 0 h1 rfl (by (run_tac krT)) fun σ2 h2 => ?_
        (run_tac hlT)
        rw [H.at 0 h2 rfl]; (run_tac hlT)
        rw [H.at 1 h2 rfl]; (run_tac hlT)
        rw [H.at 0 h2 rfl]; (run_tac hlT)
        refine item_list (H.at 2 h2 rfl) (by decide) rfl ?_; (run_tac hlT)
        rw [H.at 1 h2 rfl]; (run_tac hlT)
        rw [H.at 0 h2 rfl]; (run_tac hlT)
        refine item_list (H.at 2 h2 rfl) (by decide) rfl ?_; (run_tac hlT)
        refine Halloc h2 fun l1 σ3 h3 => ?_; (run_tac hlT)
        refine Halloc h3 fun r σ4 h4 => ?_; (run_tac hlT)
        refine iter_rng (h4.at 0 rfl) ?_
        (run_tac hlT)
        intro acc hacc L2 hL2
        have h5 := h4.new (o := .list []) hacc
        (run_tac gsT `h5 `σ5)
        (run_tac hturnT)
        rw [H.at 3 h5 rfl]; (run_tac hlT)
        rw [H.at 4 h5 rfl]; (run_tac hlT)
        refine item_list (H.at 5 h5 rfl) (by decide) rfl ?_; (run_tac hlT)
        refine ⟨_, h5.at 0 rfl, by (run_tac kdT), ?_⟩
        (run_tac hsetT `h5 0 `σ6 `h6)
        (run_tac hturnT)
        rw [H.at 3 h6 rfl]; (run_tac hlT)
        rw [H.at 4 h6 rfl]; (run_tac hlT)
        refine item_list (H.at 5 h6 rfl) (by decide) rfl ?_; (run_tac hlT)
        refine ⟨_, h6.at 0 rfl, by (run_tac kdT), ?_⟩
        (run_tac hsetT `h6 0 `σ7 `h7)
        (run_tac hturnT)
        rw [H.at 3 h7 rfl]; (run_tac hlT)
        (run_tac hturnT)
        refine add_lists (h7.at 2 rfl) (h7.at 0 rfl) (by (run_tac kdT)) ?_
        refine Halloc h7 fun l σ8 h8 => ?_; (run_tac hlT)
        refine Halloc h8 fun t σ9 h9 => ?_; (run_tac hlT)
        exact q _ _ _ (h9.pick [0, 1, 7])
  · have c1 := of_decide_eq_true c1
    have e : toldD a b c value ahead = (value - 3, 3) := by unfold toldD; rw [if_pos c1]
    rw [e] at q
    (run_tac hlT)
    rw [H.at 1 h1 rfl]; (run_tac hlT)
    refine item_list (H.at 2 h1 rfl) (by decide) rfl ?_; (run_tac hlT)
    rw [H.at 1 h1 rfl]; (run_tac hlT)
    refine item_list (H.at 2 h1 rfl) (by decide) rfl ?_; (run_tac hlT)
    refine Halloc h1 fun l σ2 h2 => ?_; (run_tac hlT)
    refine Halloc h2 fun t σ3 h3 => ?_; (run_tac hlT)
    exact q _ _ _ (h3.pick [0, 1, 4])
  run_tac endC
end
end Mine
end

section
open PySem PySem.W PyProof.Rows
set_option maxRecDepth 100000
namespace Mine

noncomputable abbrev dMine (ol tl bk : Addr) (window most : Int) (sz : Value) : O := .dict [(S "out", .ref ol), (S "three", .ref tl), (S "window", vI window), (S "most", vI most), (S "size", sz), (S "book", .ref bk)]
noncomputable def dueL : Nat → List Value
  | 0 => []
  | 1 => [vS (S "sequence")]
  | _ => [vS (S "distance")]
theorem bL_len {us : List UInt8} : (bL us).length = us.length := by simp [bL]
theorem bL_cut {us : List UInt8} {lo hi : Option Int} : cutL (bL us) lo hi = bL (cutL us lo hi) := by
  run_tac beginC
  unfold cutL bL
  cases hi <;> cases lo <;> simp [List.map_take, List.map_drop]
  run_tac endC
theorem bL_app {us vs : List UInt8} : bL us ++ bL vs = bL (us ++ vs) := by simp [bL]
theorem bL_get {us : List UInt8} {i : Nat} (h : i < us.length) : (bL us)[i]? = some (vI ((us.getD i 0).toNat : Int)) := by
  run_tac beginC
  unfold bL
  rw [List.getElem?_map, List.getElem?_eq_getElem h, List.getD_eq_getElem?_getD, List.getElem?_eq_getElem h]; rfl
  run_tac endC

section
variable {P : Params} {σ : Store} {fr : List (Addr × O)} {K : KV} {X : KX} {d : Nat}

theorem played_ok {md ol tl bk rl ll : Addr} {window most a b c : Int} {sz : Value} {hist lit out : List UInt8} {rs : List RowA}
    (h : H [(md, dMine ol tl bk window most sz), (ol, .list (bL out)), (tl, .list [vI a, vI b, vI c]), (bk, .list (bL hist)), (rl, .list (rs.map fun r => .ref r.1)), (ll, .list (bL lit))] fr σ)
    (hr : ∀ r ∈ rs, rowO r ∈ fr) (hro : rowsOk lit.length 0 (rs.map (·.2))) (hw : 0 ≤ window) (hm : 0 ≤ most) (ha : 1 ≤ a) (hb : 1 ≤ b) (hc : 1 ≤ c) (hz : (out.length : Int) + most + lit.length + hist.length < 60000)
    (hne : rs ≠ [])
    (q1 : (playP hist lit window most out.length (rs.map (·.2)) 0 out (a, b, c)).1 ≠ 0 → ∀ t o th du σ', H [(t, .tup [.ref o, .ref th, .ref du]), (du, .tup (dueL (playP hist lit window most out.length (rs.map (·.2)) 0 out (a, b, c)).1)), (md, dMine ol tl bk window most sz), (ol, .list (bL out)), (tl, .list [vI a, vI b, vI c]), (bk, .list (bL hist)), (rl, .list (rs.map fun r => .ref r.1)), (ll, .list (bL lit))] fr σ' → K (.ref t) σ')
    (q0 : (playP hist lit window most out.length (rs.map (·.2)) 0 out (a, b, c)).1 = 0 → ∀ out' a' b' c', (playP hist lit window most out.length (rs.map (·.2)) 0 out (a, b, c)).2 = (out', a', b', c') → ∀ t o th du σ',
      H [(t, .tup [.ref o, .ref th, .ref du]), (du, .tup []), (o, .list (bL out')), (th, .list [vI a', vI b', vI c']), (md, dMine ol tl bk window most sz), (ol, .list (bL out)), (tl, .list [vI a, vI b, vI c]), (bk, .list (bL hist)), (rl, .list (rs.map fun r => .ref r.1)), (ll, .list (bL lit))] fr σ' → K (.ref t) σ') :
    callD (K0 P) GG (d + 4) (.ref f_law_played) [.ref md, .ref rl, .ref ll] σ K X := by
  run_tac beginC
  show callStep (K0 P) GG (callD (K0 P) GG (d + 3)) _ _ _ _ _
  (run_tac hlT)
  (run_tac hinT `L `hL)
  refine item_dict (H.at 0 h rfl) (by (run_tac krT)) ?_; (run_tac hlT)
  refine item_dict (H.at 0 h rfl) (by (run_tac krT)) ?_; (run_tac hlT)
  refine item_dict (H.at 0 h rfl) (by (run_tac krT)) ?_; (run_tac hlT)
  refine len_list (H.at 1 h rfl) ?_; (run_tac hlT)
  refine Halloc h fun t σ1 h1 => ?_; (run_tac hlT)
  refine seq_tup (h1.at 0 rfl) ?_
  (run_tac hlT)
  refine iter_list (h1.at 5 rfl) ?_
  (run_tac hlT)
  have h1 := h1.pick [2, 3, 1, 4, 5, 6]
  generalize hR : playP hist lit window most out.length (rs.map (·.2)) 0 out (a, b, c) = R at q1 q0
  refine forH_ind (fun items loc σ' => (loc (S "letters") = some (.ref ll) ∧ loc (S "mine") = some (.ref md) ∧ loc (S "begin") = some (vI out.length)) ∧ ∃ (F' : List (Addr × O)) (rs' : List RowA) (used : Int) (out2 : List UInt8) (a2 b2 c2 : Int) (co ct : Addr),
      ((co = ol ∧ ct = tl ∧ F' = fr ∧ rs' = rs ∧ out2 = out ∧ a2 = a ∧ b2 = b ∧ c2 = c) ∨ F' = [(ol, .list (bL out)), (tl, .list [vI a, vI b, vI c])] ++ fr) ∧
      items = rs'.map (fun r => Value.ref r.1) ∧ ((∀ r ∈ rs', rowO r ∈ F') ∧ rowsOk lit.length used (rs'.map (·.2))) ∧ (loc (S "used") = some (vI used) ∧ loc (S "out") = some (.ref co) ∧ loc (S "three") = some (.ref ct)) ∧ 0 ≤ used ∧ used ≤ lit.length ∧ (out.length ≤ out2.length ∧ (out2.length : Int) ≤ out.length + most) ∧ (1 ≤ a2 ∧ 1 ≤ b2 ∧ 1 ≤ c2) ∧
      playP hist lit window most out.length (rs'.map (·.2)) used out2 (a2, b2, c2) = R ∧
      H [(co, .list (bL out2)), (ct, .list [vI a2, vI b2, vI c2]), (md, dMine ol tl bk window most sz), (bk, .list (bL hist)), (rl, .list (rs.map fun r => .ref r.1)), (ll, .list (bL lit))] F' σ') ?_ ?_ _ _ _ ?_
  · rintro loc σ2 ⟨⟨l1, l2, l3⟩, F', rs', used, out2, a2, b2, c2, co, ct, hF, e1, e2, ⟨l4, l5, l6⟩, e3, e4, ⟨e5, e6⟩, ⟨p1, p2, p3⟩, e7, h2⟩
    refine ⟨h2.at 4 rfl, ?_⟩
    have : rs' = [] := by cases rs' with | nil => rfl | cons => cases e1
    subst this
    rcases hF with ⟨_, _, _, q, _⟩ | rfl
    · exact absurd q.symm hne
    rw [show ([] : List RowA).map (·.2) = [] from rfl, playP_nil] at e7
    (run_tac hlT)
    rw [l5]; (run_tac hlT)
    refine len_list (H.at 0 h2 rfl) ?_; (run_tac hlT)
    rw [l3]; (run_tac hlT)
    rw [l1]; (run_tac hlT)
    refine len_list (H.at 5 h2 rfl) ?_; (run_tac hlT)
    rw [l4]; (run_tac hlT)
    rw [l2]; (run_tac hlT)
    refine item_dict (H.at 2 h2 rfl) (by (run_tac krT)) ?_; (run_tac hlT)
    rw [bL_len, bL_len]
    (run_tac hcaseT `c1)
    · have c1 := of_decide_eq_false c1
      rw [if_neg (by (run_tac Mine.Lin.om))] at e7
      (run_tac hlT)
      rw [l5]; (run_tac hlT)
      rw [l1]; (run_tac hlT)
      rw [l4]; (run_tac hlT)
      refine slice_list (lo := some used) (hi := none) (h2.at 5 rfl) (part_int e3) rfl ?_
      refine Halloc h2 fun s σ3 h3 => ?_; (run_tac hlT)
      have hcl : (cutL lit (some used) none).length = lit.length - used.toNat := by simp [cutL]
      refine add_lists (h3.at 1 rfl) (h3.at 0 rfl) (by rw [bL_cut, bL_len, bL_len, hcl]; unfold LIM; (run_tac Mine.Lin.om)) ?_
      rw [bL_cut, bL_app]
      refine Halloc h3 fun o σ4 h4 => ?_; (run_tac hlT)
      rw [l6]; (run_tac hlT)
      refine Halloc h4 fun du σ5 h5 => ?_; (run_tac hlT)
      refine Halloc h5 fun tt σ6 h6 => ?_; (run_tac hlT)
      subst e7
      exact q0 rfl _ _ _ _ rfl _ _ _ _ _ ((h6.pick [0, 1, 2, 5, 6, 7, 8, 9]).unframe.pick [0, 1, 2, 3, 4, 8, 9, 5, 6, 7])
    · have c1 := of_decide_eq_true c1
      rw [if_pos (by (run_tac Mine.Lin.om))] at e7
      (run_tac hlT)
      rw [l5]; (run_tac hlT)
      rw [l6]; (run_tac hlT)
      refine Halloc h2 fun du σ5 h5 => ?_; (run_tac hlT)
      refine Halloc h5 fun tt σ6 h6 => ?_; (run_tac hlT)
      subst e7
      exact q1 (by show (1 : Nat) ≠ 0; decide) _ _ _ _ _ ((h6.pick [0, 1, 4, 5, 6, 7]).unframe.pick [0, 1, 2, 6, 7, 3, 4, 5])
  · rintro x xs loc σ2 KK ⟨⟨l1, l2, l3⟩, F', rs', used, out2, a2, b2, c2, co, ct, hF, e1, e2, ⟨l4, l5, l6⟩, e3, e4, ⟨e5, e6⟩, ⟨p1, p2, p3⟩, e7, h2⟩ hKK
    refine ⟨h2.at 4 rfl, ?_⟩
    cases rs' with
    | nil => cases e1
    | cons r rs' =>
      obtain ⟨ta, ahead, many, value⟩ := r
      obtain ⟨rfl, e1x⟩ := List.cons.inj e1
      have hrow := e2.1 _ (.head _)
      obtain ⟨⟨r1, r2, r3, r4⟩, r5⟩ := e2.2
      have hrow : (ta, O.tup [vI ahead, vI many, vI value]) ∈ F' := hrow
      dsimp only at r1 r2 r3 r4 r5
      rw [List.map_cons, playP_cons] at e7
      -- back to what the caller has
      have back : ∀ {k : Nat} {ts : List (Addr × O)} {σ' : Store}, k = k → H (ts ++ [(co, .list (bL out2)), (ct, .list [vI a2, vI b2, vI c2]), (md, dMine ol tl bk window most sz), (bk, .list (bL hist)), (rl, .list (rs.map fun r => .ref r.1)), (ll, .list (bL lit))]) F' σ' → True := fun _ _ => trivial
      (run_tac hlT)
      refine seq_tup (h2.mem hrow) ?_
      (run_tac hlT)
      rw [l4]; (run_tac hlT)
      rw [l1]; (run_tac hlT)
      refine len_list (H.at 5 h2 rfl) ?_; (run_tac hlT)
      rw [bL_len]
      (run_tac hcaseT `k1)
      · have k1 := of_decide_eq_false k1
        rw [if_neg (by (run_tac Mine.Lin.om))] at e7
        have hcl : ((cutL lit (some used) (some (used + ahead))).length : Int) = ahead := by rw [cutL_len e3 (by (run_tac Mine.Lin.om)) (by (run_tac Mine.Lin.om))]; (run_tac Mine.Lin.om)
        (run_tac hlT)
        rw [l5]; (run_tac hlT)
        rw [l1]; (run_tac hlT)
        rw [l4]; (run_tac hlT)
        rw [l4]; (run_tac hlT)
        refine slice_list (lo := some used) (hi := some (used + ahead)) (h2.at 5 rfl) (part_int e3) (part_int (by (run_tac Mine.Lin.om))) ?_
        rw [bL_cut]
        generalize hcut : cutL lit (some used) (some (used + ahead)) = cut at hcl e7
        refine Halloc h2 fun s σ3 h3 => ?_; (run_tac hlT)
        refine add_lists (h3.at 1 rfl) (h3.at 0 rfl) (by rw [bL_len, bL_len]; unfold LIM; (run_tac Mine.Lin.om)) ?_
        rw [bL_app]
        have e8 : ((out2 ++ cut).length : Int) = out2.length + ahead := by rw [List.length_append]; (run_tac Mine.Lin.om)
        generalize hout3 : out2 ++ cut = out3 at e7 e8
        refine Halloc h3 fun o3 σ4 h4 => ?_; (run_tac hlT)
        rw [l4]; (run_tac hlT)
        refine Halloc h4 fun tt σ5 h5 => ?_; (run_tac hlT)
        refine seq_tup (h5.at 0 rfl) ?_
        (run_tac hlT)
        rw [l6]; (run_tac hlT)
        refine meant_ok (d := d + 1) r4 r1 ((h5.pick [4, 1, 3, 5, 6, 7, 8]).frame 1) fun tm l3' σ6 h6 => ?_
        have h6 := h6.unframe.norm (by (run_tac krT))
        have hp := toldD_pos (ahead := ahead) p1 p2 p3 r4
        have hmv := fun hd => movedT_pos (p := (toldD a2 b2 c2 value ahead).2) (dist := (toldD a2 b2 c2 value ahead).1) p1 p2 p3 hd
        generalize (toldD a2 b2 c2 value ahead) = dp at *
        obtain ⟨dist, pl⟩ := dp
        dsimp only at *
        generalize (movedT a2 b2 c2 dist pl) = abc at *
        obtain ⟨a3, b3, c3⟩ := abc
        dsimp only at *
        (run_tac hlT)
        refine seq_tup (h6.at 0 rfl) ?_
        (run_tac hlT)
        (run_tac hcaseT `z1)
        · have z1 := of_decide_eq_false z1
          (run_tac hlT)
          refine len_list (H.at 3 h6 rfl) ?_; (run_tac hlT)
          rw [bL_len]
          rw [l3]; (run_tac hlT)
          rw [l2]; (run_tac hlT)
          refine item_dict (H.at 5 h6 rfl) (by (run_tac krT)) ?_; (run_tac hlT)
          (run_tac hcaseT `z2)
          · have z2 := of_decide_eq_false z2
            rw [if_neg (by (run_tac Mine.Lin.om))] at e7
            (run_tac hlT)
            refine len_list (H.at 3 h6 rfl) ?_; (run_tac hlT)
            rw [l2]; (run_tac hlT)
            refine item_dict (H.at 5 h6 rfl) (by (run_tac krT)) ?_; (run_tac hlT)
            refine len_list (H.at 6 h6 rfl) ?_; (run_tac hlT)
            rw [bL_len, bL_len]
            (run_tac hcaseT `z3)
            · have z3 := of_decide_eq_false z3
              (run_tac hlT)
              refine len_list (H.at 3 h6 rfl) ?_; (run_tac hlT)
              rw [bL_len]
              (run_tac hcaseT `z4)
              · have z4 := of_decide_eq_false z4
                (run_tac hlT)
                refine len_list (H.at 3 h6 rfl) ?_; (run_tac hlT)
                rw [bL_len]
                (run_tac hcaseT `z6)
                · exfalso; have z6 := of_decide_eq_false z6; (run_tac Mine.Lin.om)
                · have z6 := of_decide_eq_true z6
                  (run_tac hlT)
                  refine len_list (H.at 3 h6 rfl) ?_; (run_tac hlT)
                  rw [bL_len]
                  rw [l2]; (run_tac hlT)
                  refine item_dict (H.at 5 h6 rfl) (by (run_tac krT)) ?_; (run_tac hlT)
                  (run_tac hcaseT `z7)
                  · have z7 := of_decide_eq_false z7
                    rw [if_neg (by (run_tac Mine.Lin.om))] at e7
                    (run_tac hlT)
                    rw [l2]; (run_tac hlT)
                    refine item_dict (H.at 5 h6 rfl) (by (run_tac krT)) ?_; (run_tac hlT)
                    refine add_lists (h6.at 6 rfl) (h6.at 3 rfl) (by rw [bL_len, bL_len]; unfold LIM; (run_tac Mine.Lin.om)) ?_
                    rw [bL_app]
                    refine Halloc h6 fun past σ7 h7 => ?_; (run_tac hlT)
                    refine ⟨by (run_tac Mine.Lin.om), by (run_tac Mine.Lin.om), ?_⟩
                    refine Halloc h7 fun rr σ8 h8 => ?_; (run_tac hlT)
                    refine iter_rng (h8.at 0 rfl) ?_
                    (run_tac hlT)
                    have h8 := h8.pick [1, 3, 4, 5, 6, 7, 8, 9, 10]
                    refine forR (fun k loc σ' => (loc (S "letters") = some (.ref ll) ∧ loc (S "mine") = some (.ref md) ∧ loc (S "begin") = some (vI out.length) ∧ loc (S "used") = some (vI (used + ahead)) ∧ loc (S "three") = some (.ref l3') ∧ loc (S "distance") = some (vI dist) ∧ loc (S "past") = some (.ref past)) ∧
                      ∃ p : List UInt8, p.length = hist.length + out3.length + k ∧ k ≤ many.toNat ∧ copyL (many.toNat - k) dist.toNat p = copyL many.toNat dist.toNat (hist ++ out3) ∧
                      H [(past, .list (bL p)), (l3', .list [vI a3, vI b3, vI c3]), (ct, .list [vI a2, vI b2, vI c2]), (o3, .list (bL out3)), (co, .list (bL out2)), (md, dMine ol tl bk window most sz), (bk, .list (bL hist)), (rl, .list (rs.map fun r => .ref r.1)), (ll, .list (bL lit))] F' σ') ?_ ?_ ?_
                    · exact ⟨⟨by (run_tac klT); exact l1, by (run_tac klT); exact l2, by (run_tac klT); exact l3, by (run_tac krT), by (run_tac krT), by (run_tac krT), by (run_tac krT)⟩, _, by simp, Nat.zero_le _, rfl, h8⟩
                    · rintro loc' σ9 ⟨⟨m1, m2, m3, m4, m5, m6, m7⟩, p, g1, g2, g3, h9⟩
                      have hcnt : (many - 0).toNat = many.toNat := by (run_tac Mine.Lin.om)
                      rw [hcnt] at g1 g2 g3
                      rw [Nat.sub_self] at g3
                      have g3 : p = copyL many.toNat dist.toNat (hist ++ out3) := g3
                      rw [← g3] at e7
                      (run_tac hlT)
                      rw [m7]; (run_tac hlT)
                      rw [m2]; (run_tac hlT)
                      refine item_dict (H.at 5 h9 rfl) (by (run_tac krT)) ?_; (run_tac hlT)
                      refine len_list (H.at 6 h9 rfl) ?_; (run_tac hlT)
                      refine slice_list (lo := some (hist.length : Int)) (hi := none) (h9.at 0 rfl) (by rw [bL_len]; exact part_int (by (run_tac Mine.Lin.om))) rfl ?_
                      rw [bL_cut]
                      have hcut2 : cutL p (some (hist.length : Int)) none = p.drop hist.length := by simp [cutL]
                      rw [hcut2]
                      refine Halloc h9 fun o4 σ10 h10 => ?_; (run_tac hlT)
                      have hd4 : (p.drop hist.length).length = out3.length + many.toNat := by rw [List.length_drop]; (run_tac Mine.Lin.om)
                      have fin : ∀ F'', (((o4 = ol ∧ l3' = tl ∧ F'' = fr ∧ rs' = rs ∧ p.drop hist.length = out ∧ a3 = a ∧ b3 = b ∧ c3 = c) ∨ F'' = [(ol, .list (bL out)), (tl, .list [vI a, vI b, vI c])] ++ fr)) → (∀ r ∈ rs', rowO r ∈ F'') →
                        H [(o4, .list (bL (p.drop hist.length))), (l3', .list [vI a3, vI b3, vI c3]), (md, dMine ol tl bk window most sz), (bk, .list (bL hist)), (rl, .list (rs.map fun r => .ref r.1)), (ll, .list (bL lit))] F'' σ10 → KK (loc'.put (S "out") (.ref o4)) σ10 := fun F'' f1 f2 f3 =>
                          hKK _ _ ⟨⟨by (run_tac klT); exact m1, by (run_tac klT); exact m2, by (run_tac klT); exact m3⟩, F'', rs', used + ahead, _, a3, b3, c3, o4, l3', f1, e1x, ⟨f2, r5 (by (run_tac Mine.Lin.om))⟩, ⟨by (run_tac klT); exact m4, by (run_tac krT), by (run_tac klT); exact m5⟩, by (run_tac Mine.Lin.om), by (run_tac Mine.Lin.om), ⟨by (run_tac Mine.Lin.om), by (run_tac Mine.Lin.om)⟩, hmv (by (run_tac Mine.Lin.om)), e7, f3⟩
                      rcases hF with ⟨rfl, rfl, rfl, _, rfl, rfl, rfl, rfl⟩ | rfl
                      · exact fin _ (.inr rfl) (fun r hr => List.mem_append_right _ (e2.1 r (.tail _ hr))) ((h10.pick [0, 2, 6, 7, 8, 9, 5, 3]).frame 6)
                      · exact fin _ (.inr rfl) (fun r hr => e2.1 r (.tail _ hr)) (h10.pick [0, 2, 6, 7, 8, 9])
                    · rintro k loc' σ9 KK2 hk ⟨⟨m1, m2, m3, m4, m5, m6, m7⟩, p, g1, g2, g3, h9⟩ hKK2
                      have hk : k < many.toNat := by (run_tac Mine.Lin.om)
                      (run_tac hlT)
                      rw [m7]; (run_tac hlT)
                      refine meth_app (h9.at 0 rfl) ?_
                      (run_tac hlT)
                      rw [m7]; (run_tac hlT)
                      rw [m7]; (run_tac hlT)
                      refine len_list (H.at 0 h9 rfl) ?_; (run_tac hlT)
                      rw [m6]; (run_tac hlT)
                      refine item_list (h9.at 0 rfl) (by rw [bL_len]; (run_tac Mine.Lin.om)) (bL_get (by rw [bL_len]; (run_tac Mine.Lin.om))) ?_
                      (run_tac hlT)
                      refine Happ 0 h9 rfl (by rw [bL_len]; unfold LIM; (run_tac Mine.Lin.om)) (by (run_tac krT)) fun σ10 h10 => ?_
                      (run_tac hlT)
                      refine hKK2 _ _ ⟨⟨by (run_tac klT); exact m1, by (run_tac klT); exact m2, by (run_tac klT); exact m3, by (run_tac klT); exact m4, by (run_tac klT); exact m5, by (run_tac klT); exact m6, by (run_tac klT); exact m7⟩, p ++ [p.getD (p.length - dist.toNat) 0], by simp; (run_tac Mine.Lin.om), hk, ?_, ?_⟩
                      · rw [← g3, show many.toNat - k = (many.toNat - (k + 1)) + 1 by (run_tac Mine.Lin.om), copyL_succ]
                      · have e15 : ((↑(bL p).length - dist : Int)).toNat = p.length - dist.toNat := by rw [bL_len]; (run_tac Mine.Lin.om)
                        rw [e15] at h10
                        rw [← bL_app]
                        exact h10
                  · have z7 := of_decide_eq_true z7
                    rw [if_pos (by (run_tac Mine.Lin.om))] at e7
                    (run_tac hlT)
                    refine Halloc h6 fun du σ7 h7 => ?_; (run_tac hlT)
                    refine Halloc h7 fun tt2 σ8 h8 => ?_; (run_tac hlT)
                    subst e7
                    rcases hF with ⟨rfl, rfl, rfl, _, rfl, rfl, rfl, rfl⟩ | rfl
                    · exact q1 (by show (2 : Nat) ≠ 0; decide) _ _ _ _ _ (h8.pick [0, 1, 7, 6, 4, 8, 9, 10])
                    · exact q1 (by show (2 : Nat) ≠ 0; decide) _ _ _ _ _ ((h8.pick [0, 1, 7, 8, 9, 10]).unframe.pick [0, 1, 2, 6, 7, 3, 4, 5])
              · have z4 := of_decide_eq_true z4
                (run_tac hlT)
                rw [l2]; (run_tac hlT)
                refine item_dict (H.at 5 h6 rfl) (by (run_tac krT)) ?_; (run_tac hlT)
                (run_tac hcaseT `z5)
                · have z5 := of_decide_eq_false z5
                  (run_tac hlT)
                  refine len_list (H.at 3 h6 rfl) ?_; (run_tac hlT)
                  rw [bL_len]
                  (run_tac hcaseT `z6)
                  · have z6 := of_decide_eq_false z6
                    rw [if_neg (by (run_tac Mine.Lin.om))] at e7
                    (run_tac hlT)
                    rw [l2]; (run_tac hlT)
                    refine item_dict (H.at 5 h6 rfl) (by (run_tac krT)) ?_; (run_tac hlT)
                    refine add_lists (h6.at 6 rfl) (h6.at 3 rfl) (by rw [bL_len, bL_len]; unfold LIM; (run_tac Mine.Lin.om)) ?_
                    rw [bL_app]
                    refine Halloc h6 fun past σ7 h7 => ?_; (run_tac hlT)
                    refine ⟨by (run_tac Mine.Lin.om), by (run_tac Mine.Lin.om), ?_⟩
                    refine Halloc h7 fun rr σ8 h8 => ?_; (run_tac hlT)
                    refine iter_rng (h8.at 0 rfl) ?_
                    (run_tac hlT)
                    have h8 := h8.pick [1, 3, 4, 5, 6, 7, 8, 9, 10]
                    refine forR (fun k loc σ' => (loc (S "letters") = some (.ref ll) ∧ loc (S "mine") = some (.ref md) ∧ loc (S "begin") = some (vI out.length) ∧ loc (S "used") = some (vI (used + ahead)) ∧ loc (S "three") = some (.ref l3') ∧ loc (S "distance") = some (vI dist) ∧ loc (S "past") = some (.ref past)) ∧
                      ∃ p : List UInt8, p.length = hist.length + out3.length + k ∧ k ≤ many.toNat ∧ copyL (many.toNat - k) dist.toNat p = copyL many.toNat dist.toNat (hist ++ out3) ∧
                      H [(past, .list (bL p)), (l3', .list [vI a3, vI b3, vI c3]), (ct, .list [vI a2, vI b2, vI c2]), (o3, .list (bL out3)), (co, .list (bL out2)), (md, dMine ol tl bk window most sz), (bk, .list (bL hist)), (rl, .list (rs.map fun r => .ref r.1)), (ll, .list (bL lit))] F' σ') ?_ ?_ ?_
                    · exact ⟨⟨by (run_tac klT); exact l1, by (run_tac klT); exact l2, by (run_tac klT); exact l3, by (run_tac krT), by (run_tac krT), by (run_tac krT), by (run_tac krT)⟩, _, by simp, Nat.zero_le _, rfl, h8⟩
                    · rintro loc' σ9 ⟨⟨m1, m2, m3, m4, m5, m6, m7⟩, p, g1, g2, g3, h9⟩
                      have hcnt : (many - 0).toNat = many.toNat := by (run_tac Mine.Lin.om)
                      rw [hcnt] at g1 g2 g3
                      rw [Nat.sub_self] at g3
                      have g3 : p = copyL many.toNat dist.toNat (hist ++ out3) := g3
                      rw [← g3] at e7
                      (run_tac hlT)
                      rw [m7]; (run_tac hlT)
                      rw [m2]; (run_tac hlT)
                      refine item_dict (H.at 5 h9 rfl) (by (run_tac krT)) ?_; (run_tac hlT)
                      refine len_list (H.at 6 h9 rfl) ?_; (run_tac hlT)
                      refine slice_list (lo := some (hist.length : Int)) (hi := none) (h9.at 0 rfl) (by rw [bL_len]; exact part_int (by (run_tac Mine.Lin.om))) rfl ?_
                      rw [bL_cut]
                      have hcut2 : cutL p (some (hist.length : Int)) none = p.drop hist.length := by simp [cutL]
                      rw [hcut2]
                      refine Halloc h9 fun o4 σ10 h10 => ?_; (run_tac hlT)
                      have hd4 : (p.drop hist.length).length = out3.length + many.toNat := by rw [List.length_drop]; (run_tac Mine.Lin.om)
                      have fin : ∀ F'', (((o4 = ol ∧ l3' = tl ∧ F'' = fr ∧ rs' = rs ∧ p.drop hist.length = out ∧ a3 = a ∧ b3 = b ∧ c3 = c) ∨ F'' = [(ol, .list (bL out)), (tl, .list [vI a, vI b, vI c])] ++ fr)) → (∀ r ∈ rs', rowO r ∈ F'') →
                        H [(o4, .list (bL (p.drop hist.length))), (l3', .list [vI a3, vI b3, vI c3]), (md, dMine ol tl bk window most sz), (bk, .list (bL hist)), (rl, .list (rs.map fun r => .ref r.1)), (ll, .list (bL lit))] F'' σ10 → KK (loc'.put (S "out") (.ref o4)) σ10 := fun F'' f1 f2 f3 =>
                          hKK _ _ ⟨⟨by (run_tac klT); exact m1, by (run_tac klT); exact m2, by (run_tac klT); exact m3⟩, F'', rs', used + ahead, _, a3, b3, c3, o4, l3', f1, e1x, ⟨f2, r5 (by (run_tac Mine.Lin.om))⟩, ⟨by (run_tac klT); exact m4, by (run_tac krT), by (run_tac klT); exact m5⟩, by (run_tac Mine.Lin.om), by (run_tac Mine.Lin.om), ⟨by (run_tac Mine.Lin.om), by (run_tac Mine.Lin.om)⟩, hmv (by (run_tac Mine.Lin.om)), e7, f3⟩
                      rcases hF with ⟨rfl, rfl, rfl, _, rfl, rfl, rfl, rfl⟩ | rfl
                      · exact fin _ (.inr rfl) (fun r hr => List.mem_append_right _ (e2.1 r (.tail _ hr))) ((h10.pick [0, 2, 6, 7, 8, 9, 5, 3]).frame 6)
                      · exact fin _ (.inr rfl) (fun r hr => e2.1 r (.tail _ hr)) (h10.pick [0, 2, 6, 7, 8, 9])
                    · rintro k loc' σ9 KK2 hk ⟨⟨m1, m2, m3, m4, m5, m6, m7⟩, p, g1, g2, g3, h9⟩ hKK2
                      have hk : k < many.toNat := by (run_tac Mine.Lin.om)
                      (run_tac hlT)
                      rw [m7]; (run_tac hlT)
                      refine meth_app (h9.at 0 rfl) ?_
                      (run_tac hlT)
                      rw [m7]; (run_tac hlT)
                      rw [m7]; (run_tac hlT)
                      refine len_list (H.at 0 h9 rfl) ?_; (run_tac hlT)
                      rw [m6]; (run_tac hlT)
                      refine item_list (h9.at 0 rfl) (by rw [bL_len]; (run_tac Mine.Lin.om)) (bL_get (by rw [bL_len]; (run_tac Mine.Lin.om))) ?_
                      (run_tac hlT)
                      refine Happ 0 h9 rfl (by rw [bL_len]; unfold LIM; (run_tac Mine.Lin.om)) (by (run_tac krT)) fun σ10 h10 => ?_
                      (run_tac hlT)
                      refine hKK2 _ _ ⟨⟨by (run_tac klT); exact m1, by (run_tac klT); exact m2, by (run_tac klT); exact m3, by (run_tac klT); exact m4, by (run_tac klT); exact m5, by (run_tac klT); exact m6, by (run_tac klT); exact m7⟩, p ++ [p.getD (p.length - dist.toNat) 0], by simp; (run_tac Mine.Lin.om), hk, ?_, ?_⟩
                      · rw [← g3, show many.toNat - k = (many.toNat - (k + 1)) + 1 by (run_tac Mine.Lin.om), copyL_succ]
                      · have e15 : ((↑(bL p).length - dist : Int)).toNat = p.length - dist.toNat := by rw [bL_len]; (run_tac Mine.Lin.om)
                        rw [e15] at h10
                        rw [← bL_app]
                        exact h10
                  · exfalso; have z6 := of_decide_eq_true z6; (run_tac Mine.Lin.om)
                · have z5 := of_decide_eq_true z5
                  rw [if_pos (by (run_tac Mine.Lin.om))] at e7
                  (run_tac hlT)
                  refine Halloc h6 fun du σ7 h7 => ?_; (run_tac hlT)
                  refine Halloc h7 fun tt2 σ8 h8 => ?_; (run_tac hlT)
                  subst e7
                  rcases hF with ⟨rfl, rfl, rfl, _, rfl, rfl, rfl, rfl⟩ | rfl
                  · exact q1 (by show (2 : Nat) ≠ 0; decide) _ _ _ _ _ (h8.pick [0, 1, 7, 6, 4, 8, 9, 10])
                  · exact q1 (by show (2 : Nat) ≠ 0; decide) _ _ _ _ _ ((h8.pick [0, 1, 7, 8, 9, 10]).unframe.pick [0, 1, 2, 6, 7, 3, 4, 5])
            · have z3 := of_decide_eq_true z3
              rw [if_pos (by (run_tac Mine.Lin.om))] at e7
              (run_tac hlT)
              refine Halloc h6 fun du σ7 h7 => ?_; (run_tac hlT)
              refine Halloc h7 fun tt2 σ8 h8 => ?_; (run_tac hlT)
              subst e7
              rcases hF with ⟨rfl, rfl, rfl, _, rfl, rfl, rfl, rfl⟩ | rfl
              · exact q1 (by show (2 : Nat) ≠ 0; decide) _ _ _ _ _ (h8.pick [0, 1, 7, 6, 4, 8, 9, 10])
              · exact q1 (by show (2 : Nat) ≠ 0; decide) _ _ _ _ _ ((h8.pick [0, 1, 7, 8, 9, 10]).unframe.pick [0, 1, 2, 6, 7, 3, 4, 5])
          · have z2 := of_decide_eq_true z2
            rw [if_pos (by (run_tac Mine.Lin.om))] at e7
            (run_tac hlT)
            refine Halloc h6 fun du σ7 h7 => ?_; (run_tac hlT)
            refine Halloc h7 fun tt2 σ8 h8 => ?_; (run_tac hlT)
            subst e7
            rcases hF with ⟨rfl, rfl, rfl, _, rfl, rfl, rfl, rfl⟩ | rfl
            · exact q1 (by show (1 : Nat) ≠ 0; decide) _ _ _ _ _ (h8.pick [0, 1, 7, 6, 4, 8, 9, 10])
            · exact q1 (by show (1 : Nat) ≠ 0; decide) _ _ _ _ _ ((h8.pick [0, 1, 7, 8, 9, 10]).unframe.pick [0, 1, 2, 6, 7, 3, 4, 5])
        · have z1 := of_decide_eq_true z1
          rw [if_pos (by (run_tac Mine.Lin.om))] at e7
          (run_tac hlT)
          refine Halloc h6 fun du σ7 h7 => ?_; (run_tac hlT)
          refine Halloc h7 fun tt2 σ8 h8 => ?_; (run_tac hlT)
          subst e7
          rcases hF with ⟨rfl, rfl, rfl, _, rfl, rfl, rfl, rfl⟩ | rfl
          · exact q1 (by show (1 : Nat) ≠ 0; decide) _ _ _ _ _ (h8.pick [0, 1, 7, 6, 4, 8, 9, 10])
          · exact q1 (by show (1 : Nat) ≠ 0; decide) _ _ _ _ _ ((h8.pick [0, 1, 7, 8, 9, 10]).unframe.pick [0, 1, 2, 6, 7, 3, 4, 5])
      · have k1 := of_decide_eq_true k1
        rw [if_pos (by (run_tac Mine.Lin.om))] at e7
        (run_tac hlT)
        rw [l5]; (run_tac hlT)
        rw [l6]; (run_tac hlT)
        refine Halloc h2 fun du σ5 h5 => ?_; (run_tac hlT)
        refine Halloc h5 fun tt σ6 h6 => ?_; (run_tac hlT)
        subst e7
        rcases hF with ⟨rfl, rfl, rfl, _, rfl, rfl, rfl, rfl⟩ | rfl
        · exact q1 (by show (1 : Nat) ≠ 0; decide) _ _ _ _ _ (h6.pick [0, 1, 4, 2, 3, 5, 6, 7])
        · exact q1 (by show (1 : Nat) ≠ 0; decide) _ _ _ _ _ ((h6.pick [0, 1, 4, 5, 6, 7]).unframe.pick [0, 1, 2, 6, 7, 3, 4, 5])
  · exact ⟨⟨by (run_tac krT), by (run_tac krT), by rw [← bL_len (us := out)]; (run_tac krT)⟩, fr, rs, 0, out, a, b, c, ol, tl, .inl ⟨rfl, rfl, rfl, rfl, rfl, rfl, rfl, rfl⟩, rfl, ⟨hr, hro⟩, ⟨by (run_tac krT), by (run_tac krT), by (run_tac krT)⟩, by (run_tac Mine.Lin.om), by (run_tac Mine.Lin.om), ⟨by (run_tac Mine.Lin.om), by (run_tac Mine.Lin.om)⟩, ⟨ha, hb, hc⟩, hR, h1⟩
  run_tac endC
end
end Mine
end

section
open PySem PySem.W PyProof.Rows
set_option maxRecDepth 100000
namespace Mine

/-- a book: its tuple, its content's list, its three's list; number, content, three -/
noncomputable abbrev BookA := Addr × Addr × Addr × Int × List UInt8 × Int × Int × Int
noncomputable def bookO (z : BookA) : List (Addr × O) := [(z.1, .tup [vI z.2.2.2.1, .ref z.2.1, .ref z.2.2.1]), (z.2.1, .list (bL z.2.2.2.2.1)), (z.2.2.1, .list [vI z.2.2.2.2.2.1, vI z.2.2.2.2.2.2.1, vI z.2.2.2.2.2.2.2])]

theorem filt_idx {α : Type} (f : α → Int) (ident : Int) : ∀ (bs : List α), match (bs.map f).findIdx? (· = ident) with
    | some i => ∃ z rest, bs[i]? = some z ∧ bs.filter (fun z => f z = ident) = z :: rest
    | none => bs.filter (fun z => f z = ident) = []
  | [] => rfl
  | z :: bs => by
    rw [List.map_cons, List.findIdx?_cons]
    by_cases h : f z = ident
    · rw [if_pos (by simpa using h)]
      exact ⟨z, _, rfl, by rw [List.filter_cons_of_pos (by simpa using h)]⟩
    · rw [if_neg (by simpa using h)]
      have ih := filt_idx f ident bs
      rw [List.filter_cons_of_neg (by simpa using h)]
      cases q : (bs.map f).findIdx? (· = ident) with
      | none => rw [q] at ih; exact ih
      | some i =>
        rw [q] at ih
        obtain ⟨y, rest, e1, e2⟩ := ih
        exact ⟨y, rest, by simpa using e1, e2⟩

section
variable {P : Params} {σ : Store} {fr : List (Addr × O)} {K : KV} {X : KX} {d : Nat}

theorem picked_ok {bl : Addr} {bs : List BookA} {ident : Int} (h : H [(bl, .list (bs.map fun z => .ref z.1))] fr σ) (hz : ∀ z ∈ bs, ∀ p ∈ bookO z, p ∈ fr) (hl : bs.length < 100)
    (q1 : ∀ i z, pickI (bs.map (·.2.2.2.1)) ident = .at i → bs[i]? = some z → ∀ t du σ', H [(t, .tup [.ref z.1, .ref du]), (du, .tup []), (bl, .list (bs.map fun z => .ref z.1))] fr σ' → K (.ref t) σ')
    (q2 : pickI (bs.map (·.2.2.2.1)) ident = .no → ∀ t du σ', H [(t, .tup [.none, .ref du]), (du, .tup []), (bl, .list (bs.map fun z => .ref z.1))] fr σ' → K (.ref t) σ')
    (q3 : pickI (bs.map (·.2.2.2.1)) ident = .needs → ∀ t du σ', H [(t, .tup [.none, .ref du]), (du, .tup [vS (S "needs"), vI ident]), (bl, .list (bs.map fun z => .ref z.1))] fr σ' → K (.ref t) σ')
    (q4 : ∀ w, pickI (bs.map (·.2.2.2.1)) ident = .wrong w → ∀ t du σ', H [(t, .tup [.none, .ref du]), (du, .tup [vS (S "wrong"), vI ident, vI w]), (bl, .list (bs.map fun z => .ref z.1))] fr σ' → K (.ref t) σ') :
    callD (K0 P) GG (d + 2) (.ref f_law_picked) [.ref bl, vI ident] σ K X := by
  run_tac beginC
  show callStep (K0 P) GG (callD (K0 P) GG (d + 1)) _ _ _ _ _
  (run_tac hlT)
  (run_tac hinT `L `hL)
  have h1 := h.cells1 hL (.cell (some (vI ident)))
  (run_tac gsT `h1 `σ1)
  refine iter_list (h1.at 1 rfl) ?_
  (run_tac hlT)
  intro acc hacc L2 hL2
  have h2 := h1.new (o := .list []) hacc
  (run_tac gsT `h2 `σ2)
  refine compH_ind (fun items loc σ' => ∃ pre post, bs = pre ++ post ∧ items = post.map (fun z => Value.ref z.1) ∧ H [(acc, .list ((pre.filter fun z => z.2.2.2.1 = ident).map fun z => .ref z.1)), (L + 1, .cell (some (vI ident))), (bl, .list (bs.map fun z => .ref z.1))] fr σ') ?_ ?_ _ _ _ ?_
  · rintro loc σ3 ⟨pre, post, rfl, e1, h3⟩
    have : post = [] := by cases post with | nil => rfl | cons => cases e1
    subst this
    rw [List.append_nil] at *
    refine ⟨h3.at 2 rfl, ?_⟩
    have hf := filt_idx (fun z : BookA => z.2.2.2.1) ident pre
    (run_tac hlT)
    refine Halloc h3 fun e0 σ4 h4 => ?_; (run_tac hlT)
    refine ne_list (h4.at 1 rfl) (h4.at 0 rfl) (.inr rfl) ?_
    cases hq : (pre.map (·.2.2.2.1)).findIdx? (· = ident) with
    | none =>
      rw [hq] at hf
      dsimp only at hf
      rw [hf]
      (run_tac hlT)
      rw [H.at 2 h4 rfl]; (run_tac hlT)
      (run_tac hcaseT `c1)
      · have c1 := of_decide_eq_false c1
        (run_tac hlT)
        refine Halloc h4 fun e1 σ5 h5 => ?_; (run_tac hlT)
        refine eq_list (h5.at 4 rfl) (h5.at 0 rfl) (.inr rfl) ?_
        cases pre with
        | nil =>
          (run_tac hlT)
          rw [H.at 3 h5 rfl]; (run_tac hlT)
          refine Halloc h5 fun du σ6 h6 => ?_; (run_tac hlT)
          refine Halloc h6 fun t σ7 h7 => ?_; (run_tac hlT)
          exact q3 (by unfold pickI; rw [hq]; dsimp only; rw [if_neg c1]; rfl) _ _ _ (h7.pick [0, 1, 6])
        | cons z pre =>
          have z1 : (z.1, O.tup [vI z.2.2.2.1, .ref z.2.1, .ref z.2.2.1]) ∈ fr := hz z (.head _) _ (.head _)
          (run_tac hlT)
          rw [H.at 3 h5 rfl]; (run_tac hlT)
          refine item_list (h5.at 4 rfl) (by decide) rfl ?_
          (run_tac hlT)
          refine item_tup (h5.mem z1) (by decide) rfl ?_
          (run_tac hlT)
          refine Halloc h5 fun du σ6 h6 => ?_; (run_tac hlT)
          refine Halloc h6 fun t σ7 h7 => ?_; (run_tac hlT)
          exact q4 z.2.2.2.1 (by unfold pickI; rw [hq]; dsimp only; rw [if_neg c1]; rfl) _ _ _ (h7.pick [0, 1, 6])
      · have c1 := of_decide_eq_true c1
        (run_tac hlT)
        refine len_list (H.at 3 h4 rfl) ?_; (run_tac hlT)
        (run_tac hcaseT `c2)
        · have c2 := of_decide_eq_false c2
          (run_tac hlT)
          refine Halloc h4 fun du σ6 h6 => ?_; (run_tac hlT)
          refine Halloc h6 fun t σ7 h7 => ?_; (run_tac hlT)
          exact q2 (by unfold pickI; rw [hq]; dsimp only; rw [if_pos c1, if_neg (by rw [List.length_map] at c2 ⊢; (run_tac Mine.Lin.om))]) _ _ _ (h7.pick [0, 1, 5])
        · have c2 := of_decide_eq_true c2
          cases pre with
          | nil => exact absurd c2 (by decide)
          | cons z pre =>
            (run_tac hlT)
            refine item_list (h4.at 3 rfl) (by decide) rfl ?_
            (run_tac hlT)
            refine Halloc h4 fun du σ6 h6 => ?_; (run_tac hlT)
            refine Halloc h6 fun t σ7 h7 => ?_; (run_tac hlT)
            exact q1 0 z (by unfold pickI; rw [hq]; dsimp only; rw [if_pos c1, if_pos (by rw [List.length_map] at c2 ⊢; (run_tac Mine.Lin.om))]) rfl _ _ _ (h7.pick [0, 1, 5])
    | some i =>
      rw [hq] at hf
      obtain ⟨z, rest, e1, e2⟩ := hf
      rw [e2] at h4 ⊢
      (run_tac hlT)
      refine item_list (h4.at 1 rfl) (by decide) rfl ?_
      (run_tac hlT)
      refine Halloc h4 fun du σ6 h6 => ?_; (run_tac hlT)
      refine Halloc h6 fun t σ7 h7 => ?_; (run_tac hlT)
      exact q1 i z (by unfold pickI; rw [hq]) e1 _ _ _ (h7.pick [0, 1, 5])
  · rintro x xs loc σ3 KK ⟨pre, post, rfl, e1, h3⟩ hKK
    refine ⟨h3.at 2 rfl, ?_⟩
    cases post with
    | nil => cases e1
    | cons z post =>
      obtain ⟨rfl, e1x⟩ := List.cons.inj e1
      have hm : z ∈ pre ++ z :: post := List.mem_append_right _ (.head _)
      have z1 : (z.1, O.tup [vI z.2.2.2.1, .ref z.2.1, .ref z.2.2.1]) ∈ fr := hz z hm _ (.head _)
      (run_tac hlT)
      refine item_tup (h3.mem z1) (by decide) rfl ?_
      (run_tac hlT)
      rw [H.at 1 h3 rfl]; (run_tac hlT)
      (run_tac hcaseT `c1)
      · have c1 := of_decide_eq_false c1
        (run_tac hlT)
        exact hKK _ _ ⟨pre ++ [z], post, by simp, e1x, by rw [List.filter_append]; simpa [c1] using h3⟩
      · have c1 := of_decide_eq_true c1
        (run_tac hlT)
        refine ⟨_, h3.at 0 rfl, ?_, ?_⟩
        · rw [List.length_map]
          have := List.length_filter_le (fun z : BookA => decide (z.2.2.2.1 = ident)) pre
          simp at hl
          unfold LIM
          (run_tac Mine.Lin.om)
        · refine hKK _ _ ⟨pre ++ [z], post, by simp, e1x, ?_⟩
          have := (h3.upd 0 (.list (((pre.filter fun z => z.2.2.2.1 = ident).map fun z => .ref z.1) ++ [.ref z.1])) rfl).norm (by (run_tac krT))
          rw [List.filter_append]
          simpa [c1] using this
  · exact ⟨[], bs, rfl, rfl, h2⟩
  run_tac endC
end
end Mine
end

section
open PySem PySem.W PyProof.Rows
set_option maxRecDepth 100000
namespace Mine

theorem H.toFr {p : Addr × O} {ex l fr : List (Addr × O)} {σ : Store} (h : H (p :: ex) (l ++ fr) σ) : H ex ((l ++ [p]) ++ fr) σ := by
  run_tac beginC
  have e : (p :: ex ++ (l ++ fr)).Perm (ex ++ ((l ++ [p]) ++ fr)) := by
    have := (List.perm_middle (a := p) (l₁ := ex ++ l) (l₂ := fr)).symm
    simpa using this
  exact ⟨fun q hq => h.1 q (e.mem_iff.mpr hq), (e.map (·.1)).nodup_iff.mp h.2⟩
  run_tac endC

/-- an octet of the law's letters -/
theorem bL_snoc {us : List UInt8} {t : Int} (h0 : 0 ≤ t) (h1 : t < 256) : bL us ++ [vI t] = bL (us ++ [UInt8.ofNat t.toNat]) := by
  run_tac beginC
  rw [← bL_app]
  congr 1
  show [vI t] = [vI (((UInt8.ofNat t.toNat).toNat : Nat) : Int)]
  rw [UInt8.toNat_ofNat_of_lt' (by show t.toNat < 256; (run_tac Mine.Lin.om)), Int.toNat_of_nonneg h0]
  run_tac endC

theorem compR {lo hi : Int} {bind : Value → Loc → Store → (Loc → Store → Prop) → Prop} {test : Loc → Store → (Bool → Store → Prop) → Prop} {elt : Loc → Store → KV → Prop} {acc : Addr} {K : Store → Prop} (I : Nat → Store → Prop) {loc : Loc} {σ : Store} (h0 : I 0 σ) (hnil : ∀ σ, I (hi - lo).toNat σ → K σ)
    (hstep : ∀ (k : Nat) loc σ (KK : Loc → Store → Prop), k < (hi - lo).toNat → I k σ → (∀ loc σ, I (k + 1) σ → KK loc σ) → bind (vI (lo + (k : Int))) loc σ fun loc σ => test loc σ fun b σ => match b with
      | true => elt loc σ fun v σ => ∃ vs, σ acc = some (.list vs) ∧ vs.length < LIM ∧ KK loc (σ.set acc (.list (vs ++ [v])))
      | false => KK loc σ) : compH (fun _ => True) bind test elt acc (rangeItems lo hi) loc σ K := by
  run_tac beginC
  refine compH_ind (fun items loc σ => ∃ k, k ≤ (hi - lo).toNat ∧ items = (List.range' k ((hi - lo).toNat - k)).map (fun (i : Nat) => vI (lo + (i : Int))) ∧ I k σ) (fun loc σ h => ?_) (fun x xs loc σ KK h hK => ?_) _ _ _ ⟨0, Nat.zero_le _, by unfold rangeItems; rw [List.range_eq_range', Nat.sub_zero], h0⟩
  · obtain ⟨k, hk, e, hI⟩ := h
    refine ⟨trivial, hnil _ ?_⟩
    have : (hi - lo).toNat - k = 0 := by
      have := congrArg List.length e
      simpa using this.symm
    have : k = (hi - lo).toNat := by (run_tac Mine.Lin.om)
    rw [← this]; exact hI
  · obtain ⟨k, hk, e, hI⟩ := h
    have hlt : k < (hi - lo).toNat := by
      rcases Nat.lt_or_ge k (hi - lo).toNat with q | q
      · exact q
      · rw [Nat.sub_eq_zero_of_le q] at e; cases e
    have e2 : (hi - lo).toNat - k = ((hi - lo).toNat - (k + 1)) + 1 := by (run_tac Mine.Lin.om)
    rw [e2, List.range'_succ, List.map_cons] at e
    injection e with e3 e4
    refine ⟨trivial, ?_⟩
    rw [e3]
    exact hstep k loc σ KK hlt hI fun loc σ h => hK loc σ ⟨k + 1, hlt, e4, h⟩
  run_tac endC

theorem ten {t : Int} (h0 : 0 ≤ t) (h1 : t < 10) : t = 0 ∨ t = 1 ∨ t = 2 ∨ t = 3 ∨ t = 4 ∨ t = 5 ∨ t = 6 ∨ t = 7 ∨ t = 8 ∨ t = 9 := by
  run_tac beginC
  obtain ⟨n, rfl⟩ := Int.eq_ofNat_of_zero_le h0
  exact (show ∀ n : Nat, n < 10 → (n : Int) = 0 ∨ (n : Int) = 1 ∨ (n : Int) = 2 ∨ (n : Int) = 3 ∨ (n : Int) = 4 ∨ (n : Int) = 5 ∨ (n : Int) = 6 ∨ (n : Int) = 7 ∨ (n : Int) = 8 ∨ (n : Int) = 9 by decide) n (Int.ofNat_lt.mp h1)
  run_tac endC
theorem max_ok {F : Frag} {σ : Store} {K : KV} {i j : Int} (h : K (vI (max i j)) σ) : builtinH F "max" [vI i, vI j] σ K := h

section
variable {P : Params} {σ : Store} {fr : List (Addr × O)} {K : KV} {X : KX} {d : Nat}

theorem rows_ok {b md ol tl bk : Addr} {w n window most : Int} {sz : Value} {out hist : List UInt8} (h : H [(b, .list [vI w, vI n]), (md, dMine ol tl bk window most sz), (ol, .list (bL out)), (bk, .list (bL hist))] fr σ)
    (hw : 0 ≤ w) (hn : 0 ≤ n) (hN : n < 2 ^ 30) (hwd : 0 ≤ window) (ho : out.length < 60000) (hh : hist.length < 60000)
    (q : ∀ t rl ll rs lit w' n' σ', 0 ≤ w' → 0 ≤ n' → n' ≤ n + 40 → rs ≠ [] → lit.length < 10 → rowsOk lit.length 0 (rs.map (·.2)) → (rs.length ≤ 3) →
      H [(t, .tup [.ref rl, .ref ll]), (rl, .list (rs.map fun r => .ref r.1)), (ll, .list (bL lit)), (b, .list [vI w', vI n']), (md, dMine ol tl bk window most sz), (ol, .list (bL out)), (bk, .list (bL hist))] (rs.map rowO ++ fr) σ' → K (.ref t) σ') :
    callD (K0 P) GG (d + 2) (.ref f_law_rows) [.ref b, .ref md] σ K X := by
  run_tac beginC
  show callStep (K0 P) GG (callD (K0 P) GG (d + 1)) _ _ _ _ _
  (run_tac hlT)
  (run_tac hinT `L `hL)
  have h1 := h.cells1 hL (.cell (some (.ref b)))
  (run_tac gsT `h1 `σ1)
  rw [H.at 0 h1 rfl]; (run_tac hlT)
  refine take_ok (d := d) ((h1.pick [1, 0, 2, 3, 4]).frame 1) hw hn (by (run_tac Mine.Lin.om)) (by decide) (by decide) fun t w1 σ2 t0 t1 w10 h2 => ?_
  have h2 := h2.unframe.norm (by (run_tac krT))
  (run_tac hlT)
  refine ⟨by (run_tac Mine.Lin.om), by (run_tac Mine.Lin.om), ?_⟩
  refine Halloc h2 fun r σ3 h3 => ?_; (run_tac hlT)
  refine iter_rng (h3.at 0 rfl) ?_
  (run_tac hlT)
  intro acc hacc L2 hL2
  have h4 := h3.new (o := .list []) hacc
  (run_tac gsT `h4 `σ4)
  refine compR (fun k σ' => ∃ (us : List UInt8) (w2 n2 : Int), us.length = k ∧ 0 ≤ w2 ∧ n2 = n + 1 + k ∧ k ≤ 7 ∧ H [(acc, .list (bL us)), (b, .list [vI w2, vI n2]), (L + 1, .cell (some (.ref b))), (md, dMine ol tl bk window most sz), (ol, .list (bL out)), (bk, .list (bL hist))] fr σ') ?_ ?_ ?_
  · exact ⟨[], w1, n + 1, rfl, w10, by (run_tac Mine.Lin.om), by (run_tac Mine.Lin.om), h4.pick [0, 2, 3, 4, 5, 6]⟩
  · rintro σ5 ⟨lit, w2, n2, f1, f2, f3, f4, h5⟩
    (run_tac hlT)
    refine Halloc h5 fun rl σ6 h6 => ?_; (run_tac hlT)
    refine item_dict (H.at 4 h6 rfl) (by (run_tac krT)) ?_; (run_tac hlT)
    refine len_list (H.at 5 h6 rfl) ?_; (run_tac hlT)
    refine Halloc h6 fun t3 σ7 h7 => ?_; (run_tac hlT)
    refine seq_tup (h7.at 0 rfl) ?_
    (run_tac hlT)
    rw [H.at 4 h7 rfl]; (run_tac hlT)
    refine take_ok (d := d) ((h7.pick [3, 1, 2, 4, 5, 6, 7]).frame 1) f2 (by (run_tac Mine.Lin.om)) (by (run_tac Mine.Lin.om)) (by decide) (by decide) fun tr w3 σ8 tr0 tr1 w30 h8 => ?_
    have h8 := h8.unframe.norm (by (run_tac krT))
    (run_tac hlT)
    refine ⟨by (run_tac Mine.Lin.om), by (run_tac Mine.Lin.om), ?_⟩
    refine Halloc h8 fun r2 σ9 h9 => ?_; (run_tac hlT)
    refine iter_rng (h9.at 0 rfl) ?_
    (run_tac hlT)
    have h9 := h9.pick [2, 3, 1, 4, 5, 6, 7]
    refine forR (fun k loc σ' => (loc (S "letters") = some (.ref acc) ∧ loc (S "mine") = some (.ref md) ∧ loc (S "rows") = some (.ref rl)) ∧ ∃ (rs : List RowA) (w4 n4 used have_ : Int), rs.length = k ∧ k ≤ 3 ∧ loc (S "used") = some (vI used) ∧ loc (S "have") = some (vI have_) ∧ 0 ≤ w4 ∧ (n ≤ n4 ∧ n4 ≤ n + 9 + 5 * k) ∧ (0 ≤ used ∧ used ≤ lit.length + 1) ∧ 0 ≤ have_ ∧
      rowsOk lit.length 0 (rs.map (·.2)) ∧ (∀ e, rowsEnd lit.length 0 (rs.map (·.2)) = some e → e = used ∧ used ≤ lit.length) ∧
      H [(rl, .list (rs.map fun r => .ref r.1)), (acc, .list (bL lit)), (b, .list [vI w4, vI n4]), (L + 1, .cell (some (.ref b))), (md, dMine ol tl bk window most sz), (ol, .list (bL out)), (bk, .list (bL hist))] (rs.map rowO ++ fr) σ') ?_ ?_ ?_
    · exact ⟨⟨by (run_tac krT), by (run_tac krT), by (run_tac krT)⟩, [], w3, n2 + 1, 0, ((bL out).length : Nat), rfl, by (run_tac Mine.Lin.om), by (run_tac krT), by (run_tac krT), w30, ⟨by (run_tac Mine.Lin.om), by (run_tac Mine.Lin.om)⟩, ⟨by (run_tac Mine.Lin.om), by (run_tac Mine.Lin.om)⟩, by (run_tac Mine.Lin.om), trivial, fun e he => by cases he; exact ⟨rfl, by (run_tac Mine.Lin.om)⟩, h9⟩
    · rintro loc σ10 ⟨⟨m1, m2, m3⟩, rs, w4, n4, used, have_, g1, g2, g3, g4, g5, ⟨g6, g6'⟩, ⟨g7, g7'⟩, g8, g9, g10, h10⟩
      (run_tac hlT)
      rw [m3]; (run_tac hlT)
      rw [m1]; (run_tac hlT)
      refine Halloc h10 fun tt σ11 h11 => ?_; (run_tac hlT)
      have hk0 : 1 ≤ rs.length := by (run_tac Mine.Lin.om)
      exact q _ _ _ rs lit w4 n4 _ g5 (by (run_tac Mine.Lin.om)) (by (run_tac Mine.Lin.om)) (fun z => by rw [z] at hk0; exact absurd hk0 (by decide)) (by (run_tac Mine.Lin.om)) g9 (by (run_tac Mine.Lin.om)) (h11.pick [0, 1, 2, 3, 5, 6, 7])
    · rintro k loc σ10 KK hk ⟨⟨m1, m2, m3⟩, rs, w4, n4, used, have_, g1, g2, g3, g4, g5, ⟨g6, g6'⟩, ⟨g7, g7'⟩, g8, g9, g10, h10⟩ hKK
      have hk : k < 3 := by (run_tac Mine.Lin.om)
      (run_tac hlT)
      rw [H.at 3 h10 rfl]; (run_tac hlT)
      refine take_ok (d := d) ((h10.pick [2, 0, 1, 3, 4, 5, 6]).frame 1) g5 (by (run_tac Mine.Lin.om)) (by (run_tac Mine.Lin.om)) (by decide) (by decide) fun ta w5 σ11 ta0 ta1 w50 h11 => ?_
      have h11 := h11.unframe.norm (by (run_tac krT))
      (run_tac hlT)
      rw [m1]; (run_tac hlT)
      refine len_list (H.at 2 h11 rfl) ?_; (run_tac hlT)
      rw [bL_len]
      rw [g3]; (run_tac hlT)
      rw [H.at 3 h11 rfl]; (run_tac hlT)
      refine take_ok (d := d) (h11.frame 1) w50 (by (run_tac Mine.Lin.om)) (by (run_tac Mine.Lin.om)) (by decide) (by decide) fun tb w6 σ12 tb0 tb1 w60 h12 => ?_
      have h12 := h12.unframe.norm (by (run_tac krT))
      (run_tac hlT)
      generalize hone : (if decide (tb = 11) = true then (1 : Int) else 0) = one
      have hone0 : 0 ≤ one ∧ one ≤ 1 := by rw [← hone]; split <;> (run_tac Mine.Lin.om)
      generalize hah : min ta (↑lit.length - used) + one = ahead
      (run_tac hlT)
      rw [H.at 3 h12 rfl]; (run_tac hlT)
      refine take_ok (d := d) (h12.frame 1) w60 (by (run_tac Mine.Lin.om)) (by (run_tac Mine.Lin.om)) (by decide) (by decide) fun tc w7 σ13 tc0 tc1 w70 h13 => ?_
      have h13 := h13.unframe.norm (by (run_tac krT))
      (run_tac hlT)
      rw [g3]; (run_tac hlT)
      rw [g4]; (run_tac hlT)
      refine Halloc h13 fun t4 σ14 h14 => ?_; (run_tac hlT)
      refine seq_tup (h14.at 0 rfl) ?_
      (run_tac hlT)
      rw [m2]; (run_tac hlT)
      refine item_dict (H.at 5 h14 rfl) (by (run_tac krT)) ?_; (run_tac hlT)
      rw [m2]; (run_tac hlT)
      refine item_dict (H.at 5 h14 rfl) (by (run_tac krT)) ?_; (run_tac hlT)
      refine max_ok ?_
      (run_tac hlT)
      rw [m2]; (run_tac hlT)
      refine item_dict (H.at 5 h14 rfl) (by (run_tac krT)) ?_; (run_tac hlT)
      refine len_list (H.at 7 h14 rfl) ?_; (run_tac hlT)
      refine Halloc h14 fun near σ15 h15 => ?_; (run_tac hlT)
      rw [m2]; (run_tac hlT)
      refine item_dict (H.at 6 h15 rfl) (by (run_tac krT)) ?_; (run_tac hlT)
      refine len_list (H.at 8 h15 rfl) ?_; (run_tac hlT)
      rw [H.at 5 h15 rfl]; (run_tac hlT)
      refine take_ok (d := d) ((h15.pick [2, 0, 1, 3, 4, 5, 6, 7, 8]).frame 1) w70 (by (run_tac Mine.Lin.om)) (by (run_tac Mine.Lin.om)) (by decide) (by decide) fun td w8 σ16 td0 td1 w80 h16 => ?_
      have h16 := h16.unframe.norm (by (run_tac krT))
      (run_tac hlT)
      refine Halloc h16 fun nb σ17 h17 => ?_; (run_tac hlT)
      refine add_lists (h17.at 2 rfl) (h17.at 0 rfl) (by unfold LIM; simp) ?_
      refine Halloc h17 fun near2 σ18 h18 => ?_; (run_tac hlT)
      rw [m3]; (run_tac hlT)
      refine meth_app (h18.at 5 rfl) ?_
      (run_tac hlT)
      rw [H.at 7 h18 rfl]; (run_tac hlT)
      refine take_ok (d := d) ((h18.pick [2, 0, 1, 3, 4, 5, 6, 7, 8, 9, 10]).frame 1) w80 (by (run_tac Mine.Lin.om)) (by (run_tac Mine.Lin.om)) (by decide) (by decide) fun te w9 σ19 te0 te1 w90 h19 => ?_
      have h19 := h19.unframe.norm (by (run_tac krT))
      have hahead : -1 ≤ ahead ∧ (0 ≤ used + ahead ∧ used + ahead ≤ lit.length + 1) ∧ (used ≤ lit.length → 0 ≤ ahead) ∧ ahead ≤ 5 := by (run_tac Mine.Lin.om)
      obtain ⟨x, hx, hx1⟩ : ∃ x : Int, ([vI 1, vI 2, vI 3, vI (3 + window), vI (4 + window), vI (3 + max (have_ + ahead) 1), vI (4 + (have_ + ahead)), vI (3 + (have_ + ahead) + ↑(bL hist).length)] ++ [vI (4 + (have_ + ahead) + ↑(bL hist).length), vI (4 + td)])[te.toNat]? = some (vI x) ∧ 1 ≤ x := by
        have hc := ten (t := te) (by (run_tac Mine.Lin.om)) (by (run_tac Mine.Lin.om))
        rcases hc with rfl | rfl | rfl | rfl | rfl | rfl | rfl | rfl | rfl | rfl <;> exact ⟨_, rfl, by (run_tac Mine.Lin.om)⟩
      refine item_list (h19.at 1 rfl) te0 hx ?_
      (run_tac hlT)
      refine Halloc h19 fun tp σ20 h20 => ?_; (run_tac hlT)
      refine Happ 6 h20 rfl (by rw [List.length_map]; unfold LIM; (run_tac Mine.Lin.om)) (by (run_tac krT)) fun σ21 h21 => ?_
      (run_tac hlT)
      have h22 := ((h21.pick [0, 6, 7, 1, 8, 9, 10, 11]).norm (by (run_tac krT))).toFr
      have hnew : ∀ e, rowsEnd lit.length 0 (rs.map (·.2)) = some e → rowOk (ahead, 1 + tc, x) := fun e he => by
        obtain ⟨rfl, hu⟩ := g10 e he
        exact ⟨hahead.2.2.1 hu, show 0 ≤ 1 + tc by (run_tac Mine.Lin.om), show 1 + tc < 2 ^ 20 by (run_tac Mine.Lin.om), hx1⟩
      refine hKK _ _ ⟨⟨by (run_tac klT); exact m1, by (run_tac klT); exact m2, by (run_tac klT); exact m3⟩, rs ++ [(tp, ahead, 1 + tc, x)], w9, n4 + 1 + 1 + 1 + 1 + 1, used + ahead, have_ + ahead + (1 + tc), by rw [List.length_append, g1]; rfl, by (run_tac Mine.Lin.om), by (run_tac krT), by (run_tac krT), w90, ⟨by (run_tac Mine.Lin.om), by (run_tac Mine.Lin.om)⟩, hahead.2.1, by (run_tac Mine.Lin.om), ?_, ?_, ?_⟩
      · rw [List.map_append]
        exact rowsOk_snoc g9 hnew
      · intro e he
        rw [List.map_append, List.map_cons, List.map_nil, rowsEnd_snoc] at he
        cases hq : rowsEnd lit.length 0 (rs.map (·.2)) with
        | none => rw [hq] at he; cases he
        | some e0 =>
          rw [hq] at he
          obtain ⟨rfl, hu⟩ := g10 e0 hq
          simp only [Option.bind_some] at he
          split at he
          · cases he; exact ⟨rfl, by assumption⟩
          · cases he
      · rw [List.map_append, List.map_append]
        exact h22
  · rintro k loc σ5 KK hk ⟨us, w2, n2, f1, f2, f3, f4, h5⟩ hKK
    have hk : k < t.toNat := by (run_tac Mine.Lin.om)
    (run_tac hlT)
    rw [H.at 2 h5 rfl]; (run_tac hlT)
    refine take_ok (d := d) ((h5.pick [1, 0, 2, 3, 4, 5]).frame 1) f2 (by (run_tac Mine.Lin.om)) (by (run_tac Mine.Lin.om)) (by decide) (by decide) fun t2 w3 σ6 t20 t21 w30 h6 => ?_
    have h6 := h6.unframe.norm (by (run_tac krT))
    (run_tac hlT)
    refine ⟨_, h6.at 1 rfl, by rw [bL_len]; unfold LIM; (run_tac Mine.Lin.om), ?_⟩
    rw [bL_snoc (by (run_tac Mine.Lin.om)) (by (run_tac Mine.Lin.om))]
    have h7 := (h6.upd 1 (.list (bL (us ++ [UInt8.ofNat (97 + t2).toNat]))) rfl).norm (by (run_tac krT))
    exact hKK _ _ ⟨us ++ [UInt8.ofNat (97 + t2).toNat], w3, n2 + 1, by rw [List.length_append, f1]; rfl, w30, by (run_tac Mine.Lin.om), by (run_tac Mine.Lin.om), h7.pick [1, 0, 2, 3, 4, 5]⟩
  run_tac endC
end
end Mine
end

section
open PySem PySem.W PyProof.Rows
set_option maxRecDepth 100000
namespace Mine

section
variable {P : Params} {σ : Store} {fr : List (Addr × O)} {K : KV} {X : KX} {d : Nat}

theorem small_of {i : Int} {k : Nat} (h0 : 0 ≤ i) (h : i < 2 ^ (110 + 20 * k)) (hk : k ≤ 24) : small i := by
  run_tac beginC
  unfold small
  have e : (2 : Int) ^ (110 + 20 * k) = ((2 ^ (110 + 20 * k) : Nat) : Int) := by simp
  rw [e] at h
  have h1 : i.natAbs < 2 ^ (110 + 20 * k) := by (run_tac Mine.Lin.om)
  exact Nat.lt_of_lt_of_le h1 (Nat.pow_le_pow_right (by decide) (by (run_tac Mine.Lin.om)))
  run_tac endC
theorem box_step {w t u : Int} {k : Nat} (h0 : 0 ≤ w) (h : w < 2 ^ (110 + 20 * k)) (ht : 0 ≤ t) (ht' : t < 10 ^ 30) (hu : 0 ≤ u) (hu' : u ≤ 1) : 0 ≤ w * 1000003 + t * 2 + u ∧ w * 1000003 + t * 2 + u < 2 ^ (110 + 20 * (k + 1)) := by
  run_tac beginC
  have e : (2 : Int) ^ (110 + 20 * (k + 1)) = 2 ^ (110 + 20 * k) * 1048576 := by
    rw [show 110 + 20 * (k + 1) = (110 + 20 * k) + 20 by (run_tac Mine.Lin.om), Int.pow_add]; rfl
  have e2 : (2 : Int) ^ 110 ≤ 2 ^ (110 + 20 * k) := by
    have : (2 : Nat) ^ 110 ≤ 2 ^ (110 + 20 * k) := Nat.pow_le_pow_right (by decide) (by (run_tac Mine.Lin.om))
    exact_mod_cast this
  rw [e]
  generalize (2 : Int) ^ (110 + 20 * k) = B at *
  have e3 : (10 : Int) ^ 30 * 2 + 1 ≤ 2 ^ 110 := by decide
  (run_tac Mine.Lin.om)
  run_tac endC

theorem box_ok {sl : Addr} {ns : List Int} (h : H [(sl, .rlist (ns.map vI))] fr σ)
    (q : ∀ b w σ', 0 ≤ w → H [(b, .list [vI w, vI 0]), (sl, .rlist (ns.map vI))] fr σ' → K (.ref b) σ') : callD (K0 P) GG (d + 2) (.ref f_law_box) [.ref sl] σ K X := by
  run_tac beginC
  show callStep (K0 P) GG (callD (K0 P) GG (d + 1)) _ _ _ _ _
  (run_tac hlT)
  (run_tac hinT `L `hL)
  refine slice_rlist (lo := none) (hi := some 24) (h.at 0 rfl) rfl rfl ?_
  refine Halloc h fun cl σ1 h1 => ?_; (run_tac hlT)
  refine iter_list (h1.at 0 rfl) ?_
  (run_tac hlT)
  have hc : cutL (ns.map vI) none (some 24) = (ns.take 24).map vI := by simp [cutL]
  rw [hc] at h1 ⊢
  refine forH_ind (fun items loc σ' => ∃ (k : Nat) (rest : List Int) (w : Int), items = rest.map vI ∧ rest.length + k ≤ 24 ∧ loc (S "whole_one") = some (vI w) ∧ 0 ≤ w ∧ w < 2 ^ (110 + 20 * k) ∧ H [(cl, .list ((ns.take 24).map vI)), (sl, .rlist (ns.map vI))] fr σ') ?_ ?_ _ _ _ ?_
  · rintro loc σ2 ⟨k, rest, w, e1, e2, e3, e4, e5, h2⟩
    refine ⟨h2.at 0 rfl, ?_⟩
    (run_tac hlT)
    rw [e3]; (run_tac hlT)
    refine Halloc h2 fun r σ3 h3 => ?_; (run_tac hlT)
    exact q _ _ _ e4 (h3.pick [0, 2])
  · rintro x xs loc σ2 KK ⟨k, rest, w, e1, e2, e3, e4, e5, h2⟩ hKK
    refine ⟨h2.at 0 rfl, ?_⟩
    cases rest with
    | nil => cases e1
    | cons c rest =>
      obtain ⟨rfl, e1x⟩ := List.cons.inj e1
      rw [List.length_cons] at e2
      (run_tac hlT)
      rw [e3]; (run_tac hlT)
      refine ⟨small_of e4 e5 (by (run_tac Mine.Lin.om)), small_lt (by (run_tac Mine.Lin.om)) (by (run_tac Mine.Lin.om)), ?_⟩
      (run_tac hlT)
      have t0 : 0 ≤ (↑c.natAbs : Int) % 10 ^ 30 := Int.emod_nonneg _ (by decide)
      have t1 : (↑c.natAbs : Int) % 10 ^ 30 < 10 ^ 30 := Int.emod_lt_of_pos _ (by decide)
      generalize (↑c.natAbs : Int) % 10 ^ 30 = t at t0 t1 ⊢
      refine ⟨small_of (k := 0) t0 (Int.lt_trans t1 (by decide)) (by (run_tac Mine.Lin.om)), ?_⟩
      refine ⟨small_lt (by (run_tac Mine.Lin.om)) (by (run_tac Mine.Lin.om)), ?_⟩
      (run_tac hlT)
      generalize hu : (if decide (c < 0) = true then (1 : Int) else 0) = u
      have hu0 : 0 ≤ u ∧ u ≤ 1 := by rw [← hu]; split <;> (run_tac Mine.Lin.om)
      have hs := box_step e4 e5 t0 t1 hu0.1 hu0.2
      refine hKK _ _ ⟨k + 1, rest, _, e1x, by (run_tac Mine.Lin.om), by (run_tac krT), hs.1, hs.2, h2⟩
  · exact ⟨0, ns.take 24, 0, rfl, by rw [List.length_take]; (run_tac Mine.Lin.om), by (run_tac krT), by (run_tac Mine.Lin.om), by decide, h1⟩
  run_tac endC
end
end Mine
end

section
open PySem PySem.W PyProof.Rows
set_option maxRecDepth 100000
namespace Mine

noncomputable def bookGood (z : BookA) : Prop := (0 ≤ z.2.2.2.1 ∧ z.2.2.2.1 < 301) ∧ z.2.2.2.2.1.length ≤ 12 ∧ (1 ≤ z.2.2.2.2.2.1 ∧ 1 ≤ z.2.2.2.2.2.2.1 ∧ 1 ≤ z.2.2.2.2.2.2.2)

section
variable {P : Params} {σ : Store} {fr : List (Addr × O)} {K : KV} {X : KX} {d : Nat}

theorem pickL {l : List Int} {t : Int} (h0 : 0 ≤ t) (h1 : t < l.length) {p : Int → Prop} (hp : ∀ x ∈ l, p x) : ∃ x, (l.map vI)[t.toNat]? = some (vI x) ∧ p x := by
  run_tac beginC
  have : t.toNat < l.length := by (run_tac Mine.Lin.om)
  exact ⟨l[t.toNat], by rw [List.getElem?_map, List.getElem?_eq_getElem this]; rfl, hp _ (List.getElem_mem this)⟩
  run_tac endC

theorem books_ok {b : Addr} {w n : Int} (h : H [(b, .list [vI w, vI n])] fr σ) (hw : 0 ≤ w) (hn : 0 ≤ n) (hN : n < 2 ^ 30)
    (q : ∀ bl (bs : List BookA) w' n' σ', 0 ≤ w' → 0 ≤ n' → n' ≤ n + 100 → bs.length ≤ 2 → (∀ z ∈ bs, bookGood z) → H [(bl, .list (bs.map fun z => .ref z.1)), (b, .list [vI w', vI n'])] (bs.flatMap bookO ++ fr) σ' → K (.ref bl) σ') :
    callD (K0 P) GG (d + 2) (.ref f_law_books) [.ref b] σ K X := by
  run_tac beginC
  show callStep (K0 P) GG (callD (K0 P) GG (d + 1)) _ _ _ _ _
  (run_tac hlT)
  (run_tac hinT `L `hL)
  have h1 := h.cells1 hL (.cell (some (.ref b)))
  (run_tac gsT `h1 `σ1)
  refine Halloc h1 fun bl σ2 h2 => ?_; (run_tac hlT)
  refine Halloc h2 fun t0 σ3 h3 => ?_; (run_tac hlT)
  rw [H.at 2 h3 rfl]; (run_tac hlT)
  refine take_ok (d := d) ((h3.pick [3, 0, 1, 2]).frame 1) hw hn (by (run_tac Mine.Lin.om)) (by decide) (by decide) fun t w1 σ4 t0 t1 w10 h4 => ?_
  have h4 := h4.unframe.norm (by (run_tac krT))
  obtain ⟨m, hm, hm1⟩ := pickL (l := [0, 1, 1, 2]) t0 t1 (p := fun x => 0 ≤ x ∧ x ≤ 2) (by decide)
  (run_tac hlT)
  refine item_list (h4.at 1 rfl) t0 hm ?_
  (run_tac hlT)
  refine ⟨by (run_tac Mine.Lin.om), by (run_tac Mine.Lin.om), ?_⟩
  refine Halloc h4 fun r σ5 h5 => ?_; (run_tac hlT)
  refine iter_rng (h5.at 0 rfl) ?_
  (run_tac hlT)
  have h5 := h5.pick [3, 1, 4]
  refine forR (fun k loc σ' => loc (S "found") = some (.ref bl) ∧ ∃ (bs : List BookA) (w2 n2 : Int), bs.length = k ∧ k ≤ 2 ∧ 0 ≤ w2 ∧ (n ≤ n2 ∧ n2 ≤ n + 1 + 20 * k) ∧ (∀ z ∈ bs, bookGood z) ∧
    H [(bl, .list (bs.map fun z => .ref z.1)), (b, .list [vI w2, vI n2]), (L + 1, .cell (some (.ref b)))] (bs.flatMap bookO ++ fr) σ') ?_ ?_ ?_
  · exact ⟨by (run_tac krT), [], w1, n + 1, rfl, by (run_tac Mine.Lin.om), w10, ⟨by (run_tac Mine.Lin.om), by (run_tac Mine.Lin.om)⟩, (fun z hz => absurd hz (by simp)), h5⟩
  · rintro loc σ6 ⟨m1, bs, w2, n2, g1, g2, g3, ⟨g4, g4'⟩, g5, h6⟩
    (run_tac hlT)
    rw [m1]; (run_tac hlT)
    exact q _ bs w2 n2 _ g3 (by (run_tac Mine.Lin.om)) (by (run_tac Mine.Lin.om)) (by (run_tac Mine.Lin.om)) g5 (h6.pick [0, 1])
  · rintro k loc σ6 KK hk ⟨m1, bs, w2, n2, g1, g2, g3, ⟨g4, g4'⟩, g5, h6⟩ hKK
    have hk : k < 2 := by (run_tac Mine.Lin.om)
    (run_tac hlT)
    refine Halloc h6 fun l1 σ7 h7 => ?_; (run_tac hlT)
    rw [H.at 3 h7 rfl]; (run_tac hlT)
    refine take_ok (d := d) ((h7.pick [2, 0, 1, 3]).frame 1) g3 (by (run_tac Mine.Lin.om)) (by (run_tac Mine.Lin.om)) (by decide) (by decide) fun ta w3 σ8 ta0 ta1 w30 h8 => ?_
    have h8 := h8.unframe.norm (by (run_tac krT))
    obtain ⟨mm, hmm, hmm1⟩ := pickL (l := [8, 3, 0, 12]) ta0 ta1 (p := fun x => 0 ≤ x ∧ x ≤ 12) (by decide)
    (run_tac hlT)
    refine item_list (h8.at 1 rfl) ta0 hmm ?_
    (run_tac hlT)
    refine ⟨by (run_tac Mine.Lin.om), by (run_tac Mine.Lin.om), ?_⟩
    refine Halloc h8 fun r2 σ9 h9 => ?_; (run_tac hlT)
    refine iter_rng (h9.at 0 rfl) ?_
    (run_tac hlT)
    intro acc hacc L2 hL2
    have h10 := h9.new (o := .list []) hacc
    (run_tac gsT `h10 `σ10)
    have h10 := h10.pick [0, 2, 4, 5]
    refine compR (fun j σ' => ∃ (us : List UInt8) (w4 n4 : Int), us.length = j ∧ j ≤ 12 ∧ 0 ≤ w4 ∧ n4 = n2 + 1 + j ∧ H [(acc, .list (bL us)), (b, .list [vI w4, vI n4]), (bl, .list (bs.map fun z => .ref z.1)), (L + 1, .cell (some (.ref b)))] (bs.flatMap bookO ++ fr) σ') ?_ ?_ ?_
    · exact ⟨[], w3, n2 + 1, rfl, by (run_tac Mine.Lin.om), w30, by (run_tac Mine.Lin.om), h10⟩
    · rintro σ11 ⟨us, w4, n4, f1, f2, f3, f4, h11⟩
      (run_tac hlT)
      refine Halloc h11 fun l2 σ12 h12 => ?_; (run_tac hlT)
      rw [H.at 4 h12 rfl]; (run_tac hlT)
      refine take_ok (d := d) ((h12.pick [2, 0, 1, 3, 4]).frame 1) f3 (by (run_tac Mine.Lin.om)) (by (run_tac Mine.Lin.om)) (by decide) (by decide) fun tb w5 σ13 tb0 tb1 w50 h13 => ?_
      have h13 := h13.unframe.norm (by (run_tac krT))
      obtain ⟨ident, hid, hid1⟩ := pickL (l := [0, 0, 7, 9, 300]) tb0 tb1 (p := fun x => 0 ≤ x ∧ x < 301) (by decide)
      (run_tac hlT)
      refine item_list (h13.at 1 rfl) tb0 hid ?_
      (run_tac hlT)
      have h13 := h13.pick [2, 0, 3, 4]
      -- how it ends
      have fin : ∀ (loc' : Loc) (th : Addr) (a1 b1 c1 w6 n6 : Int) (σ14 : Store), 1 ≤ a1 → 1 ≤ b1 → 1 ≤ c1 → 0 ≤ w6 → (n ≤ n6 ∧ n6 ≤ n4 + 4) →
          loc' (S "found") = some (.ref bl) → loc' (S "content") = some (.ref acc) → loc' (S "ident") = some (vI ident) → loc' (S "three") = some (.ref th) →
          H [(th, .list [vI a1, vI b1, vI c1]), (acc, .list (bL us)), (b, .list [vI w6, vI n6]), (bl, .list (bs.map fun z => .ref z.1)), (L + 1, .cell (some (.ref b)))] (bs.flatMap bookO ++ fr) σ14 →
          ∀ (tp : Addr) (σ15 : Store), H [(tp, .tup [vI ident, .ref acc, .ref th]), (th, .list [vI a1, vI b1, vI c1]), (acc, .list (bL us)), (b, .list [vI w6, vI n6]), (bl, .list ((bs.map fun z => .ref z.1) ++ [.ref tp])), (L + 1, .cell (some (.ref b)))] (bs.flatMap bookO ++ fr) σ15 → KK loc' σ15 := by
        intro loc' th a1 b1 c1 w6 n6 σ14 ha1 hb1 hc1 hw6 hn6 q1 q2 q3 q4 h14 tp σ15 h15
        have h16 := (((h15.pick [0, 2, 1, 4, 3, 5]).norm (by (run_tac krT))).toFr.toFr).toFr
        refine hKK _ _ ⟨q1, bs ++ [(tp, acc, th, ident, us, a1, b1, c1)], w6, n6, by rw [List.length_append, g1]; rfl, hk, hw6, ⟨by (run_tac Mine.Lin.om), by (run_tac Mine.Lin.om)⟩, fun z hz => ?_, ?_⟩
        · rcases List.mem_append.mp hz with hz | hz
          · exact g5 z hz
          · rw [List.mem_singleton.mp hz]
            exact ⟨hid1, show us.length ≤ 12 by (run_tac Mine.Lin.om), ha1, hb1, hc1⟩
        · rw [List.flatMap_append, List.map_append]
          simpa [bookO] using h16
      (run_tac hcaseT `c1)
      · (run_tac hlT)
        refine Halloc h13 fun th σ14 h14 => ?_; (run_tac hlT)
        rw [m1]; (run_tac hlT)
        refine meth_app (h14.at 3 rfl) ?_
        (run_tac hlT)
        refine Halloc h14 fun tp σ15 h15 => ?_; (run_tac hlT)
        refine Happ 4 h15 rfl (by rw [List.length_map]; unfold LIM; (run_tac Mine.Lin.om)) (by (run_tac krT)) fun σ16 h16 => ?_
        (run_tac hlT)
        exact fin _ th 1 4 8 w5 (n4 + 1) σ14 (by (run_tac Mine.Lin.om)) (by (run_tac Mine.Lin.om)) (by (run_tac Mine.Lin.om)) w50 ⟨by (run_tac Mine.Lin.om), by (run_tac Mine.Lin.om)⟩ (by (run_tac klT); exact m1) (by (run_tac krT)) (by (run_tac krT)) (by (run_tac krT)) ((h14.pick [0, 1, 2, 3, 4])) tp σ16 (h16.pick [0, 1, 2, 3, 4, 5])
      · (run_tac hlT)
        refine Halloc h13 fun r3 σ14 h14 => ?_; (run_tac hlT)
        refine iter_rng (h14.at 0 rfl) ?_
        (run_tac hlT)
        intro th hth L3 hL3
        have h15 := h14.new (o := .list []) hth
        (run_tac gsT `h15 `σ15)
        have h15 := h15.pick [0, 2, 3, 4, 5]
        (run_tac hturnT)
        rw [H.at 4 h15 rfl]; (run_tac hlT)
        refine take_ok (d := d) ((h15.pick [2, 0, 1, 3, 4]).frame 1) w50 (by (run_tac Mine.Lin.om)) (by (run_tac Mine.Lin.om)) (by decide) (by decide) fun x1 v1 σ16 x10 x11 v10 h16 => ?_
        have h16 := h16.unframe.norm (by (run_tac krT))
        (run_tac hlT)
        refine ⟨_, h16.at 1 rfl, by (run_tac kdT), ?_⟩
        (run_tac hsetT `h16 1 `σ17 `h17)
        (run_tac hturnT)
        rw [H.at 4 h17 rfl]; (run_tac hlT)
        refine take_ok (d := d) (h17.frame 1) v10 (by (run_tac Mine.Lin.om)) (by (run_tac Mine.Lin.om)) (by decide) (by decide) fun x2 v2 σ18 x20 x21 v20 h18 => ?_
        have h18 := h18.unframe.norm (by (run_tac krT))
        (run_tac hlT)
        refine ⟨_, h18.at 1 rfl, by (run_tac kdT), ?_⟩
        (run_tac hsetT `h18 1 `σ19 `h19)
        (run_tac hturnT)
        rw [H.at 4 h19 rfl]; (run_tac hlT)
        refine take_ok (d := d) (h19.frame 1) v20 (by (run_tac Mine.Lin.om)) (by (run_tac Mine.Lin.om)) (by decide) (by decide) fun x3 v3 σ20 x30 x31 v30 h20 => ?_
        have h20 := h20.unframe.norm (by (run_tac krT))
        (run_tac hlT)
        refine ⟨_, h20.at 1 rfl, by (run_tac kdT), ?_⟩
        (run_tac hsetT `h20 1 `σ21 `h21)
        (run_tac hturnT)
        rw [m1]; (run_tac hlT)
        refine meth_app (h21.at 3 rfl) ?_
        (run_tac hlT)
        refine Halloc h21 fun tp σ22 h22 => ?_; (run_tac hlT)
        refine Happ 4 h22 rfl (by rw [List.length_map]; unfold LIM; (run_tac Mine.Lin.om)) (by (run_tac krT)) fun σ23 h23 => ?_
        (run_tac hlT)
        exact fin _ th (1 + x1) (1 + x2) (1 + x3) v3 (n4 + 1 + 1 + 1 + 1) σ21 (by (run_tac Mine.Lin.om)) (by (run_tac Mine.Lin.om)) (by (run_tac Mine.Lin.om)) v30 ⟨by (run_tac Mine.Lin.om), by (run_tac Mine.Lin.om)⟩ (by (run_tac klT); exact m1) (by (run_tac krT)) (by (run_tac krT)) (by (run_tac krT)) (h21.pick [1, 2, 0, 3, 4]) tp σ23 (h23.pick [0, 2, 3, 1, 4, 5])
    · rintro j loc2 σ11 KK2 hj ⟨us, w4, n4, f1, f2, f3, f4, h11⟩ hKK2
      have hj : j < 12 := by (run_tac Mine.Lin.om)
      (run_tac hlT)
      rw [H.at 3 h11 rfl]; (run_tac hlT)
      refine take_ok (d := d) ((h11.pick [1, 0, 2, 3]).frame 1) f3 (by (run_tac Mine.Lin.om)) (by (run_tac Mine.Lin.om)) (by decide) (by decide) fun t2 w5 σ12 t20 t21 w50 h12 => ?_
      have h12 := h12.unframe.norm (by (run_tac krT))
      (run_tac hlT)
      refine ⟨_, h12.at 1 rfl, by rw [bL_len]; unfold LIM; (run_tac Mine.Lin.om), ?_⟩
      rw [bL_snoc (by (run_tac Mine.Lin.om)) (by (run_tac Mine.Lin.om))]
      have h13 := (h12.upd 1 (.list (bL (us ++ [UInt8.ofNat (97 + t2).toNat]))) rfl).norm (by (run_tac krT))
      exact hKK2 _ _ ⟨us ++ [UInt8.ofNat (97 + t2).toNat], w5, n4 + 1, by rw [List.length_append, f1]; rfl, by (run_tac Mine.Lin.om), w50, by (run_tac Mine.Lin.om), h13.pick [1, 0, 2, 3]⟩
  run_tac endC
end
end Mine
end

section
open PySem PySem.W PyProof.Rows
set_option maxRecDepth 100000
namespace Mine

noncomputable abbrev tLB : Addr := 1584
noncomputable abbrev tLD : Addr := 1591
noncomputable abbrev tL : Addr := 1596
noncomputable abbrev oLB : O := .tab #[] (S "_law_block.<locals>.<lambda>")
noncomputable abbrev oLD : O := .tab #[] (S "_law_deed_right.<locals>.<lambda>")
noncomputable abbrev oL : O := .tab #[] (S "law.<locals>.<lambda>")

section
variable {P : Params} {σ : Store} {fr : List (Addr × O)} {K : KV} {X : KX} {d : Nat}

theorem lamI_ok {f : Addr} {fd : FuncData} {args : Arguments} {scope : Scope} {body : PySem.Expr} {cl : List (PySem.Str × Addr)} {q : PySem.Str} (hn : (K0 P).lookup f = none) (hs : σ f = some (.fn fd)) (e1 : fd.params = args) (e2 : fd.body = .expr body) (e3 : fd.scope = scope) (e4 : fd.closure = cl) (e5 : fd.qualname = q)
    (e6 : fd.globals = mainGlobals) (e7 : fd.builtins = builtinsNs) (e8 : fd.defaults = .none) (c1 : (plainScope scope && noDefaults args) = true) (c2 : (scope.names.all fun x => x.2 != .cell) = true)
    (h : ∀ L code, Fresh σ L → (evI (K0 P) GG (callD (K0 P) GG d) (callI (K0 P) GG OW d) 40).E { scope := scope, locals := L, globals := mainGlobals, cells := cl, qual := q ++ ".<locals>.", func := some f, code := code, frame := some L, builtins := builtinsNs } body Loc.nil σ K X) :
    callI (K0 P) GG OW (d + 1) (.ref f) [] σ K X := by
  run_tac beginC
  show callStepI (K0 P) GG OW (callD (K0 P) GG d) (callI (K0 P) GG OW d) (.ref f) [] σ K X
  unfold callStepI
  dsimp only
  rw [hn]
  dsimp only
  rw [hs]
  dsimp only
  obtain ⟨c1, c3⟩ := Bool.and_eq_true_iff.mp c1
  refine ⟨by rw [e3, e1, e6, e7, e8, c1, c3]; rfl, rfl, ?_⟩
  rw [e2]
  dsimp only
  refine ⟨by rw [e3]; exact c2, fun L hL => ?_⟩
  unfold envH
  rw [e3, e4, e5]
  exact h L fd.code hL
  run_tac endC

theorem flat_bL {us : List UInt8} : ∀ {n : Nat}, (List.replicate n (bL us)).flatten = bL (List.replicate n us).flatten
  | 0 => rfl
  | n + 1 => by rw [List.replicate_succ, List.flatten_cons, List.replicate_succ, List.flatten_cons, flat_bL, bL_app]
theorem flat_len {α : Type} {us : List α} : ∀ {n : Nat}, (List.replicate n us).flatten.length = n * us.length
  | 0 => by simp
  | n + 1 => by rw [List.replicate_succ, List.flatten_cons, List.length_append, flat_len, Nat.succ_mul, Nat.add_comm]

theorem lblock_ok {st dst hd dhd bo tb ofs md ol tl bk cl : Addr} {most window ident kind bsize : Int} {sz : Option Int} {hist : List UInt8} {out : Array UInt8} {content : List UInt8}
    (h : H [(st, .inst cFrameState dst), (dst, dState hd most bo hist.toArray tb ofs), (hd, .inst cFrameHeader dhd), (dhd, dHeader window (optV sz) ident), (bo, .barr out), (md, dMine ol tl bk window most (optV sz)), (ol, .list (bL out.toList)), (cl, .list (bL content)), (tLB, oLB)] fr σ)
    (hk : kind = 0 ∨ kind = 1 ∨ kind = 3) (hc0 : kind = 0 → (content.length : Int) = bsize) (hc : kind ≠ 0 → content.length = 1) (hs : ∀ n, sz = some n → tlong n) (hm0 : 0 ≤ most) (hm1 : most < 100) (hb0 : 0 ≤ bsize) (hb1 : bsize < 200) (hz : out.size < 30000)
    (q1 : ∀ t σ', H [(t, .tup [.bool true, .bool true])] fr σ' → K (.ref t) σ')
    (q2 : ∀ t ol' (out' : Array UInt8) σ', (out'.size : Int) ≤ out.size + most → H [(t, .tup [.bool true, .bool false]), (st, .inst cFrameState dst), (dst, dState hd most bo hist.toArray tb ofs), (hd, .inst cFrameHeader dhd), (dhd, dHeader window (optV sz) ident), (bo, .barr out'), (md, dMine ol' tl bk window most (optV sz)), (ol', .list (bL out'.toList)), (tLB, oLB)] fr σ' → K (.ref t) σ') :
    callI (K0 P) GG OW (d + 8) (.ref f_law_block) [.ref st, .ref md, vI kind, vI bsize, .ref cl] σ K X := by
  run_tac beginC
  show callStepI (K0 P) GG OW (callD (K0 P) GG (d + 7)) (callI (K0 P) GG OW (d + 7)) _ _ _ _ _
  (run_tac hlT)
  (run_tac hinT `L `hL)
  have h1 := h.cells3 hL (.cell (some (.ref st))) (.cell (some (.ref cl))) (.cell none)
  (run_tac gsT `h1 `σ1)
  refine callI_P (by kernel_rfl) (by kernel_rfl) ?_
  refine blockHead_ok (d := d + 5) (h1.frame 0) fun hb dhb σ2 h2 => ?_
  have h2 := h2.unframe.norm (by (run_tac krT))
  (run_tac hlT)
  refine Hcell 2 h2 rfl (by (run_tac krT)) fun σ3 h3 => ?_
  (run_tac hlT)
  refine ⟨_, _, h3.at 13 rfl, by (run_tac krT), fun σ4 f fd kp hf hF e p1 p2 p3 p4 p5 p6 p7 p8 => ?_⟩
  have h4 := h3.got kp hf e
  (run_tac hlT)
  refine wordI (d := d + 6) (fun vs σ' => (kind = 3 ∧ vs = [vS (S "block")] ∧ H [(md, dMine ol tl bk window most (optV sz))] fr σ') ∨ (kind ≠ 3 ∧ bsize > most ∧ vs = [vS (S "large"), vS (S "block"), vI bsize, vI most] ∧ H [(md, dMine ol tl bk window most (optV sz))] fr σ') ∨
    (kind ≠ 3 ∧ ¬ bsize > most ∧ vs = [vS (S "gave"), vI (if kind = 1 then 1 else bsize)] ∧ H [(hb, .inst cBlockHead dhb), (dhb, dHead (.bool false) kind bsize), (L + 1 + 1 + 1, .cell (some (.ref hb))), (L + 1 + 1, .cell (some (.ref cl))), (L + 1, .cell (some (.ref st))), (st, .inst cFrameState dst), (dst, dState hd most bo hist.toArray tb ofs), (hd, .inst cFrameHeader dhd), (dhd, dHeader window (optV sz) ident), (bo, .barr out), (md, dMine ol tl bk window most (optV sz)), (ol, .list (bL out.toList)), (cl, .list (bL content)), (tLB, oLB)] fr σ')) (fun K' X' hg hx => ?_) fun vs σ5 hQ => ?_
  · refine lamI_ok (d := d + 5) hF (h4.at 0 rfl) p1 p2 p3 p4 p5 p6 p7 p8 (by kernel_rfl) (by kernel_rfl) fun L2 code hL2 => ?_
    (run_tac hlT)
    rw [H.at 5 h4 rfl]; (run_tac hlT)
    refine meth_inst (h4.at 6 rfl) (h4.at 7 rfl) (by (run_tac krT)) (by kernel_rfl) (f := fFrameState_contentcount) (by kernel_rfl) (by kernel_rfl) ?_
    (run_tac hlT)
    rw [H.at 3 h4 rfl]; (run_tac hlT)
    refine callI_P (by kernel_rfl) (by kernel_rfl) ?_
    refine count_ok (d := d) ((h4.pick [6, 7, 1, 2, 11, 3, 4, 5, 8, 9, 10, 12, 13, 14]).frame 4) ?_ ?_ (fun k3 e dx σ5 h5 => ?_) (fun k3 k4 e dx r σ5 h5 => ?_) fun k3 k4 => ?_
    · unfold tlong; (run_tac Mine.Lin.om)
    · unfold tlong; (run_tac Mine.Lin.om)
    · have h5 := h5.unframe.norm (by (run_tac krT))
      exact hx _ _ (.block dx (h5.at 0 rfl) (.inl ⟨k3, rfl, h5.pick [1]⟩))
    · have h5 := h5.unframe.norm (by (run_tac krT))
      exact hx _ _ (.large dx r _ _ _ (h5.at 0 rfl) (h5.at 1 rfl) (.inr (.inl ⟨k3, k4, rfl, h5.pick [2]⟩)))
    · exact hg _ _ (.inr (.inr ⟨k3, k4, rfl, h4.pick [1, 2, 3, 4, 5, 6, 7, 8, 9, 10, 11, 12, 13, 14]⟩))
  · rcases hQ with ⟨rfl, rfl, h5⟩ | ⟨k3, k4, rfl, h5⟩ | ⟨k3, k4, rfl, h5⟩
    · refine Halloc h5 fun told σ6 h6 => ?_; (run_tac hlT)
      refine Halloc h6 fun t2 σ7 h7 => ?_; (run_tac hlT)
      refine eq_tup (h7.at 1 rfl) (h7.at 0 rfl) rfl (by rfl) ?_
      (run_tac hlT)
      refine Halloc h7 fun t3 σ8 h8 => ?_; (run_tac hlT)
      exact q1 _ _ (h8.pick [0])
    · refine Halloc h5 fun told σ6 h6 => ?_; (run_tac hlT)
      (run_tac hcaseT `c1)
      · (run_tac hlT)
        refine item_dict (H.at 1 h6 rfl) (by (run_tac krT)) ?_; (run_tac hlT)
        (run_tac hcaseT `c2)
        · exfalso; have := of_decide_eq_false c2; (run_tac Mine.Lin.om)
        · (run_tac hlT)
          (run_tac hcaseT `c3)
          · (run_tac hlT)
            refine item_dict (H.at 1 h6 rfl) (by (run_tac krT)) ?_; (run_tac hlT)
            refine Halloc h6 fun t2 σ7 h7 => ?_; (run_tac hlT)
            refine eq_tup (h7.at 1 rfl) (h7.at 0 rfl) rfl (by rfl) ?_
            (run_tac hlT)
            refine Halloc h7 fun t3 σ8 h8 => ?_; (run_tac hlT)
            exact q1 _ _ (h8.pick [0])
          · exfalso; have := of_decide_eq_true c3; (run_tac Mine.Lin.om)
      · exfalso; have := of_decide_eq_true c1; (run_tac Mine.Lin.om)
    · rcases hk with rfl | rfl | rfl
      · have e1 : (if (0 : Int) = 1 then (1 : Int) else bsize) = bsize := if_neg (by decide)
        rw [e1]
        refine Halloc h5 fun told σ6 h6 => ?_; (run_tac hlT)
        refine item_dict (H.at 11 h6 rfl) (by (run_tac krT)) ?_; (run_tac hlT)
        (run_tac hcaseT `c2)
        · (run_tac hlT)
          refine Halloc h6 fun t2 σ7 h7 => ?_; (run_tac hlT)
          refine ne_tup (h7.at 1 rfl) (h7.at 0 rfl) rfl (by rfl) ?_
          (run_tac hlT)
          have h7 := h7.pick [2, 3, 4, 5, 6, 7, 8, 9, 10, 11, 12, 13, 14, 15]
          rw [H.at 3 h7 rfl]; (run_tac hlT)
          have hlen := hc0 rfl
          have hmore : moreP 0 bsize content = content := if_pos rfl
          have hmr : ∃ mr, mr = cl := ⟨_, rfl⟩
          refine ⟨_, _, h7.at 13 rfl, by (run_tac krT), fun σ8 f fd kp hf hF e p1 p2 p3 p4 p5 p6 p7 p8 => ?_⟩
          have h8 := h7.got kp hf e
          (run_tac hlT)
          refine wordI (d := d + 6) (fun vs σ' => (∃ n, sz = some n ∧ (out.size + (content).length : Int) > n ∧ vs = [vS (S "size"), vS (S "content"), vI n, vI (out.size + (content).length : Nat)] ∧ H [(md, dMine ol tl bk window most (optV sz)), (ol, .list (bL out.toList)), (cl, .list (bL content))] fr σ') ∨
            ((∀ n, sz = some n → ¬ (out.size + (content).length : Int) > n) ∧ vs = [vS (S "gave"), vB (content).toArray] ∧ H [(st, .inst cFrameState dst), (dst, dState hd most bo hist.toArray tb ofs), (hd, .inst cFrameHeader dhd), (dhd, dHeader window (optV sz) ident), (bo, .barr (out ++ (content).toArray)), (md, dMine ol tl bk window most (optV sz)), (ol, .list (bL out.toList)), (cl, .list (bL content)), (tLB, oLB)] fr σ')) (fun K' X' hg hx => ?_) fun vs σ9 hQ => ?_
          · refine lamI_ok (d := d + 5) hF (h8.at 0 rfl) p1 p2 p3 p4 p5 p6 p7 p8 (by kernel_rfl) (by kernel_rfl) fun L2 code hL2 => ?_
            (run_tac hlT)
            rw [H.at 5 h8 rfl]; (run_tac hlT)
            refine meth_inst (h8.at 6 rfl) (h8.at 7 rfl) (by (run_tac krT)) (by kernel_rfl) (f := fFrameState_block) (by kernel_rfl) (by kernel_rfl) ?_
            (run_tac hlT)
            rw [H.at 3 h8 rfl]; (run_tac hlT)
            rw [H.at 4 h8 rfl]; (run_tac hlT)
            refine bytes_bL (h8.at 13 rfl) ?_
            (run_tac hlT)
            refine block_ok (d := d) ((h8.pick [6, 7, 8, 9, 10, 1, 2, 11, 12, 13, 14]).frame 7) (.inl rfl) (fun z => absurd z (by decide)) hs hb0 (by (run_tac Mine.Lin.om)) (by rw [hmore]; unfold LIM; (run_tac Mine.Lin.om)) (fun n hn hgt e dx r σ10 h10 => ?_) fun hle σ10 h10 => ?_
            · have h10 := h10.unframe.norm (by (run_tac krT))
              rw [hmore] at hgt h10
              exact hx _ _ (.size dx r _ _ _ (h10.at 0 rfl) (h10.at 1 rfl) (.inl ⟨n, hn, hgt, rfl, h10.pick [2, 3, 4]⟩))
            · have h10 := h10.unframe.norm (by (run_tac krT))
              rw [hmore] at hle h10 ⊢
              exact hg _ _ (.inr ⟨hle, rfl, h10.pick [0, 1, 2, 3, 4, 7, 8, 9, 10]⟩)
          · rcases hQ with ⟨n, rfl, hgt, rfl, h9⟩ | ⟨hle, rfl, h9⟩
            · dsimp only [optV] at h9
              refine Halloc h9 fun told2 σ10 h10 => ?_; (run_tac hlT)
              refine item_dict (H.at 1 h10 rfl) (by (run_tac krT)) ?_; (run_tac hlT)
              refine add_lists (h10.at 2 rfl) (h10.at 3 rfl) (by rw [bL_len, bL_len]; unfold LIM; simp; (run_tac Mine.Lin.om)) ?_
              rw [bL_app]
              refine Halloc h10 fun ol2 σ11 h11 => ?_; (run_tac hlT)
              refine Halloc h11 fun t3 σ12 h12 => ?_; (run_tac hlT)
              refine seq_tup (h12.at 0 rfl) ?_
              (run_tac hlT)
              refine Hput_dict 3 h12 rfl (by (run_tac kdT)) (by (run_tac krT)) (by (run_tac krT)) fun σ13 h13 => ?_; (run_tac hlT)
              refine item_dict (H.at 3 h13 rfl) (by (run_tac krT)) ?_; (run_tac hlT)
              refine item_dict (H.at 3 h13 rfl) (by (run_tac krT)) ?_; (run_tac hlT)
              refine len_list (H.at 1 h13 rfl) ?_; (run_tac hlT)
              refine item_dict (H.at 3 h13 rfl) (by (run_tac krT)) ?_; (run_tac hlT)
              rw [bL_len]
              have hsz : ((out.toList ++ content).length : Nat) = out.size + (content).length := by simp
              rw [hsz]
              (run_tac hcaseT `c3)
              · exfalso; have := of_decide_eq_false c3; (run_tac Mine.Lin.om)
              · (run_tac hlT)
                refine item_dict (H.at 3 h13 rfl) (by (run_tac krT)) ?_; (run_tac hlT)
                refine item_dict (H.at 3 h13 rfl) (by (run_tac krT)) ?_; (run_tac hlT)
                refine len_list (H.at 1 h13 rfl) ?_; (run_tac hlT)
                rw [bL_len, hsz]
                refine Halloc h13 fun t4 σ14 h14 => ?_; (run_tac hlT)
                refine eq_tup (h14.at 3 rfl) (h14.at 0 rfl) rfl (by rfl) ?_
                (run_tac hlT)
                refine Halloc h14 fun t5 σ15 h15 => ?_; (run_tac hlT)
                exact q1 _ _ (h15.pick [0])
            · have hfin : ((out ++ (content).toArray).size : Int) ≤ out.size + most := by rw [Array.size_append, show (content).toArray.size = (content).length by simp]; (run_tac Mine.Lin.om)
              have hls : bL (out.toList ++ content) = bL (out ++ (content).toArray).toList := by simp
              have hsz : ((out.toList ++ content).length : Nat) = out.size + (content).length := by simp
              cases sz with
              | none =>
                dsimp only [optV] at h9 q2
                refine Halloc h9 fun told2 σ10 h10 => ?_; (run_tac hlT)
                refine item_dict (H.at 6 h10 rfl) (by (run_tac krT)) ?_; (run_tac hlT)
                refine add_lists (h10.at 7 rfl) (h10.at 8 rfl) (by rw [bL_len, bL_len]; unfold LIM; simp; (run_tac Mine.Lin.om)) ?_
                rw [bL_app]
                refine Halloc h10 fun ol2 σ11 h11 => ?_; (run_tac hlT)
                refine Halloc h11 fun t3 σ12 h12 => ?_; (run_tac hlT)
                refine seq_tup (h12.at 0 rfl) ?_
                (run_tac hlT)
                refine Hput_dict 8 h12 rfl (by (run_tac kdT)) (by (run_tac krT)) (by (run_tac krT)) fun σ13 h13 => ?_; (run_tac hlT)
                refine item_dict (H.at 8 h13 rfl) (by (run_tac krT)) ?_; (run_tac hlT)
                refine bytes_bL (h13.at 10 rfl) ?_
                (run_tac hlT)
                refine Halloc h13 fun t4 σ14 h14 => ?_; (run_tac hlT)
                refine eq_tup (h14.at 3 rfl) (h14.at 0 rfl) rfl (by rfl) ?_
                (run_tac hlT)
                refine Halloc h14 fun t5 σ15 h15 => ?_; (run_tac hlT)
                rw [hls] at h15
                exact q2 t5 ol2 _ _ hfin (h15.pick [0, 5, 6, 7, 8, 9, 10, 3, 13])
              | some n =>
                have hle := hle n rfl
                dsimp only [optV] at h9 q2
                refine Halloc h9 fun told2 σ10 h10 => ?_; (run_tac hlT)
                refine item_dict (H.at 6 h10 rfl) (by (run_tac krT)) ?_; (run_tac hlT)
                refine add_lists (h10.at 7 rfl) (h10.at 8 rfl) (by rw [bL_len, bL_len]; unfold LIM; simp; (run_tac Mine.Lin.om)) ?_
                rw [bL_app]
                refine Halloc h10 fun ol2 σ11 h11 => ?_; (run_tac hlT)
                refine Halloc h11 fun t3 σ12 h12 => ?_; (run_tac hlT)
                refine seq_tup (h12.at 0 rfl) ?_
                (run_tac hlT)
                refine Hput_dict 8 h12 rfl (by (run_tac kdT)) (by (run_tac krT)) (by (run_tac krT)) fun σ13 h13 => ?_; (run_tac hlT)
                refine item_dict (H.at 8 h13 rfl) (by (run_tac krT)) ?_; (run_tac hlT)
                refine item_dict (H.at 8 h13 rfl) (by (run_tac krT)) ?_; (run_tac hlT)
                refine len_list (H.at 1 h13 rfl) ?_; (run_tac hlT)
                refine item_dict (H.at 8 h13 rfl) (by (run_tac krT)) ?_; (run_tac hlT)
                rw [bL_len, hsz]
                (run_tac hcaseT `c3)
                · (run_tac hlT)
                  refine bytes_bL (h13.at 10 rfl) ?_
                  (run_tac hlT)
                  refine Halloc h13 fun t4 σ14 h14 => ?_; (run_tac hlT)
                  refine eq_tup (h14.at 3 rfl) (h14.at 0 rfl) rfl (by rfl) ?_
                  (run_tac hlT)
                  refine Halloc h14 fun t5 σ15 h15 => ?_; (run_tac hlT)
                  rw [hls] at h15
                  exact q2 t5 ol2 _ _ hfin (h15.pick [0, 5, 6, 7, 8, 9, 10, 3, 13])
                · exfalso; have := of_decide_eq_true c3; (run_tac Mine.Lin.om)
        · exfalso; have := of_decide_eq_true c2; (run_tac Mine.Lin.om)
      · have e1 : (if (1 : Int) = 1 then (1 : Int) else bsize) = 1 := if_pos rfl
        rw [e1]
        refine Halloc h5 fun told σ6 h6 => ?_; (run_tac hlT)
        refine item_dict (H.at 11 h6 rfl) (by (run_tac krT)) ?_; (run_tac hlT)
        (run_tac hcaseT `c2)
        · (run_tac hlT)
          refine Halloc h6 fun t2 σ7 h7 => ?_; (run_tac hlT)
          refine ne_tup (h7.at 1 rfl) (h7.at 0 rfl) rfl (by rfl) ?_
          (run_tac hlT)
          have h7 := h7.pick [2, 3, 4, 5, 6, 7, 8, 9, 10, 11, 12, 13, 14, 15]
          rw [H.at 3 h7 rfl]; (run_tac hlT)
          have hlen := hc (by decide)
          refine mul_list (h7.at 12 rfl) hb0 (by (run_tac Mine.Lin.om)) (by rw [bL_len]; (run_tac Mine.Lin.om)) ?_
          rw [flat_bL]
          have hmore : moreP 1 bsize content = (List.replicate bsize.toNat content).flatten := if_neg (by decide)
          have hml : (moreP 1 bsize content).length = bsize.toNat := by rw [hmore, flat_len, hlen, Nat.mul_one]
          rw [← hmore]
          refine Halloc h7 fun mr σ8 h8 => ?_; (run_tac hlT)
          have h7 := h8.pick [1, 2, 3, 4, 5, 6, 7, 8, 9, 10, 11, 12, 13, 14, 0]
          refine ⟨_, _, h7.at 13 rfl, by (run_tac krT), fun σ8 f fd kp hf hF e p1 p2 p3 p4 p5 p6 p7 p8 => ?_⟩
          have h8 := h7.got kp hf e
          (run_tac hlT)
          refine wordI (d := d + 6) (fun vs σ' => (∃ n, sz = some n ∧ (out.size + (moreP 1 bsize content).length : Int) > n ∧ vs = [vS (S "size"), vS (S "content"), vI n, vI (out.size + (moreP 1 bsize content).length : Nat)] ∧ H [(md, dMine ol tl bk window most (optV sz)), (ol, .list (bL out.toList)), (cl, .list (bL content)), (mr, .list (bL (moreP 1 bsize content)))] fr σ') ∨
            ((∀ n, sz = some n → ¬ (out.size + (moreP 1 bsize content).length : Int) > n) ∧ vs = [vS (S "gave"), vB (moreP 1 bsize content).toArray] ∧ H [(st, .inst cFrameState dst), (dst, dState hd most bo hist.toArray tb ofs), (hd, .inst cFrameHeader dhd), (dhd, dHeader window (optV sz) ident), (bo, .barr (out ++ (moreP 1 bsize content).toArray)), (md, dMine ol tl bk window most (optV sz)), (ol, .list (bL out.toList)), (cl, .list (bL content)), (tLB, oLB), (mr, .list (bL (moreP 1 bsize content)))] fr σ')) (fun K' X' hg hx => ?_) fun vs σ9 hQ => ?_
          · refine lamI_ok (d := d + 5) hF (h8.at 0 rfl) p1 p2 p3 p4 p5 p6 p7 p8 (by kernel_rfl) (by kernel_rfl) fun L2 code hL2 => ?_
            (run_tac hlT)
            rw [H.at 5 h8 rfl]; (run_tac hlT)
            refine meth_inst (h8.at 6 rfl) (h8.at 7 rfl) (by (run_tac krT)) (by kernel_rfl) (f := fFrameState_block) (by kernel_rfl) (by kernel_rfl) ?_
            (run_tac hlT)
            rw [H.at 3 h8 rfl]; (run_tac hlT)
            rw [H.at 4 h8 rfl]; (run_tac hlT)
            refine bytes_bL (h8.at 13 rfl) ?_
            (run_tac hlT)
            refine block_ok (d := d) ((h8.pick [6, 7, 8, 9, 10, 1, 2, 11, 12, 13, 14, 15]).frame 7) (.inr rfl) (fun z => hlen) hs hb0 (by (run_tac Mine.Lin.om)) (by rw [hml]; unfold LIM; (run_tac Mine.Lin.om)) (fun n hn hgt e dx r σ10 h10 => ?_) fun hle σ10 h10 => ?_
            · have h10 := h10.unframe.norm (by (run_tac krT))
              skip
              exact hx _ _ (.size dx r _ _ _ (h10.at 0 rfl) (h10.at 1 rfl) (.inl ⟨n, hn, hgt, rfl, h10.pick [2, 3, 4, 6]⟩))
            · have h10 := h10.unframe.norm (by (run_tac krT))
              skip
              exact hg _ _ (.inr ⟨hle, rfl, h10.pick [0, 1, 2, 3, 4, 7, 8, 9, 10, 11]⟩)
          · rcases hQ with ⟨n, rfl, hgt, rfl, h9⟩ | ⟨hle, rfl, h9⟩
            · dsimp only [optV] at h9
              refine Halloc h9 fun told2 σ10 h10 => ?_; (run_tac hlT)
              refine item_dict (H.at 1 h10 rfl) (by (run_tac krT)) ?_; (run_tac hlT)
              refine add_lists (h10.at 2 rfl) (h10.at 4 rfl) (by rw [bL_len, bL_len]; unfold LIM; simp; (run_tac Mine.Lin.om)) ?_
              rw [bL_app]
              refine Halloc h10 fun ol2 σ11 h11 => ?_; (run_tac hlT)
              refine Halloc h11 fun t3 σ12 h12 => ?_; (run_tac hlT)
              refine seq_tup (h12.at 0 rfl) ?_
              (run_tac hlT)
              refine Hput_dict 3 h12 rfl (by (run_tac kdT)) (by (run_tac krT)) (by (run_tac krT)) fun σ13 h13 => ?_; (run_tac hlT)
              refine item_dict (H.at 3 h13 rfl) (by (run_tac krT)) ?_; (run_tac hlT)
              refine item_dict (H.at 3 h13 rfl) (by (run_tac krT)) ?_; (run_tac hlT)
              refine len_list (H.at 1 h13 rfl) ?_; (run_tac hlT)
              refine item_dict (H.at 3 h13 rfl) (by (run_tac krT)) ?_; (run_tac hlT)
              rw [bL_len]
              have hsz : ((out.toList ++ moreP 1 bsize content).length : Nat) = out.size + (moreP 1 bsize content).length := by simp
              rw [hsz]
              (run_tac hcaseT `c3)
              · exfalso; have := of_decide_eq_false c3; (run_tac Mine.Lin.om)
              · (run_tac hlT)
                refine item_dict (H.at 3 h13 rfl) (by (run_tac krT)) ?_; (run_tac hlT)
                refine item_dict (H.at 3 h13 rfl) (by (run_tac krT)) ?_; (run_tac hlT)
                refine len_list (H.at 1 h13 rfl) ?_; (run_tac hlT)
                rw [bL_len, hsz]
                refine Halloc h13 fun t4 σ14 h14 => ?_; (run_tac hlT)
                refine eq_tup (h14.at 3 rfl) (h14.at 0 rfl) rfl (by rfl) ?_
                (run_tac hlT)
                refine Halloc h14 fun t5 σ15 h15 => ?_; (run_tac hlT)
                exact q1 _ _ (h15.pick [0])
            · have hfin : ((out ++ (moreP 1 bsize content).toArray).size : Int) ≤ out.size + most := by rw [Array.size_append, show (moreP 1 bsize content).toArray.size = (moreP 1 bsize content).length by simp]; (run_tac Mine.Lin.om)
              have hls : bL (out.toList ++ moreP 1 bsize content) = bL (out ++ (moreP 1 bsize content).toArray).toList := by simp
              have hsz : ((out.toList ++ moreP 1 bsize content).length : Nat) = out.size + (moreP 1 bsize content).length := by simp
              cases sz with
              | none =>
                dsimp only [optV] at h9 q2
                refine Halloc h9 fun told2 σ10 h10 => ?_; (run_tac hlT)
                refine item_dict (H.at 6 h10 rfl) (by (run_tac krT)) ?_; (run_tac hlT)
                refine add_lists (h10.at 7 rfl) (h10.at 10 rfl) (by rw [bL_len, bL_len]; unfold LIM; simp; (run_tac Mine.Lin.om)) ?_
                rw [bL_app]
                refine Halloc h10 fun ol2 σ11 h11 => ?_; (run_tac hlT)
                refine Halloc h11 fun t3 σ12 h12 => ?_; (run_tac hlT)
                refine seq_tup (h12.at 0 rfl) ?_
                (run_tac hlT)
                refine Hput_dict 8 h12 rfl (by (run_tac kdT)) (by (run_tac krT)) (by (run_tac krT)) fun σ13 h13 => ?_; (run_tac hlT)
                refine item_dict (H.at 8 h13 rfl) (by (run_tac krT)) ?_; (run_tac hlT)
                refine bytes_bL (h13.at 12 rfl) ?_
                (run_tac hlT)
                refine Halloc h13 fun t4 σ14 h14 => ?_; (run_tac hlT)
                refine eq_tup (h14.at 3 rfl) (h14.at 0 rfl) rfl (by rfl) ?_
                (run_tac hlT)
                refine Halloc h14 fun t5 σ15 h15 => ?_; (run_tac hlT)
                rw [hls] at h15
                exact q2 t5 ol2 _ _ hfin (h15.pick [0, 5, 6, 7, 8, 9, 10, 3, 13])
              | some n =>
                have hle := hle n rfl
                dsimp only [optV] at h9 q2
                refine Halloc h9 fun told2 σ10 h10 => ?_; (run_tac hlT)
                refine item_dict (H.at 6 h10 rfl) (by (run_tac krT)) ?_; (run_tac hlT)
                refine add_lists (h10.at 7 rfl) (h10.at 10 rfl) (by rw [bL_len, bL_len]; unfold LIM; simp; (run_tac Mine.Lin.om)) ?_
                rw [bL_app]
                refine Halloc h10 fun ol2 σ11 h11 => ?_; (run_tac hlT)
                refine Halloc h11 fun t3 σ12 h12 => ?_; (run_tac hlT)
                refine seq_tup (h12.at 0 rfl) ?_
                (run_tac hlT)
                refine Hput_dict 8 h12 rfl (by (run_tac kdT)) (by (run_tac krT)) (by (run_tac krT)) fun σ13 h13 => ?_; (run_tac hlT)
                refine item_dict (H.at 8 h13 rfl) (by (run_tac krT)) ?_; (run_tac hlT)
                refine item_dict (H.at 8 h13 rfl) (by (run_tac krT)) ?_; (run_tac hlT)
                refine len_list (H.at 1 h13 rfl) ?_; (run_tac hlT)
                refine item_dict (H.at 8 h13 rfl) (by (run_tac krT)) ?_; (run_tac hlT)
                rw [bL_len, hsz]
                (run_tac hcaseT `c3)
                · (run_tac hlT)
                  refine bytes_bL (h13.at 12 rfl) ?_
                  (run_tac hlT)
                  refine Halloc h13 fun t4 σ14 h14 => ?_; (run_tac hlT)
                  refine eq_tup (h14.at 3 rfl) (h14.at 0 rfl) rfl (by rfl) ?_
                  (run_tac hlT)
                  refine Halloc h14 fun t5 σ15 h15 => ?_; (run_tac hlT)
                  rw [hls] at h15
                  exact q2 t5 ol2 _ _ hfin (h15.pick [0, 5, 6, 7, 8, 9, 10, 3, 13])
                · exfalso; have := of_decide_eq_true c3; (run_tac Mine.Lin.om)
        · exfalso; have := of_decide_eq_true c2; (run_tac Mine.Lin.om)
      · exact absurd rfl k3
  run_tac endC
end
end Mine
end

section
open PySem PySem.W PyProof.Rows
set_option maxRecDepth 100000
namespace Mine

theorem H.mid {ex A rest fr : List (Addr × O)} {σ : Store} (h : H ex (A ++ (rest ++ fr)) σ) : H (ex ++ rest) (A ++ fr) σ := by
  run_tac beginC
  have e : (ex ++ (A ++ (rest ++ fr))).Perm (ex ++ rest ++ (A ++ fr)) := by
    rw [List.append_assoc]
    refine List.Perm.append_left ex ?_
    rw [← List.append_assoc, ← List.append_assoc]
    exact List.Perm.append_right fr List.perm_append_comm
  exact ⟨fun q hq => h.1 q (e.mem_iff.mpr hq), (e.map (·.1)).nodup_iff.mp h.2⟩
  run_tac endC
theorem H.drop {ex A fr : List (Addr × O)} {σ : Store} (h : H ex (A ++ fr) σ) : H ex fr σ := by
  run_tac beginC
  refine ⟨fun q hq => h.1 q ?_, ?_⟩
  · rcases List.mem_append.mp hq with hq | hq
    · exact List.mem_append_left _ hq
    · exact List.mem_append_right _ (List.mem_append_right _ hq)
  · exact h.2.sublist ((List.Sublist.append_left (List.sublist_append_right A fr) ex).map (·.1))
  run_tac endC

section
variable {P : Params} {σ : Store} {fr : List (Addr × O)} {K : KV} {X : KX} {d : Nat}

theorem deed_ok {st dst hd dhd bo tb ofs dof md ol tl bk b : Addr} {most window ident a1 b1 c1 w n : Int} {sz : Option Int} {hist : List UInt8} {out : Array UInt8}
    (h : H [(st, .inst cFrameState dst), (dst, dState hd most bo hist.toArray tb ofs), (hd, .inst cFrameHeader dhd), (dhd, dHeader window (optV sz) ident), (bo, .barr out), (ofs, .inst cOffsets dof), (dof, dOffs a1 b1 c1), (md, dMine ol tl bk window most (optV sz)), (ol, .list (bL out.toList)), (tl, .list [vI a1, vI b1, vI c1]), (bk, .list (bL hist)), (b, .list [vI w, vI n]), (tLB, oLB), (tLD, oLD)] fr σ)
    (hs : ∀ n, sz = some n → tlong n) (hwd : 0 ≤ window) (hm0 : 0 ≤ most) (hm1 : most < 90) (hz : out.size < 10000) (hh : hist.length < 1000) (ha : 1 ≤ a1) (hb : 1 ≤ b1) (hc : 1 ≤ c1) (hw : 0 ≤ w) (hn : 0 ≤ n) (hN : n < 2 ^ 29)
    (q1 : ∀ t σ', H [(t, .tup [.bool true, .bool true])] fr σ' → K (.ref t) σ')
    (q2 : ∀ t ol' tl' (out' : Array UInt8) a' b' c' w' n' σ', (out'.size : Int) ≤ out.size + most → 1 ≤ a' → 1 ≤ b' → 1 ≤ c' → 0 ≤ w' → 0 ≤ n' → n' ≤ n + 200 →
      H [(t, .tup [.bool true, .bool false]), (st, .inst cFrameState dst), (dst, dState hd most bo hist.toArray tb ofs), (hd, .inst cFrameHeader dhd), (dhd, dHeader window (optV sz) ident), (bo, .barr out'), (ofs, .inst cOffsets dof), (dof, dOffs a' b' c'), (md, dMine ol' tl' bk window most (optV sz)), (ol', .list (bL out'.toList)), (tl', .list [vI a', vI b', vI c']), (bk, .list (bL hist)), (b, .list [vI w', vI n']), (tLB, oLB), (tLD, oLD)] fr σ' → K (.ref t) σ') :
    callI (K0 P) GG OW (d + 10) (.ref f_law_deed_right) [.ref b, .ref st, .ref md] σ K X := by
  run_tac beginC
  show callStepI (K0 P) GG OW (callD (K0 P) GG (d + 9)) (callI (K0 P) GG OW (d + 9)) _ _ _ _ _
  (run_tac hlT)
  (run_tac hinT `L `hL)
  have h0 := h.cells4 hL (.cell (some (.ref b))) (.cell (some (.ref st))) (.cell none) (.cell none)
  (run_tac gsT `h0 `σ0)
  have h0 := h0.pick [4, 5, 6, 7, 8, 9, 10, 11, 12, 13, 14, 15, 16, 17, 3, 2, 1, 0]
  refine Halloc h0 fun lst σ1 h1 => ?_; (run_tac hlT)
  rw [H.at 15 h1 rfl]; (run_tac hlT)
  refine take_ok (d := d + 8) ((h1.pick [12, 0, 1, 2, 3, 4, 5, 6, 7, 8, 9, 10, 11, 13, 14, 15, 16, 17, 18]).frame 1) hw hn (by (run_tac Mine.Lin.om)) (by decide) (by decide) fun t w1 σ2 t0 t1 w10 h2 => ?_
  have h2 := h2.unframe.norm (by (run_tac krT))
  obtain ⟨way, hway, hwc⟩ := pickL (l := [2, 0, 1, 2, 3]) t0 t1 (p := fun x => x = 0 ∨ x = 1 ∨ x = 2 ∨ x = 3) (by decide)
  (run_tac hlT)
  refine item_list (h2.at 1 rfl) t0 hway ?_
  have h2 := h2.pick [2, 3, 4, 5, 6, 7, 8, 9, 10, 11, 12, 0, 13, 14, 15, 16, 17, 18]
  have hol : out.toList.length = out.size := by simp
  rcases hwc with rfl | rfl | rfl | rfl
  · (run_tac hlT)
    rw [H.at 14 h2 rfl]; (run_tac hlT)
    refine take_ok (d := d + 8) ((h2.pick [11, 0, 1, 2, 3, 4, 5, 6, 7, 8, 9, 10, 12, 13, 14, 15, 16, 17]).frame 1) w10 (by (run_tac Mine.Lin.om)) (by (run_tac Mine.Lin.om)) (by decide) (by decide) fun s w3 σ3 s0 s1 w30 h3 => ?_
    have h3 := h3.unframe.norm (by (run_tac krT))
    (run_tac hlT)
    refine item_dict (H.at 8 h3 rfl) (by (run_tac krT)) ?_; (run_tac hlT)
    refine item_dict (H.at 8 h3 rfl) (by (run_tac krT)) ?_; (run_tac hlT)
    refine Halloc h3 fun sl σ4 h4 => ?_; (run_tac hlT)
    rw [H.at 15 h4 rfl]; (run_tac hlT)
    refine take_ok (d := d + 8) ((h4.pick [1, 0, 2, 3, 4, 5, 6, 7, 8, 9, 10, 11, 12, 13, 14, 15, 16, 17, 18]).frame 1) w30 (by (run_tac Mine.Lin.om)) (by (run_tac Mine.Lin.om)) (by decide) (by decide) fun u w4 σ5 u0 u1 w40 h5 => ?_
    have h5 := h5.unframe.norm (by (run_tac krT))
    obtain ⟨size, hsize, hsz⟩ := pickL (l := [s, most, most + 1]) u0 u1 (p := fun x => 0 ≤ x ∧ x < 100) (by intro x hx; simp only [List.mem_cons, List.not_mem_nil, or_false] at hx; (run_tac Mine.Lin.om))
    (run_tac hlT)
    refine item_list (h5.at 1 rfl) u0 hsize ?_
    have h5 := h5.pick [2, 3, 4, 5, 6, 7, 8, 9, 10, 11, 12, 0, 13, 14, 15, 16, 17, 18]
    (run_tac hlT)
    refine ⟨by (run_tac Mine.Lin.om), by (run_tac Mine.Lin.om), ?_⟩
    refine Halloc h5 fun rng σ6 h6 => ?_; (run_tac hlT)
    refine iter_rng (h6.at 0 rfl) ?_
    (run_tac hlT)
    intro acc hacc L2 hL2
    have h7 := h6.new (o := .list []) hacc
    (run_tac gsT `h7 `σ7)
    have h7 := h7.pick [0, 13, 16, 2, 3, 4, 5, 6, 7, 8, 9, 10, 11, 12, 14, 15, 17, 18, 19]
    refine compR (fun j σ' => ∃ (us : List UInt8) (w5 n5 : Int), us.length = j ∧ j < 100 ∧ 0 ≤ w5 ∧ n5 = n + 1 + 1 + 1 + j ∧ H [(acc, .list (bL us)), (b, .list [vI w5, vI n5]), (L + 1, .cell (some (.ref b))), (st, .inst cFrameState dst), (dst, dState hd most bo hist.toArray tb ofs), (hd, .inst cFrameHeader dhd), (dhd, dHeader window (optV sz) ident), (bo, .barr out), (ofs, .inst cOffsets dof), (dof, dOffs a1 b1 c1), (md, dMine ol tl bk window most (optV sz)), (ol, .list (bL out.toList)), (tl, .list [vI a1, vI b1, vI c1]), (bk, .list (bL hist)), (tLB, oLB), (tLD, oLD), (L + 1 + 1, .cell (some (.ref st))), (L + 1 + 1 + 1, .cell none), (L + 1 + 1 + 1 + 1, .cell none)] fr σ') ?_ ?_ ?_
    · exact ⟨[], w4, n + 1 + 1 + 1, rfl, by (run_tac Mine.Lin.om), w40, by (run_tac Mine.Lin.om), h7⟩
    · rintro σ8 ⟨us, w5, n5, f1, f2, f3, f4, h8⟩
      (run_tac hlT)
      rw [H.at 16 h8 rfl]; (run_tac hlT)
      refine lblock_ok (d := d + 1) ((h8.pick [3, 4, 5, 6, 7, 10, 11, 0, 14, 1, 2, 8, 9, 12, 13, 15, 16, 17, 18]).frame 9) (by decide) (by intro _; (run_tac Mine.Lin.om)) (by intro z; exact absurd rfl z) hs hm0 (by (run_tac Mine.Lin.om)) hsz.1 (by (run_tac Mine.Lin.om)) (by (run_tac Mine.Lin.om)) (fun t' σ' h' => ?_) fun t' ol' out' σ' e1 h' => ?_
      · exact q1 _ _ (h'.unframe.pick [0])
      · exact q2 _ _ _ _ _ _ _ w5 n5 _ e1 ha hb hc f3 (by (run_tac Mine.Lin.om)) (by (run_tac Mine.Lin.om)) (h'.unframe.pick [0, 1, 2, 3, 4, 5, 11, 12, 6, 7, 13, 14, 9, 8, 15])
    · rintro j loc2 σa KK2 hj ⟨us, w5, n5, f1, f2, f3, f4, ha5⟩ hKK2
      have hj : j + 1 < 100 := by (run_tac Mine.Lin.om)
      (run_tac hlT)
      rw [H.at 2 ha5 rfl]; (run_tac hlT)
      refine take_ok (d := d + 8) ((ha5.pick [1, 0, 2, 3, 4, 5, 6, 7, 8, 9, 10, 11, 12, 13, 14, 15, 16, 17, 18]).frame 1) f3 (by (run_tac Mine.Lin.om)) (by (run_tac Mine.Lin.om)) (by decide) (by decide) fun v w6 σ10 v0 v1 w60 h10 => ?_
      have h10 := h10.unframe.norm (by (run_tac krT))
      (run_tac hlT)
      refine ⟨_, (h10.at 1 rfl), by rw [bL_len]; unfold LIM; (run_tac Mine.Lin.om), ?_⟩
      rw [bL_snoc (by (run_tac Mine.Lin.om)) (by (run_tac Mine.Lin.om))]
      have hb5 := (h10.upd 1 (.list (bL (us ++ [UInt8.ofNat (97 + v).toNat]))) rfl).norm (by (run_tac krT))
      exact hKK2 _ _ ⟨us ++ [UInt8.ofNat (97 + v).toNat], w6, n5 + 1, by rw [List.length_append, f1]; rfl, hj, w60, by (run_tac Mine.Lin.om), (hb5.pick [1, 0, 2, 3, 4, 5, 6, 7, 8, 9, 10, 11, 12, 13, 14, 15, 16, 17, 18])⟩
  · (run_tac hlT)
    rw [H.at 14 h2 rfl]; (run_tac hlT)
    refine take_ok (d := d + 8) ((h2.pick [11, 0, 1, 2, 3, 4, 5, 6, 7, 8, 9, 10, 12, 13, 14, 15, 16, 17]).frame 1) w10 (by (run_tac Mine.Lin.om)) (by (run_tac Mine.Lin.om)) (by decide) (by decide) fun s w3 σ3 s0 s1 w30 h3 => ?_
    have h3 := h3.unframe.norm (by (run_tac krT))
    (run_tac hlT)
    refine item_dict (H.at 8 h3 rfl) (by (run_tac krT)) ?_; (run_tac hlT)
    refine item_dict (H.at 8 h3 rfl) (by (run_tac krT)) ?_; (run_tac hlT)
    refine Halloc h3 fun sl σ4 h4 => ?_; (run_tac hlT)
    rw [H.at 15 h4 rfl]; (run_tac hlT)
    refine take_ok (d := d + 8) ((h4.pick [1, 0, 2, 3, 4, 5, 6, 7, 8, 9, 10, 11, 12, 13, 14, 15, 16, 17, 18]).frame 1) w30 (by (run_tac Mine.Lin.om)) (by (run_tac Mine.Lin.om)) (by decide) (by decide) fun u w4 σ5 u0 u1 w40 h5 => ?_
    have h5 := h5.unframe.norm (by (run_tac krT))
    obtain ⟨size, hsize, hsz⟩ := pickL (l := [s, most, most + 1]) u0 u1 (p := fun x => 0 ≤ x ∧ x < 100) (by intro x hx; simp only [List.mem_cons, List.not_mem_nil, or_false] at hx; (run_tac Mine.Lin.om))
    (run_tac hlT)
    refine item_list (h5.at 1 rfl) u0 hsize ?_
    have h5 := h5.pick [2, 3, 4, 5, 6, 7, 8, 9, 10, 11, 12, 0, 13, 14, 15, 16, 17, 18]
    (run_tac hlT)
    skip
    refine Halloc h5 fun rng σ6 h6 => ?_; (run_tac hlT)
    refine iter_rng (h6.at 0 rfl) ?_
    (run_tac hlT)
    intro acc hacc L2 hL2
    have h7 := h6.new (o := .list []) hacc
    (run_tac gsT `h7 `σ7)
    have h7 := h7.pick [0, 13, 16, 2, 3, 4, 5, 6, 7, 8, 9, 10, 11, 12, 14, 15, 17, 18, 19]
    refine compR (fun j σ' => ∃ (us : List UInt8) (w5 n5 : Int), us.length = j ∧ j < 100 ∧ 0 ≤ w5 ∧ n5 = n + 1 + 1 + 1 + j ∧ H [(acc, .list (bL us)), (b, .list [vI w5, vI n5]), (L + 1, .cell (some (.ref b))), (st, .inst cFrameState dst), (dst, dState hd most bo hist.toArray tb ofs), (hd, .inst cFrameHeader dhd), (dhd, dHeader window (optV sz) ident), (bo, .barr out), (ofs, .inst cOffsets dof), (dof, dOffs a1 b1 c1), (md, dMine ol tl bk window most (optV sz)), (ol, .list (bL out.toList)), (tl, .list [vI a1, vI b1, vI c1]), (bk, .list (bL hist)), (tLB, oLB), (tLD, oLD), (L + 1 + 1, .cell (some (.ref st))), (L + 1 + 1 + 1, .cell none), (L + 1 + 1 + 1 + 1, .cell none)] fr σ') ?_ ?_ ?_
    · exact ⟨[], w4, n + 1 + 1 + 1, rfl, by (run_tac Mine.Lin.om), w40, by (run_tac Mine.Lin.om), h7⟩
    · rintro σ8 ⟨us, w5, n5, f1, f2, f3, f4, h8⟩
      (run_tac hlT)
      rw [H.at 16 h8 rfl]; (run_tac hlT)
      refine lblock_ok (d := d + 1) ((h8.pick [3, 4, 5, 6, 7, 10, 11, 0, 14, 1, 2, 8, 9, 12, 13, 15, 16, 17, 18]).frame 9) (by decide) (by intro z; exact absurd z (by decide)) (by intro _; (run_tac Mine.Lin.om)) hs hm0 (by (run_tac Mine.Lin.om)) hsz.1 (by (run_tac Mine.Lin.om)) (by (run_tac Mine.Lin.om)) (fun t' σ' h' => ?_) fun t' ol' out' σ' e1 h' => ?_
      · exact q1 _ _ (h'.unframe.pick [0])
      · exact q2 _ _ _ _ _ _ _ w5 n5 _ e1 ha hb hc f3 (by (run_tac Mine.Lin.om)) (by (run_tac Mine.Lin.om)) (h'.unframe.pick [0, 1, 2, 3, 4, 5, 11, 12, 6, 7, 13, 14, 9, 8, 15])
    · rintro j loc2 σa KK2 hj ⟨us, w5, n5, f1, f2, f3, f4, ha5⟩ hKK2
      have hj : j + 1 < 100 := by (run_tac Mine.Lin.om)
      (run_tac hlT)
      rw [H.at 2 ha5 rfl]; (run_tac hlT)
      refine take_ok (d := d + 8) ((ha5.pick [1, 0, 2, 3, 4, 5, 6, 7, 8, 9, 10, 11, 12, 13, 14, 15, 16, 17, 18]).frame 1) f3 (by (run_tac Mine.Lin.om)) (by (run_tac Mine.Lin.om)) (by decide) (by decide) fun v w6 σ10 v0 v1 w60 h10 => ?_
      have h10 := h10.unframe.norm (by (run_tac krT))
      (run_tac hlT)
      refine ⟨_, (h10.at 1 rfl), by rw [bL_len]; unfold LIM; (run_tac Mine.Lin.om), ?_⟩
      rw [bL_snoc (by (run_tac Mine.Lin.om)) (by (run_tac Mine.Lin.om))]
      have hb5 := (h10.upd 1 (.list (bL (us ++ [UInt8.ofNat (97 + v).toNat]))) rfl).norm (by (run_tac krT))
      exact hKK2 _ _ ⟨us ++ [UInt8.ofNat (97 + v).toNat], w6, n5 + 1, by rw [List.length_append, f1]; rfl, hj, w60, by (run_tac Mine.Lin.om), (hb5.pick [1, 0, 2, 3, 4, 5, 6, 7, 8, 9, 10, 11, 12, 13, 14, 15, 16, 17, 18])⟩
  · (run_tac hlT)
    rw [H.at 14 h2 rfl]; (run_tac hlT)
    refine callI_P (by kernel_rfl) (by kernel_rfl) ?_
    refine rows_ok (d := d + 7) ((h2.pick [11, 7, 8, 10, 0, 1, 2, 3, 4, 5, 6, 9, 12, 13, 14, 15, 16, 17]).frame 4) w10 (by (run_tac Mine.Lin.om)) (by (run_tac Mine.Lin.om)) hwd (by (run_tac Mine.Lin.om)) (by (run_tac Mine.Lin.om)) fun rt rl ll rs lit w' n' σ3 w'0 n'0 n'1 hrs hlit hro hr3 h3 => ?_
    have h3 := h3.mid.norm (by (run_tac krT))
    (run_tac hlT)
    refine seq_tup (h3.at 0 rfl) ?_
    (run_tac hlT)
    refine ⟨_, (h3.at 20 rfl), ?_⟩
    (run_tac hsetT `h3 20 `σ4 `h4)
    refine ⟨_, (h4.at 19 rfl), ?_⟩
    (run_tac hsetT `h4 19 `σ5 `h5)
    rw [H.at 20 h5 rfl]; (run_tac hlT)
    rw [H.at 19 h5 rfl]; (run_tac hlT)
    refine callI_P (by kernel_rfl) (by kernel_rfl) ?_
    have hrow : ∀ {l : List (Addr × O)}, ∀ r ∈ rs, rowO r ∈ l ++ (rs.map rowO ++ fr) := fun r hr => List.mem_append_right _ (List.mem_append_left _ (List.mem_map_of_mem hr))
    have hpl : playP hist lit window most out.toList.length (rs.map (·.2)) 0 out.toList (a1, b1, c1) = playP hist lit window most out.size (rs.map (·.2)) 0 out.toList (a1, b1, c1) := by rw [hol]
    refine played_ok (d := d + 5) ((h5.pick [4, 5, 14, 6, 1, 2, 0, 3, 7, 8, 9, 10, 11, 12, 13, 15, 16, 17, 18, 19, 20]).frame 6) hrow hro hwd hm0 ha hb hc (by (run_tac Mine.Lin.om)) hrs (fun hne tt o th du σ6 h6 => ?_) fun heq out2 a2 b2 c2 hep tt o th du σ6 h6 => ?_
    · have h6 := h6.unframe.norm (by (run_tac krT))
      rw [hpl] at hne h6
      (run_tac hlT)
      refine seq_tup (h6.at 0 rfl) ?_
      (run_tac hlT)
      refine ⟨_, _, (h6.at 18 rfl), by (run_tac krT), fun σf f fd kp hf hF e p1 p2 p3 p4 p5 p6 p7 p8 => ?_⟩
      have hf1 := h6.got kp hf e
      (run_tac hlT)
      refine wordI (d := d + 8) (fun vs σ' => ((playP hist lit window most out.size (rs.map (·.2)) 0 out.toList (a1, b1, c1)).1 = 1 ∧ vs = [vS (S "sequence")] ∧ H [(du, .tup (dueL (playP hist lit window most out.size (rs.map (·.2)) 0 out.toList (a1, b1, c1)).1))] (rs.map rowO ++ fr) σ') ∨ ((playP hist lit window most out.size (rs.map (·.2)) 0 out.toList (a1, b1, c1)).1 = 2 ∧ vs = [vS (S "distance")] ∧ H [(du, .tup (dueL (playP hist lit window most out.size (rs.map (·.2)) 0 out.toList (a1, b1, c1)).1))] (rs.map rowO ++ fr) σ')) (fun K' X' hg hx => ?_) fun vs σ9 hQ => ?_
      · refine lamI_ok (d := d + 7) hF (hf1.at 0 rfl) p1 p2 p3 p4 p5 p6 p7 p8 (by kernel_rfl) (by kernel_rfl) fun L2 code hL2 => ?_
        (run_tac hlT)
        rw [H.at 21 hf1 rfl]; (run_tac hlT)
        refine meth_inst (hf1.at 11 rfl) (hf1.at 12 rfl) (by (run_tac krT)) (by kernel_rfl) (f := fFrameState_play) (by kernel_rfl) (by kernel_rfl) ?_
        (run_tac hlT)
        rw [H.at 23 hf1 rfl]; (run_tac hlT)
        rw [H.at 22 hf1 rfl]; (run_tac hlT)
        refine bytes_bL (hf1.at 8 rfl) ?_
        (run_tac hlT)
        refine play_ok (d := d) ((hf1.pick [11, 12, 13, 14, 15, 16, 17, 7, 0, 1, 2, 3, 4, 5, 6, 8, 9, 10, 18, 19, 20, 21, 22, 23]).frame 8) hrow hro hwd hm0 ha hb hc (by (run_tac Mine.Lin.om)) (fun z e dx σg hg1 => ?_) (fun z e dx σg hg1 => ?_) fun z out3 a3 b3 c3 σg hep3 ha3 hb3 hc3 hz3 hg1 => ?_
        · have hg1 := hg1.unframe.norm (by (run_tac krT))
          exact hx _ _ (.sequence dx (hg1.at 0 rfl) (.inl ⟨z, rfl, hg1.pick [3]⟩))
        · have hg1 := hg1.unframe.norm (by (run_tac krT))
          exact hx _ _ (.distance dx (hg1.at 0 rfl) (.inr ⟨z, rfl, hg1.pick [3]⟩))
        · exact absurd z hne
      · rcases hQ with ⟨hr, rfl, h9⟩ | ⟨hr, rfl, h9⟩
        · rw [hr] at h9
          refine Halloc h9 fun told σ7 h7 => ?_; (run_tac hlT)
          refine Halloc h7 fun emp σ8 h8 => ?_; (run_tac hlT)
          refine ne_tup_len (h8.at 2 rfl) (h8.at 0 rfl) (by decide) (.inr rfl) ?_
          (run_tac hlT)
          refine eq_tup (h8.at 1 rfl) (h8.at 2 rfl) rfl (by rfl) ?_
          (run_tac hlT)
          refine Halloc h8 fun res σ9 h9 => ?_; (run_tac hlT)
          exact q1 _ _ (h9.pick [0]).drop
        · rw [hr] at h9
          refine Halloc h9 fun told σ7 h7 => ?_; (run_tac hlT)
          refine Halloc h7 fun emp σ8 h8 => ?_; (run_tac hlT)
          refine ne_tup_len (h8.at 2 rfl) (h8.at 0 rfl) (by decide) (.inr rfl) ?_
          (run_tac hlT)
          refine eq_tup (h8.at 1 rfl) (h8.at 2 rfl) rfl (by rfl) ?_
          (run_tac hlT)
          refine Halloc h8 fun res σ9 h9 => ?_; (run_tac hlT)
          exact q1 _ _ (h9.pick [0]).drop
    · have h6 := h6.unframe.norm (by (run_tac krT))
      rw [hpl] at heq hep
      (run_tac hlT)
      refine seq_tup (h6.at 0 rfl) ?_
      (run_tac hlT)
      refine ⟨_, _, (h6.at 20 rfl), by (run_tac krT), fun σf f fd kp hf hF e p1 p2 p3 p4 p5 p6 p7 p8 => ?_⟩
      have hf1 := h6.got kp hf e
      (run_tac hlT)
      refine wordI (d := d + 8) (fun vs σ' => ∃ out3 : Array UInt8, out3.toList = out2 ∧ (out3.size : Int) ≤ out.size + most ∧ (1 ≤ a2 ∧ 1 ≤ b2 ∧ 1 ≤ c2) ∧ vs = [vS (S "gave"), .none] ∧ H [(st, .inst cFrameState dst), (dst, dState hd most bo hist.toArray tb ofs), (hd, .inst cFrameHeader dhd), (dhd, dHeader window (optV sz) ident), (bo, .barr out3), (ofs, .inst cOffsets dof), (dof, dOffs a2 b2 c2), (du, .tup []), (o, .list (bL out2)), (th, .list [vI a2, vI b2, vI c2]), (md, dMine ol tl bk window most (optV sz)), (bk, .list (bL hist)), (b, .list [vI w', vI n']), (tLB, oLB), (tLD, oLD)] (rs.map rowO ++ fr) σ') (fun K' X' hg hx => ?_) fun vs σ9 hQ => ?_
      · refine lamI_ok (d := d + 7) hF (hf1.at 0 rfl) p1 p2 p3 p4 p5 p6 p7 p8 (by kernel_rfl) (by kernel_rfl) fun L2 code hL2 => ?_
        (run_tac hlT)
        rw [H.at 23 hf1 rfl]; (run_tac hlT)
        refine meth_inst (hf1.at 13 rfl) (hf1.at 14 rfl) (by (run_tac krT)) (by kernel_rfl) (f := fFrameState_play) (by kernel_rfl) (by kernel_rfl) ?_
        (run_tac hlT)
        rw [H.at 25 hf1 rfl]; (run_tac hlT)
        rw [H.at 24 hf1 rfl]; (run_tac hlT)
        refine bytes_bL (hf1.at 10 rfl) ?_
        (run_tac hlT)
        refine play_ok (d := d) ((hf1.pick [13, 14, 15, 16, 17, 18, 19, 9, 0, 1, 2, 3, 4, 5, 6, 7, 8, 10, 11, 12, 20, 21, 22, 23, 24, 25]).frame 8) hrow hro hwd hm0 ha hb hc (by (run_tac Mine.Lin.om)) (fun z e dx σg hg1 => ?_) (fun z e dx σg hg1 => ?_) fun z out3 a3 b3 c3 σg hep3 ha3 hb3 hc3 hz3 hg1 => ?_
        · rw [heq] at z; exact absurd z (by decide)
        · rw [heq] at z; exact absurd z (by decide)
        · rw [hep] at hep3
          obtain ⟨rfl, rfl, rfl, rfl⟩ : out2 = out3.toList ∧ a2 = a3 ∧ b2 = b3 ∧ c2 = c3 := by
            injection hep3 with x1 x2; injection x2 with x2 x3; injection x3 with x3 x4; exact ⟨x1, x2, x3, x4⟩
          have hg1 := hg1.unframe.norm (by (run_tac krT))
          exact hg _ _ ⟨out3, rfl, hz3, ⟨ha3, hb3, hc3⟩, rfl, hg1.pick [0, 1, 2, 3, 4, 5, 6, 9, 10, 11, 12, 15, 18, 19, 20]⟩
      · obtain ⟨out3, rfl, hz3, ⟨ha3, hb3, hc3⟩, rfl, h9⟩ := hQ
        refine Halloc h9 fun told σ7 h7 => ?_; (run_tac hlT)
        refine Halloc h7 fun emp σ8 h8 => ?_; (run_tac hlT)
        refine ne_tup (h8.at 9 rfl) (h8.at 0 rfl) rfl (by rfl) ?_
        (run_tac hlT)
        refine Halloc h8 fun pr σ9 h9 => ?_; (run_tac hlT)
        refine seq_tup (h9.at 0 rfl) ?_
        (run_tac hlT)
        refine Hput_dict 13 h9 rfl (by (run_tac kdT)) (by (run_tac krT)) (by (run_tac krT)) fun σ10 h10 => ?_; (run_tac hlT)
        refine Hput_dict 13 h10 rfl (by (run_tac kdT)) (by (run_tac krT)) (by (run_tac krT)) fun σ11 h11 => ?_; (run_tac hlT)
        refine Halloc h11 fun gv σ12 h12 => ?_; (run_tac hlT)
        refine eq_tup (h12.at 3 rfl) (h12.at 0 rfl) rfl (by rfl) ?_
        (run_tac hlT)
        refine Halloc h12 fun res σ13 h13 => ?_; (run_tac hlT)
        exact q2 _ _ _ out3 _ _ _ w' n' _ hz3 ha3 hb3 hc3 w'0 n'0 (by (run_tac Mine.Lin.om)) (h13.pick [0, 5, 6, 7, 8, 9, 10, 11, 15, 13, 14, 16, 17, 18, 19]).drop
  · (run_tac hlT)
    rw [H.at 14 h2 rfl]; (run_tac hlT)
    refine take_ok (d := d + 8) ((h2.pick [11, 0, 1, 2, 3, 4, 5, 6, 7, 8, 9, 10, 12, 13, 14, 15, 16, 17]).frame 1) w10 (by (run_tac Mine.Lin.om)) (by (run_tac Mine.Lin.om)) (by decide) (by decide) fun y w2 σ3 y0 y1 w20 h3 => ?_
    have h3 := h3.unframe.norm (by (run_tac krT))
    (run_tac hlT)
    have h3 := h3.pick [1, 2, 3, 4, 5, 6, 7, 8, 9, 10, 11, 0, 12, 13, 14, 15, 16, 17]
    (run_tac hcaseT `cy)
    · (run_tac hlT)
      rw [H.at 14 h3 rfl]; (run_tac hlT)
      refine take_ok (d := d + 8) ((h3.pick [11, 0, 1, 2, 3, 4, 5, 6, 7, 8, 9, 10, 12, 13, 14, 15, 16, 17]).frame 1) w20 (by (run_tac Mine.Lin.om)) (by (run_tac Mine.Lin.om)) (by decide) (by decide) fun size w4 σ4 size0 size1 w40 h4 => ?_
      have h4 := h4.unframe.norm (by (run_tac krT))
      have hsz : 0 ≤ size ∧ size < 100 := ⟨size0, by (run_tac Mine.Lin.om)⟩
      have h4 := h4.pick [1, 2, 3, 4, 5, 6, 7, 8, 9, 10, 11, 0, 12, 13, 14, 15, 16, 17]
      (run_tac hlT)
      skip
      refine Halloc h4 fun rng σ5 h5 => ?_; (run_tac hlT)
      refine iter_rng (h5.at 0 rfl) ?_
      (run_tac hlT)
      intro acc hacc L2 hL2
      have h6 := h5.new (o := .list []) hacc
      (run_tac gsT `h6 `σ6)
      have h6 := h6.pick [0, 13, 16, 2, 3, 4, 5, 6, 7, 8, 9, 10, 11, 12, 14, 15, 17, 18, 19]
      refine compR (fun j σ' => ∃ (us : List UInt8) (w5 n5 : Int), us.length = j ∧ j < 100 ∧ 0 ≤ w5 ∧ n5 = n + 1 + 1 + 1 + j ∧ H [(acc, .list (bL us)), (b, .list [vI w5, vI n5]), (L + 1, .cell (some (.ref b))), (st, .inst cFrameState dst), (dst, dState hd most bo hist.toArray tb ofs), (hd, .inst cFrameHeader dhd), (dhd, dHeader window (optV sz) ident), (bo, .barr out), (ofs, .inst cOffsets dof), (dof, dOffs a1 b1 c1), (md, dMine ol tl bk window most (optV sz)), (ol, .list (bL out.toList)), (tl, .list [vI a1, vI b1, vI c1]), (bk, .list (bL hist)), (tLB, oLB), (tLD, oLD), (L + 1 + 1, .cell (some (.ref st))), (L + 1 + 1 + 1, .cell none), (L + 1 + 1 + 1 + 1, .cell none)] fr σ') ?_ ?_ ?_
      · exact ⟨[], w4, n + 1 + 1 + 1, rfl, by (run_tac Mine.Lin.om), w40, by (run_tac Mine.Lin.om), h6⟩
      · rintro σ7 ⟨us, w5, n5, f1, f2, f3, f4, h7⟩
        (run_tac hlT)
        rw [H.at 16 h7 rfl]; (run_tac hlT)
        refine lblock_ok (d := d + 1) ((h7.pick [3, 4, 5, 6, 7, 10, 11, 0, 14, 1, 2, 8, 9, 12, 13, 15, 16, 17, 18]).frame 9) (by decide) (by intro z; exact absurd z (by decide)) (by intro _; (run_tac Mine.Lin.om)) hs hm0 (by (run_tac Mine.Lin.om)) hsz.1 (by (run_tac Mine.Lin.om)) (by (run_tac Mine.Lin.om)) (fun t' σ' h' => ?_) fun t' ol' out' σ' e1 h' => ?_
        · exact q1 _ _ (h'.unframe.pick [0])
        · exact q2 _ _ _ _ _ _ _ w5 n5 _ e1 ha hb hc f3 (by (run_tac Mine.Lin.om)) (by (run_tac Mine.Lin.om)) (h'.unframe.pick [0, 1, 2, 3, 4, 5, 11, 12, 6, 7, 13, 14, 9, 8, 15])
      · rintro j loc2 σa KK2 hj ⟨us, w5, n5, f1, f2, f3, f4, ha5⟩ hKK2
        have hj : j + 1 < 100 := by (run_tac Mine.Lin.om)
        (run_tac hlT)
        rw [H.at 2 ha5 rfl]; (run_tac hlT)
        refine take_ok (d := d + 8) ((ha5.pick [1, 0, 2, 3, 4, 5, 6, 7, 8, 9, 10, 11, 12, 13, 14, 15, 16, 17, 18]).frame 1) f3 (by (run_tac Mine.Lin.om)) (by (run_tac Mine.Lin.om)) (by decide) (by decide) fun v w6 σ9 v0 v1 w60 h9 => ?_
        have h9 := h9.unframe.norm (by (run_tac krT))
        (run_tac hlT)
        refine ⟨_, (h9.at 1 rfl), by rw [bL_len]; unfold LIM; (run_tac Mine.Lin.om), ?_⟩
        rw [bL_snoc (by (run_tac Mine.Lin.om)) (by (run_tac Mine.Lin.om))]
        have hb5 := (h9.upd 1 (.list (bL (us ++ [UInt8.ofNat (97 + v).toNat]))) rfl).norm (by (run_tac krT))
        exact hKK2 _ _ ⟨us ++ [UInt8.ofNat (97 + v).toNat], w6, n5 + 1, by rw [List.length_append, f1]; rfl, hj, w60, by (run_tac Mine.Lin.om), (hb5.pick [1, 0, 2, 3, 4, 5, 6, 7, 8, 9, 10, 11, 12, 13, 14, 15, 16, 17, 18])⟩
    · (run_tac hlT)
      rw [H.at 14 h3 rfl]; (run_tac hlT)
      refine take_ok (d := d + 8) ((h3.pick [11, 0, 1, 2, 3, 4, 5, 6, 7, 8, 9, 10, 12, 13, 14, 15, 16, 17]).frame 1) w20 (by (run_tac Mine.Lin.om)) (by (run_tac Mine.Lin.om)) (by decide) (by decide) fun s w3 σ4 s0 s1 w30 h4 => ?_
      have h4 := h4.unframe.norm (by (run_tac krT))
      (run_tac hlT)
      refine item_dict (H.at 8 h4 rfl) (by (run_tac krT)) ?_; (run_tac hlT)
      refine item_dict (H.at 8 h4 rfl) (by (run_tac krT)) ?_; (run_tac hlT)
      refine Halloc h4 fun sl σ5 h5 => ?_; (run_tac hlT)
      rw [H.at 15 h5 rfl]; (run_tac hlT)
      refine take_ok (d := d + 8) ((h5.pick [1, 0, 2, 3, 4, 5, 6, 7, 8, 9, 10, 11, 12, 13, 14, 15, 16, 17, 18]).frame 1) w30 (by (run_tac Mine.Lin.om)) (by (run_tac Mine.Lin.om)) (by decide) (by decide) fun u w4 σ6 u0 u1 w40 h6 => ?_
      have h6 := h6.unframe.norm (by (run_tac krT))
      obtain ⟨size, hsize, hsz⟩ := pickL (l := [s, most, most + 1]) u0 u1 (p := fun x => 0 ≤ x ∧ x < 100) (by intro x hx; simp only [List.mem_cons, List.not_mem_nil, or_false] at hx; (run_tac Mine.Lin.om))
      (run_tac hlT)
      refine item_list (h6.at 1 rfl) u0 hsize ?_
      have h6 := h6.pick [2, 3, 4, 5, 6, 7, 8, 9, 10, 11, 12, 0, 13, 14, 15, 16, 17, 18]
      (run_tac hlT)
      refine ⟨by (run_tac Mine.Lin.om), by (run_tac Mine.Lin.om), ?_⟩
      refine Halloc h6 fun rng σ7 h7 => ?_; (run_tac hlT)
      refine iter_rng (h7.at 0 rfl) ?_
      (run_tac hlT)
      intro acc hacc L2 hL2
      have h8 := h7.new (o := .list []) hacc
      (run_tac gsT `h8 `σ8)
      have h8 := h8.pick [0, 13, 16, 2, 3, 4, 5, 6, 7, 8, 9, 10, 11, 12, 14, 15, 17, 18, 19]
      refine compR (fun j σ' => ∃ (us : List UInt8) (w5 n5 : Int), us.length = j ∧ j < 100 ∧ 0 ≤ w5 ∧ n5 = n + 1 + 1 + 1 + 1 + j ∧ H [(acc, .list (bL us)), (b, .list [vI w5, vI n5]), (L + 1, .cell (some (.ref b))), (st, .inst cFrameState dst), (dst, dState hd most bo hist.toArray tb ofs), (hd, .inst cFrameHeader dhd), (dhd, dHeader window (optV sz) ident), (bo, .barr out), (ofs, .inst cOffsets dof), (dof, dOffs a1 b1 c1), (md, dMine ol tl bk window most (optV sz)), (ol, .list (bL out.toList)), (tl, .list [vI a1, vI b1, vI c1]), (bk, .list (bL hist)), (tLB, oLB), (tLD, oLD), (L + 1 + 1, .cell (some (.ref st))), (L + 1 + 1 + 1, .cell none), (L + 1 + 1 + 1 + 1, .cell none)] fr σ') ?_ ?_ ?_
      · exact ⟨[], w4, n + 1 + 1 + 1 + 1, rfl, by (run_tac Mine.Lin.om), w40, by (run_tac Mine.Lin.om), h8⟩
      · rintro σ9 ⟨us, w5, n5, f1, f2, f3, f4, h9⟩
        (run_tac hlT)
        rw [H.at 16 h9 rfl]; (run_tac hlT)
        refine lblock_ok (d := d + 1) ((h9.pick [3, 4, 5, 6, 7, 10, 11, 0, 14, 1, 2, 8, 9, 12, 13, 15, 16, 17, 18]).frame 9) (by decide) (by intro _; (run_tac Mine.Lin.om)) (by intro z; exact absurd rfl z) hs hm0 (by (run_tac Mine.Lin.om)) hsz.1 (by (run_tac Mine.Lin.om)) (by (run_tac Mine.Lin.om)) (fun t' σ' h' => ?_) fun t' ol' out' σ' e1 h' => ?_
        · exact q1 _ _ (h'.unframe.pick [0])
        · exact q2 _ _ _ _ _ _ _ w5 n5 _ e1 ha hb hc f3 (by (run_tac Mine.Lin.om)) (by (run_tac Mine.Lin.om)) (h'.unframe.pick [0, 1, 2, 3, 4, 5, 11, 12, 6, 7, 13, 14, 9, 8, 15])
      · rintro j loc2 σa KK2 hj ⟨us, w5, n5, f1, f2, f3, f4, ha5⟩ hKK2
        have hj : j + 1 < 100 := by (run_tac Mine.Lin.om)
        (run_tac hlT)
        rw [H.at 2 ha5 rfl]; (run_tac hlT)
        refine take_ok (d := d + 8) ((ha5.pick [1, 0, 2, 3, 4, 5, 6, 7, 8, 9, 10, 11, 12, 13, 14, 15, 16, 17, 18]).frame 1) f3 (by (run_tac Mine.Lin.om)) (by (run_tac Mine.Lin.om)) (by decide) (by decide) fun v w6 σ11 v0 v1 w60 h11 => ?_
        have h11 := h11.unframe.norm (by (run_tac krT))
        (run_tac hlT)
        refine ⟨_, (h11.at 1 rfl), by rw [bL_len]; unfold LIM; (run_tac Mine.Lin.om), ?_⟩
        rw [bL_snoc (by (run_tac Mine.Lin.om)) (by (run_tac Mine.Lin.om))]
        have hb5 := (h11.upd 1 (.list (bL (us ++ [UInt8.ofNat (97 + v).toNat]))) rfl).norm (by (run_tac krT))
        exact hKK2 _ _ ⟨us ++ [UInt8.ofNat (97 + v).toNat], w6, n5 + 1, by rw [List.length_append, f1]; rfl, hj, w60, by (run_tac Mine.Lin.om), (hb5.pick [1, 0, 2, 3, 4, 5, 6, 7, 8, 9, 10, 11, 12, 13, 14, 15, 16, 17, 18])⟩
  run_tac endC
end
end Mine
end

section
open PySem PySem.W PyProof.Rows
set_option maxRecDepth 100000
namespace Mine

theorem H.perm {ex ex' fr fr' : List (Addr × O)} {σ : Store} (h : H ex fr σ) (e : (ex ++ fr).Perm (ex' ++ fr')) : H ex' fr' σ := ⟨fun q hq => h.1 q (e.mem_iff.mpr hq), (e.map (·.1)).nodup_iff.mp h.2⟩
theorem H.pull {p : Addr × O} {ex l1 l2 : List (Addr × O)} {σ : Store} (h : H ex (l1 ++ p :: l2) σ) : H (p :: ex) (l1 ++ l2) σ := h.perm (by
  have := (List.perm_middle (a := p) (l₁ := ex ++ l1) (l₂ := l2))
  simpa using this)
theorem H.push {p : Addr × O} {ex l1 l2 : List (Addr × O)} {σ : Store} (h : H (p :: ex) (l1 ++ l2) σ) : H ex (l1 ++ p :: l2) σ := h.perm (by
  have := (List.perm_middle (a := p) (l₁ := ex ++ l1) (l₂ := l2)).symm
  simpa using this)

section
variable {P : Params} {σ : Store} {fr : List (Addr × O)} {K : KV} {X : KX} {d : Nat}

theorem lamD_ok {f : Addr} {fd : FuncData} {args : Arguments} {scope : Scope} {body : PySem.Expr} {cl : List (PySem.Str × Addr)} {q : PySem.Str} (hn : (K0 P).lookup f = none) (hs : σ f = some (.fn fd)) (e1 : fd.params = args) (e2 : fd.body = .expr body) (e3 : fd.scope = scope) (e4 : fd.closure = cl) (e5 : fd.qualname = q)
    (e6 : fd.globals = mainGlobals) (e7 : fd.builtins = builtinsNs) (e8 : fd.defaults = .none) (c1 : (plainScope scope && noDefaults args) = true) (c2 : (scope.names.all fun x => x.2 != .cell) = true)
    (h : ∀ L code, Fresh σ L → (ev (K0 P) GG (callD (K0 P) GG d) 40).E { scope := scope, locals := L, globals := mainGlobals, cells := cl, qual := q ++ ".<locals>.", func := some f, code := code, frame := some L, builtins := builtinsNs } body Loc.nil σ K X) :
    callD (K0 P) GG (d + 1) (.ref f) [] σ K X := by
  run_tac beginC
  show callStep (K0 P) GG (callD (K0 P) GG d) (.ref f) [] σ K X
  unfold callStep
  dsimp only
  rw [hn]
  dsimp only
  rw [hs]
  dsimp only
  obtain ⟨c1, c3⟩ := Bool.and_eq_true_iff.mp c1
  refine ⟨by rw [e3, e1, e6, e7, e8, c1, c3]; rfl, rfl, ?_⟩
  rw [e2]
  dsimp only
  refine ⟨by rw [e3]; exact c2, fun L hL => ?_⟩
  unfold envH
  rw [e3, e4, e5]
  exact h L fd.code hL
  run_tac endC

theorem dictF_ok {ident a b c : Int} {content : List UInt8} {tl : Addr} (hi : 0 ≤ ident) (hi2 : ident < 2 ^ 32) (h : H [] fr σ) (hm : (tl, O.list [vI a, vI b, vI c]) ∈ fr)
    (q : ∀ x dx t σ', H [(x, .inst cDictionary dx), (dx, dDict ident content.toArray t), (t, .tup [vI a, vI b, vI c])] fr σ' → K (.ref x) σ') :
    callD (K0 P) GG (d + 3) (.ref cDictionary) [vI ident, vB content.toArray, .none, .none, .ref tl] σ K X := by
  run_tac beginC
  obtain ⟨l1, l2, rfl⟩ := List.append_of_mem hm
  refine dict_ok hi hi2 h.pull fun x dx t σ' h' => q x dx t σ' ?_
  exact ((h'.pick [3, 0, 1, 2]).norm (by (run_tac krT))).push
  run_tac endC

theorem pickV {l : List Value} {t : Int} (h0 : 0 ≤ t) (h1 : t < l.length) {p : Value → Prop} (hp : ∀ x ∈ l, p x) : ∃ x, l[t.toNat]? = some x ∧ p x := by
  run_tac beginC
  have : t.toNat < l.length := by (run_tac Mine.Lin.om)
  exact ⟨l[t.toNat], List.getElem?_eq_getElem this, hp _ (List.getElem_mem this)⟩
  run_tac endC
theorem handed_opt {sz : Option Int} : handedIn (optV sz) = true := by cases sz <;> rfl

set_option maxHeartbeats 8000000 in
theorem law_ok {sl : Addr} {ns : List Int} (hl63 : ns.length ≤ 63) (h : H [(sl, .rlist (ns.map vI)), (tL, oL), (tLB, oLB), (tLD, oLD)] fr σ) (q : ∀ σ', K (.bool true) σ') :
    callI (K0 P) GG OW (d + 11) (.ref flaw) [.ref sl] σ K X := by
  run_tac beginC
  show callStepI (K0 P) GG OW (callD (K0 P) GG (d + 10)) (callI (K0 P) GG OW (d + 10)) _ _ _ _ _
  (run_tac hlT)
  (run_tac hinT `L `hL)
  have h0 := h.cells5 hL (.cell none) (.cell none) (.cell none) (.cell none) (.cell none)
  (run_tac gsT `h0 `σ0)
  refine callI_P (by kernel_rfl) (by kernel_rfl) ?_
  refine box_ok (d := d + 8) ((h0.pick [5, 0, 1, 2, 3, 4, 6, 7, 8]).frame 1) fun b w1 σ1 w10 h1 => ?_
  have h1 := h1.unframe.norm (by (run_tac krT))
  (run_tac hlT)
  refine Halloc h1 fun tp σ2 h2 => ?_; (run_tac hlT)
  refine seq_tup (h2.at 0 rfl) ?_
  (run_tac hlT)
  refine take_ok (d := d + 9) ((h2.pick [1, 0, 2, 3, 4, 5, 6, 7, 8, 9, 10]).frame 1) w10 (by (run_tac Mine.Lin.om)) (by (run_tac Mine.Lin.om)) (by decide) (by decide) fun t w2 σ3 t0 t1 w20 h3 => ?_
  have h3 := h3.unframe.norm (by (run_tac krT))
  obtain ⟨window, hwin⟩ : ∃ x, x = 1 + t := ⟨_, rfl⟩
  (run_tac hlT)
  rw [← hwin]
  refine Halloc h3 fun l1 σ4 h4 => ?_; (run_tac hlT)
  refine take_ok (d := d + 9) ((h4.pick [1, 0, 2, 3, 4, 5, 6, 7, 8, 9, 10, 11]).frame 1) w20 (by (run_tac Mine.Lin.om)) (by (run_tac Mine.Lin.om)) (by decide) (by decide) fun u w3 σ5 u0 u1 w30 h5 => ?_
  have h5 := h5.unframe.norm (by (run_tac krT))
  obtain ⟨mb, hmb, hmb1⟩ := pickL (l := [60, 3, 9, 20]) u0 u1 (p := fun x => 3 ≤ x ∧ x ≤ 60) (by decide)
  (run_tac hlT)
  refine item_list (h5.at 1 rfl) u0 hmb ?_
  (run_tac hlT)
  refine Halloc h5 fun l2 σ6 h6 => ?_; (run_tac hlT)
  refine take_ok (d := d + 9) ((h6.pick [1, 0, 2, 3, 4, 5, 6, 7, 8, 9, 10, 11, 12]).frame 1) w30 (by (run_tac Mine.Lin.om)) (by (run_tac Mine.Lin.om)) (by decide) (by decide) fun v w4 σ7 v0 v1 w40 h7 => ?_
  have h7 := h7.unframe.norm (by (run_tac krT))
  obtain ⟨szv, hszv, sz, hsz0, hsz⟩ := pickV (l := [.none, vI 30, vI 5, vI 12]) v0 v1 (p := fun x => ∃ sz, x = optV sz ∧ ∀ n, sz = some n → tlong n) (by
    intro x hx
    simp only [List.mem_cons, List.not_mem_nil, or_false] at hx
    rcases hx with rfl | rfl | rfl | rfl
    · exact ⟨none, rfl, fun n e => by cases e⟩
    · exact ⟨some 30, rfl, fun n e => by cases e; unfold tlong; decide⟩
    · exact ⟨some 5, rfl, fun n e => by cases e; unfold tlong; decide⟩
    · exact ⟨some 12, rfl, fun n e => by cases e; unfold tlong; decide⟩)
  subst hsz0
  (run_tac hlT)
  refine item_list (h7.at 1 rfl) v0 hszv ?_
  (run_tac hlT)
  refine Halloc h7 fun tp2 σ8 h8 => ?_; (run_tac hlT)
  refine seq_tup (h8.at 0 rfl) ?_
  (run_tac hlT)
  refine ⟨_, (h8.at 8 rfl), ?_⟩
  (run_tac hsetT `h8 8 `σ9 `h9)
  have h9 := h9.pick [1, 5, 11, 12, 13, 6, 7, 8, 9, 10]
  refine callI_P (by kernel_rfl) (by kernel_rfl) ?_
  refine books_ok (d := d + 8) ((h9.pick [0, 1, 2, 3, 4, 5, 6, 7, 8, 9]).frame 1) w40 (by (run_tac Mine.Lin.om)) (by (run_tac Mine.Lin.om)) fun bl bs w5 n5 σ10 w50 n50 n51 hbs2 hbg h10 => ?_
  have h10 := h10.mid.norm (by (run_tac krT))
  (run_tac hlT)
  refine Halloc h10 fun l3 σ11 h11 => ?_; (run_tac hlT)
  refine take_ok (d := d + 9) ((h11.pick [2, 0, 1, 3, 4, 5, 6, 7, 8, 9, 10, 11]).frame 1) w50 (by (run_tac Mine.Lin.om)) (by (run_tac Mine.Lin.om)) (by decide) (by decide) fun x w6 σ12 x0 x1 w60 h12 => ?_
  have h12 := h12.unframe.norm (by (run_tac krT))
  obtain ⟨ident, hid, hid1⟩ := pickL (l := [7, 9, 0, 0]) x0 x1 (p := fun x => 0 ≤ x ∧ x < 10) (by decide)
  (run_tac hlT)
  refine item_list (h12.at 1 rfl) x0 hid ?_
  (run_tac hlT)
  refine Halloc h12 fun l4 σ13 h13 => ?_; (run_tac hlT)
  refine take_ok (d := d + 9) ((h13.pick [1, 0, 2, 3, 4, 5, 6, 7, 8, 9, 10, 11, 12]).frame 1) w60 (by (run_tac Mine.Lin.om)) (by (run_tac Mine.Lin.om)) (by decide) (by decide) fun y w7 σ14 y0 y1 w70 h14 => ?_
  have h14 := h14.unframe.norm (by (run_tac krT))
  obtain ⟨room, hroom, hroom1⟩ := pickL (l := [99, window, window - 1]) y0 y1 (p := fun x => 0 ≤ x ∧ x < 100) (by intro x hx; simp only [List.mem_cons, List.not_mem_nil, or_false] at hx; (run_tac Mine.Lin.om))
  (run_tac hlT)
  refine item_list (h14.at 1 rfl) y0 hroom ?_
  (run_tac hlT)
  refine Halloc h14 fun tp3 σ15 h15 => ?_; (run_tac hlT)
  refine seq_tup (h15.at 0 rfl) ?_
  (run_tac hlT)
  refine ⟨_, (h15.at 10 rfl), ?_⟩
  (run_tac hsetT `h15 10 `σ16 `h16)
  have h16 := h16.pick [4, 1, 5, 6, 7, 8, 9, 10, 11, 12, 13]
  refine callI_P (by kernel_rfl) (by kernel_rfl) ?_
  refine header_ok (d := d + 8) handed_opt ((h16.pick [0, 1, 2, 3, 4, 5, 6, 7, 8, 9, 10]).frame 0) fun hd dhd σ17 h17 => ?_
  have h17 := h17.unframe.norm (by (run_tac krT))
  (run_tac hlT)
  refine ⟨_, (h17.at 11 rfl), ?_⟩
  (run_tac hsetT `h17 11 `σ18 `h18)
  refine iter_list (h18.at 2 rfl) ?_
  (run_tac hlT)
  intro acc hacc L2 hL2
  have h19 := h18.new (o := .list []) hacc
  (run_tac gsT `h19 `σ19)
  have h19 := h19.pick [0, 1, 2, 3, 4, 5, 6, 7, 8, 9, 10, 11, 12, 13]
  refine compH_ind (fun items loc σ' => ∃ (pre post : List BookA) (ds : List DicA), bs = pre ++ post ∧ items = post.map (fun z => Value.ref z.1) ∧ ds.map (·.2.2.2) = pre.map (·.2.2.2) ∧ H [(acc, .list (ds.map fun z => .ref z.1)), (hd, .inst cFrameHeader dhd), (dhd, dHeader window (optV sz) ident), (bl, .list (bs.map fun z => .ref z.1)), (b, .list [vI w7, vI (n5 + 1 + 1)]), (sl, .rlist (ns.map vI)), (tL, oL), (tLB, oLB), (tLD, oLD), (L + 1 + 1 + 1 + 1 + 1, .cell none), (L + 1 + 1 + 1 + 1, .cell (some (vI room))), (L + 1 + 1 + 1, .cell (some (vI mb))), (L + 1 + 1, .cell (some (.ref hd))), (L + 1, .cell none)] (ds.flatMap dicO ++ (bs.flatMap bookO ++ fr)) σ') ?_ ?_ _ _ _ ?_
  · rintro loc σ20 ⟨pre, post, ds, rfl, e1, hdat, h20⟩
    have : post = [] := by cases post with | nil => rfl | cons => cases e1
    subst this
    rw [List.append_nil] at *
    refine ⟨(h20.at 3 rfl), ?_⟩
    (run_tac hlT)
    refine ⟨_, (h20.at 13 rfl), ?_⟩
    (run_tac hsetT `h20 13 `σ21 `h21)
    have hids : ds.map (·.2.2.2.1) = pre.map (·.2.2.2.1) := by
      have := congrArg (List.map Prod.fst) hdat
      rw [List.map_map, List.map_map] at this
      exact this
    have hdm : ∀ z ∈ ds, ∃ y ∈ pre, y.2.2.2 = z.2.2.2 := fun z hz => by
      have := List.mem_map_of_mem (f := fun z : DicA => z.2.2.2) hz
      rw [hdat] at this
      obtain ⟨y, hy, he⟩ := List.mem_map.mp this
      exact ⟨y, hy, he⟩
    have hdg : ∀ z ∈ ds, bookGood z := fun z hz => by
      obtain ⟨y, hy, he⟩ := hdm z hz
      have := hbg y hy
      unfold bookGood at this ⊢
      rw [← he]; exact this
    refine ⟨_, _, (h21.at 6 rfl), by (run_tac krT), fun σf f fd kp hf hF e p1 p2 p3 p4 p5 p6 p7 p8 => ?_⟩
    have hf1 := h21.got kp hf e
    (run_tac hlT)
    refine wordI (d := d + 9) (fun vs σ' => (window > room ∧ vs = [vS (S "large"), vS (S "window"), vI window, vI room] ∧ H [(bl, .list (pre.map fun z => .ref z.1)), (L + 1 + 1 + 1 + 1, .cell (some (vI room)))] (ds.flatMap dicO ++ (pre.flatMap bookO ++ fr)) σ') ∨ (¬ window > room ∧ pickI (pre.map (·.2.2.2.1)) ident = .needs ∧ vs = [vS (S "needs"), vI ident] ∧ H [(bl, .list (pre.map fun z => .ref z.1)), (L + 1 + 1 + 1 + 1, .cell (some (vI room)))] (ds.flatMap dicO ++ (pre.flatMap bookO ++ fr)) σ') ∨ (∃ ww, ¬ window > room ∧ pickI (pre.map (·.2.2.2.1)) ident = .wrong ww ∧ vs = [vS (S "wrong"), vI ident, vI ww] ∧ H [(bl, .list (pre.map fun z => .ref z.1)), (L + 1 + 1 + 1 + 1, .cell (some (vI room)))] (ds.flatMap dicO ++ (pre.flatMap bookO ++ fr)) σ') ∨ (∃ i z, ¬ window > room ∧ pickI (pre.map (·.2.2.2.1)) ident = .at i ∧ ds[i]? = some z ∧ ∃ st dst bo tb ofs dof, vs = [vS (S "gave"), .ref st] ∧ H [(st, .inst cFrameState dst), (dst, dState hd (min window mb) bo z.2.2.2.2.1.toArray tb ofs), (hd, .inst cFrameHeader dhd), (dhd, dHeader window (optV sz) ident), (bo, .barr #[]), (ofs, .inst cOffsets dof), (dof, dOffs z.2.2.2.2.2.1 z.2.2.2.2.2.2.1 z.2.2.2.2.2.2.2), (bl, .list (pre.map fun z => .ref z.1)), (b, .list [vI w7, vI (n5 + 1 + 1)]), (sl, .rlist (ns.map vI)), (tL, oL), (tLB, oLB), (tLD, oLD), (L + 1 + 1 + 1 + 1 + 1, .cell none), (L + 1 + 1 + 1 + 1, .cell (some (vI room))), (L + 1 + 1 + 1, .cell (some (vI mb)))] (ds.flatMap dicO ++ (pre.flatMap bookO ++ fr)) σ') ∨ (¬ window > room ∧ pickI (pre.map (·.2.2.2.1)) ident = .no ∧ ∃ st dst bo tb ofs dof, vs = [vS (S "gave"), .ref st] ∧ H [(st, .inst cFrameState dst), (dst, dState hd (min window mb) bo #[] tb ofs), (hd, .inst cFrameHeader dhd), (dhd, dHeader window (optV sz) ident), (bo, .barr #[]), (ofs, .inst cOffsets dof), (dof, dOffs 1 4 8), (bl, .list (pre.map fun z => .ref z.1)), (b, .list [vI w7, vI (n5 + 1 + 1)]), (sl, .rlist (ns.map vI)), (tL, oL), (tLB, oLB), (tLD, oLD), (L + 1 + 1 + 1 + 1 + 1, .cell none), (L + 1 + 1 + 1 + 1, .cell (some (vI room))), (L + 1 + 1 + 1, .cell (some (vI mb)))] (ds.flatMap dicO ++ (pre.flatMap bookO ++ fr)) σ')) (fun K' X' hg hx => ?_) fun vs σ9 hQ => ?_
    · refine lamI_ok (d := d + 8) hF (hf1.at 0 rfl) p1 p2 p3 p4 p5 p6 p7 p8 (by kernel_rfl) (by kernel_rfl) fun L2 code hL2 => ?_
      (run_tac hlT)
      rw [H.at 13 hf1 rfl]; (run_tac hlT)
      rw [H.at 14 hf1 rfl]; (run_tac hlT)
      rw [H.at 11 hf1 rfl]; (run_tac hlT)
      rw [H.at 12 hf1 rfl]; (run_tac hlT)
      refine state_ok (d := d + 1) ((hf1.pick [2, 3, 1, 0, 4, 5, 6, 7, 8, 9, 10, 11, 12, 13, 14]).frame 3) (fun z hz p hp => List.mem_append_right _ (List.mem_append_left _ (List.mem_flatMap.mpr ⟨z, hz, hp⟩))) (by unfold tlong; (run_tac Mine.Lin.om)) (fun z hz => ?_) (by unfold tlong; (run_tac Mine.Lin.om)) (by unfold tlong; (run_tac Mine.Lin.om)) (fun z e dx r σg hg1 => ?_) (fun z z2 e dx r σg hg1 => ?_) (fun z ww z2 e dx r σg hg1 => ?_) (fun z i zz z2 z3 st dst bo tb ofs dof σg hg1 => ?_) fun z z2 st dst bo tb ofs dof σg hg1 => ?_
      · have := hdg z hz
        exact ⟨by unfold tlong; have := this.1; (run_tac Mine.Lin.om), this.2.2.1, this.2.2.2.1, this.2.2.2.2⟩
      · have hg1 := hg1.unframe.norm (by (run_tac krT))
        exact hx _ _ (.large dx r _ _ _ (hg1.at 0 rfl) (hg1.at 1 rfl) (.inl ⟨z, rfl, hg1.pick [3, 10]⟩))
      · have hg1 := hg1.unframe.norm (by (run_tac krT))
        rw [hids] at z2
        exact hx _ _ (.needs dx r _ (hg1.at 0 rfl) (hg1.at 1 rfl) (.inr (.inl ⟨z, z2, rfl, hg1.pick [3, 10]⟩)))
      · have hg1 := hg1.unframe.norm (by (run_tac krT))
        rw [hids] at z2
        exact hx _ _ (.wrong dx r _ _ (hg1.at 0 rfl) (hg1.at 1 rfl) (.inr (.inr (.inl ⟨ww, z, z2, rfl, hg1.pick [3, 10]⟩))))
      · have hg1 := hg1.unframe.norm (by (run_tac krT))
        rw [hids] at z2
        exact hg _ _ (.inr (.inr (.inr (.inl ⟨i, zz, z, z2, z3, st, dst, bo, tb, ofs, dof, rfl, hg1.pick [0, 1, 2, 3, 4, 5, 6, 9, 10, 11, 12, 13, 14, 15, 16, 17]⟩))))
      · have hg1 := hg1.unframe.norm (by (run_tac krT))
        rw [hids] at z2
        exact hg _ _ (.inr (.inr (.inr (.inr ⟨z, z2, st, dst, bo, tb, ofs, dof, rfl, hg1.pick [0, 1, 2, 3, 4, 5, 6, 9, 10, 11, 12, 13, 14, 15, 16, 17]⟩))))
    · have hbk : ∀ {l : List (Addr × O)}, ∀ z ∈ pre, ∀ p ∈ bookO z, p ∈ l ++ (ds.flatMap dicO ++ (pre.flatMap bookO ++ fr)) := fun z hz p hp => List.mem_append_right _ (List.mem_append_right _ (List.mem_append_left _ (List.mem_flatMap.mpr ⟨z, hz, hp⟩)))
      rcases hQ with ⟨hc, rfl, h9⟩ | ⟨hc, hp, rfl, h9⟩ | ⟨ww, hc, hp, rfl, h9⟩ | ⟨i, z, hc, hp, hi, st, dst, bo, tb, ofs, dof, rfl, h9⟩ | ⟨hc, hp, st, dst, bo, tb, ofs, dof, rfl, h9⟩
      · refine Halloc h9 fun begun σ22 h22 => ?_; (run_tac hlT)
        refine callI_P (by kernel_rfl) (by kernel_rfl) ?_
        refine picked_ok (d := d + 8) ((h22.pick [1, 0, 2]).frame 1) hbk (by (run_tac Mine.Lin.om)) (fun j y hp2 hj t du σ23 h23 => ?_) (fun hp2 t du σ23 h23 => ?_) (fun hp2 t du σ23 h23 => ?_) (fun w2 hp2 t du σ23 h23 => ?_)
        · have h23 := h23.unframe.norm (by (run_tac krT))
          (run_tac hlT)
          refine seq_tup (h23.at 0 rfl) ?_
          (run_tac hlT)
          rw [H.at 4 h23 rfl]; (run_tac hlT)
          (run_tac hcaseT `cw)
          · exfalso; have := of_decide_eq_false cw; (run_tac Mine.Lin.om)
          · (run_tac hlT)
            rw [H.at 4 h23 rfl]; (run_tac hlT)
            refine Halloc h23 fun due σ24 h24 => ?_; (run_tac hlT)
            refine Halloc h24 fun emp σ25 h25 => ?_; (run_tac hlT)
            refine ne_tup_len (h25.at 1 rfl) (h25.at 0 rfl) (by simp) (.inr rfl) ?_
            (run_tac hlT)
            refine eq_tup (h25.at 5 rfl) (h25.at 1 rfl) rfl (by rfl) ?_
            (run_tac hlT)
            exact q _
        · have h23 := h23.unframe.norm (by (run_tac krT))
          (run_tac hlT)
          refine seq_tup (h23.at 0 rfl) ?_
          (run_tac hlT)
          rw [H.at 4 h23 rfl]; (run_tac hlT)
          (run_tac hcaseT `cw)
          · exfalso; have := of_decide_eq_false cw; (run_tac Mine.Lin.om)
          · (run_tac hlT)
            rw [H.at 4 h23 rfl]; (run_tac hlT)
            refine Halloc h23 fun due σ24 h24 => ?_; (run_tac hlT)
            refine Halloc h24 fun emp σ25 h25 => ?_; (run_tac hlT)
            refine ne_tup_len (h25.at 1 rfl) (h25.at 0 rfl) (by simp) (.inr rfl) ?_
            (run_tac hlT)
            refine eq_tup (h25.at 5 rfl) (h25.at 1 rfl) rfl (by rfl) ?_
            (run_tac hlT)
            exact q _
        · have h23 := h23.unframe.norm (by (run_tac krT))
          (run_tac hlT)
          refine seq_tup (h23.at 0 rfl) ?_
          (run_tac hlT)
          rw [H.at 4 h23 rfl]; (run_tac hlT)
          (run_tac hcaseT `cw)
          · exfalso; have := of_decide_eq_false cw; (run_tac Mine.Lin.om)
          · (run_tac hlT)
            rw [H.at 4 h23 rfl]; (run_tac hlT)
            refine Halloc h23 fun due σ24 h24 => ?_; (run_tac hlT)
            refine Halloc h24 fun emp σ25 h25 => ?_; (run_tac hlT)
            refine ne_tup_len (h25.at 1 rfl) (h25.at 0 rfl) (by simp) (.inr rfl) ?_
            (run_tac hlT)
            refine eq_tup (h25.at 5 rfl) (h25.at 1 rfl) rfl (by rfl) ?_
            (run_tac hlT)
            exact q _
        · have h23 := h23.unframe.norm (by (run_tac krT))
          (run_tac hlT)
          refine seq_tup (h23.at 0 rfl) ?_
          (run_tac hlT)
          rw [H.at 4 h23 rfl]; (run_tac hlT)
          (run_tac hcaseT `cw)
          · exfalso; have := of_decide_eq_false cw; (run_tac Mine.Lin.om)
          · (run_tac hlT)
            rw [H.at 4 h23 rfl]; (run_tac hlT)
            refine Halloc h23 fun due σ24 h24 => ?_; (run_tac hlT)
            refine Halloc h24 fun emp σ25 h25 => ?_; (run_tac hlT)
            refine ne_tup_len (h25.at 1 rfl) (h25.at 0 rfl) (by simp) (.inr rfl) ?_
            (run_tac hlT)
            refine eq_tup (h25.at 5 rfl) (h25.at 1 rfl) rfl (by rfl) ?_
            (run_tac hlT)
            exact q _
      · refine Halloc h9 fun begun σ22 h22 => ?_; (run_tac hlT)
        refine callI_P (by kernel_rfl) (by kernel_rfl) ?_
        refine picked_ok (d := d + 8) ((h22.pick [1, 0, 2]).frame 1) hbk (by (run_tac Mine.Lin.om)) (fun j y hp2 hj t du σ23 h23 => ?_) (fun hp2 t du σ23 h23 => ?_) (fun hp2 t du σ23 h23 => ?_) (fun w2 hp2 t du σ23 h23 => ?_)
        · rw [hp] at hp2; cases hp2
        · rw [hp] at hp2; cases hp2
        · have h23 := h23.unframe.norm (by (run_tac krT))
          (run_tac hlT)
          refine seq_tup (h23.at 0 rfl) ?_
          (run_tac hlT)
          rw [H.at 4 h23 rfl]; (run_tac hlT)
          (run_tac hcaseT `cw)
          · (run_tac hlT)
            refine Halloc h23 fun emp σ24 h24 => ?_; (run_tac hlT)
            refine ne_tup_len (h24.at 2 rfl) (h24.at 0 rfl) (by simp) (.inr rfl) ?_
            (run_tac hlT)
            refine eq_tup (h24.at 4 rfl) (h24.at 2 rfl) rfl (by rfl) ?_
            (run_tac hlT)
            exact q _
          · exfalso; have := of_decide_eq_true cw; (run_tac Mine.Lin.om)
        · rw [hp] at hp2; cases hp2
      · refine Halloc h9 fun begun σ22 h22 => ?_; (run_tac hlT)
        refine callI_P (by kernel_rfl) (by kernel_rfl) ?_
        refine picked_ok (d := d + 8) ((h22.pick [1, 0, 2]).frame 1) hbk (by (run_tac Mine.Lin.om)) (fun j y hp2 hj t du σ23 h23 => ?_) (fun hp2 t du σ23 h23 => ?_) (fun hp2 t du σ23 h23 => ?_) (fun w2 hp2 t du σ23 h23 => ?_)
        · rw [hp] at hp2; cases hp2
        · rw [hp] at hp2; cases hp2
        · rw [hp] at hp2; cases hp2
        · have h23 := h23.unframe.norm (by (run_tac krT))
          (run_tac hlT)
          refine seq_tup (h23.at 0 rfl) ?_
          (run_tac hlT)
          rw [H.at 4 h23 rfl]; (run_tac hlT)
          (run_tac hcaseT `cw)
          · obtain rfl : ww = w2 := by rw [hp] at hp2; injection hp2
            (run_tac hlT)
            refine Halloc h23 fun emp σ24 h24 => ?_; (run_tac hlT)
            refine ne_tup_len (h24.at 2 rfl) (h24.at 0 rfl) (by simp) (.inr rfl) ?_
            (run_tac hlT)
            refine eq_tup (h24.at 4 rfl) (h24.at 2 rfl) rfl (by rfl) ?_
            (run_tac hlT)
            exact q _
          · exfalso; have := of_decide_eq_true cw; (run_tac Mine.Lin.om)
      · refine Halloc h9 fun begun σ22 h22 => ?_; (run_tac hlT)
        refine callI_P (by kernel_rfl) (by kernel_rfl) ?_
        refine picked_ok (d := d + 8) ((h22.pick [8, 0, 1, 2, 3, 4, 5, 6, 7, 9, 10, 11, 12, 13, 14, 15, 16]).frame 1) hbk (by (run_tac Mine.Lin.om)) (fun j y hp2 hj t du σ23 h23 => ?_) (fun hp2 t du σ23 h23 => ?_) (fun hp2 t du σ23 h23 => ?_) (fun w2 hp2 t du σ23 h23 => ?_)
        · have h23 := h23.unframe.norm (by (run_tac krT))
          obtain rfl : i = j := by rw [hp] at hp2; injection hp2
          (run_tac hlT)
          refine seq_tup (h23.at 0 rfl) ?_
          (run_tac hlT)
          rw [H.at 17 h23 rfl]; (run_tac hlT)
          (run_tac hcaseT `cw)
          · (run_tac hlT)
            refine Halloc h23 fun emp σ24 h24 => ?_; (run_tac hlT)
            refine ne_tup (h24.at 2 rfl) (h24.at 0 rfl) rfl (by rfl) ?_
            (run_tac hlT)
            refine item_tup (h24.at 4 rfl) (by decide) rfl ?_
            (run_tac hlT)
            refine item_tup (h24.at 4 rfl) (by decide) rfl ?_
            (run_tac hlT)
            intro md hmd
            have h25 := h24.new (o := .dict []) hmd
            (run_tac gsT `h25 `σ25)
            (run_tac hlT)
            refine Halloc h25 fun ol σ26 h26 => ?_; (run_tac hlT)
            refine Halloc h26 fun tl σ27 h27 => ?_; (run_tac hlT)
            rw [H.at 22 h27 rfl]; (run_tac hlT)
            refine ⟨(h27.at 2 rfl), by (run_tac kdT), ?_⟩
            (run_tac hsetT `h27 2 `σ28 `h28)
            refine Halloc h28 fun tp σ29 h29 => ?_; (run_tac hlT)
            refine seq_tup (h29.at 0 rfl) ?_
            (run_tac hlT)
            refine ⟨_, (h29.at 21 rfl), ?_⟩
            (run_tac hsetT `h29 21 `σ30 `h30)
            refine Halloc h30 fun bk σ31 h31 => ?_; (run_tac hlT)
            refine Hput_dict 4 h31 rfl (by (run_tac kdT)) (by (run_tac krT)) (by (run_tac krT)) fun σ32 h32 => ?_; (run_tac hlT)
            have hy : y ∈ pre := List.mem_of_getElem? hj
            refine item_tup (h32.mem (hbk (l := []) y hy _ (.head _))) (by decide) rfl ?_
            (run_tac hlT)
            refine item_tup (h32.mem (hbk (l := []) y hy _ (.head _))) (by decide) rfl ?_
            (run_tac hlT)
            refine Halloc h32 fun tq σ33 h33 => ?_; (run_tac hlT)
            refine seq_tup (h33.at 0 rfl) ?_
            (run_tac hlT)
            refine Hput_dict 5 h33 rfl (by (run_tac kdT)) (by (run_tac krT)) (by (run_tac krT)) fun σ34 h34 => ?_; (run_tac hlT)
            refine Hput_dict 5 h34 rfl (by (run_tac kdT)) (by (run_tac krT)) (by (run_tac krT)) fun σ35 h35 => ?_; (run_tac hlT)
            obtain ⟨y1, y2, hpre⟩ := List.append_of_mem hy
            have hfe : ds.flatMap dicO ++ (pre.flatMap bookO ++ fr) = (ds.flatMap dicO ++ y1.flatMap bookO) ++ (bookO y ++ (y2.flatMap bookO ++ fr)) := by rw [hpre]; simp
            rw [hfe] at h35
            have h35 := h35.mid.norm (by (run_tac krT))
            have hgy := hbg y hy
            have hzy : z.2.2.2 = y.2.2.2 := by
              have hq := congrArg (fun l => l[i]?) hdat
              rw [List.getElem?_map, List.getElem?_map, hi, hj] at hq
              exact Option.some.inj hq
            rw [hzy] at h35
            obtain ⟨yt, yc, yh, yi, hist, ya, yb, ycc⟩ := y
            obtain ⟨_, hgl, hga, hgb, hgc⟩ := hgy
            try dsimp only at hgl hga hgb hgc
            try dsimp only at h35
            refine len_rlist (h35.at 19 rfl) ?_
            (run_tac hlT)
            rw [List.length_map]
            refine ⟨by (run_tac Mine.Lin.om), by (run_tac Mine.Lin.om), ?_⟩
            refine Halloc h35 fun rng σ36 h36 => ?_; (run_tac hlT)
            refine iter_rng (h36.at 0 rfl) ?_
            (run_tac hlT)
            refine forR (fun k loc σ' => (loc (S "box") = some (.ref b) ∧ loc (S "mine") = some (.ref md) ∧ loc (S "size") = some (optV sz)) ∧ ∃ (ol1 tl1 : Addr) (out : Array UInt8) (a1 b1 c1 wv nv : Int), out.size ≤ 90 * k ∧ 1 ≤ a1 ∧ 1 ≤ b1 ∧ 1 ≤ c1 ∧ 0 ≤ wv ∧ 0 ≤ nv ∧ nv ≤ 200 + 200 * k ∧ ∃ FR, H [(st, .inst cFrameState dst), (dst, dState hd (min window mb) bo (hist).toArray tb ofs), (hd, .inst cFrameHeader dhd), (dhd, dHeader window (optV sz) ident), (bo, .barr out), (ofs, .inst cOffsets dof), (dof, dOffs a1 b1 c1), (md, dMine ol1 tl1 yc window (min window mb) (optV sz)), (ol1, .list (bL out.toList)), (tl1, .list [vI a1, vI b1, vI c1]), (yc, .list (bL hist)), (b, .list [vI wv, vI nv]), (tLB, oLB), (tLD, oLD), (L + 1 + 1 + 1 + 1 + 1, .cell (some (.ref st))), (tL, oL)] FR σ') ?_ ?_ ?_
            · exact ⟨⟨by (run_tac krT), by (run_tac krT), by kernel_rfl⟩, ol, yh, #[], ya, yb, ycc, w7, n5 + 1 + 1, by decide, hga, hgb, hgc, w70, by (run_tac Mine.Lin.om), by (run_tac Mine.Lin.om), _, h36.pick [12, 13, 14, 15, 16, 17, 18, 6, 5, 29, 28, 19, 22, 23, 24, 21]⟩
            · rintro loc σa ⟨⟨m1, m2, m3⟩, ol1, tl1, out, a1, b1, c1, wv, nv, g1, g2, g3, g4, g5, g6, g7, FR, ha⟩
              have hol : out.toList.length = out.size := by simp
              have hlap : out.size ≤ 90 * 8 := by (run_tac Mine.Lin.om)
              (run_tac hlT)
              rw [m3]; (run_tac hlT)
              cases sz with
              | none =>
                dsimp only [optV] at ha m3
                (run_tac hlT)
                refine Halloc ha fun due σ37 h37 => ?_; (run_tac hlT)
                refine ⟨_, _, (h37.at 16 rfl), by (run_tac krT), fun σf2 f2 fd2 kp2 hf2 hF2 e2 p12 p22 p32 p42 p52 p62 p72 p82 => ?_⟩
                have hf3 := h37.got kp2 hf2 e2
                (run_tac hlT)
                refine wordD (d := d + 9) (fun vs σ' => vs = [vS (S "gave"), .none] ∧ H [(due, .tup [vS (S "gave"), .none])] FR σ') (fun K' X' hg hx => ?_) fun vs σ9 hQ => ?_
                · refine lamD_ok (d := d + 8) hF2 (hf3.at 0 rfl) p12 p22 p32 p42 p52 p62 p72 p82 (by kernel_rfl) (by kernel_rfl) fun L4 code4 hL4 => ?_
                  (run_tac hlT)
                  rw [H.at 16 hf3 rfl]; (run_tac hlT)
                  refine meth_inst (hf3.at 2 rfl) (hf3.at 3 rfl) (by (run_tac krT)) (by kernel_rfl) (f := fFrameState_close) (by kernel_rfl) (by kernel_rfl) ?_
                  (run_tac hlT)
                  refine close_ok (d := d + 3) (sz := none) ((hf3.pick [2, 3, 4, 5, 6, 0, 1, 7, 8, 9, 10, 11, 12, 13, 14, 15, 16, 17]).frame 5) hsz (by unfold tlong; (run_tac Mine.Lin.om)) (fun m hm1 hm2 e dx r σg hg1 => ?_) fun hall => ?_
                  · cases hm1
                  · exact hg _ _ ⟨rfl, hf3.pick [1]⟩
                · obtain ⟨rfl, h9⟩ := hQ
                  refine Halloc h9 fun told σ38 h38 => ?_; (run_tac hlT)
                  refine eq_tup (h38.at 0 rfl) (h38.at 1 rfl) rfl (by rfl) ?_
                  (run_tac hlT)
                  exact q _
              | some n =>
                dsimp only [optV] at ha m3
                (run_tac hlT)
                rw [m3]; (run_tac hlT)
                rw [m2]; (run_tac hlT)
                refine item_dict (H.at 7 ha rfl) (by (run_tac krT)) ?_; (run_tac hlT)
                refine len_list (H.at 8 ha rfl) ?_; (run_tac hlT)
                rw [bL_len, hol]
                (run_tac hcaseT `ce)
                · have ce := of_decide_eq_false ce
                  (run_tac hlT)
                  rw [m3]; (run_tac hlT)
                  rw [m2]; (run_tac hlT)
                  refine item_dict (H.at 7 ha rfl) (by (run_tac krT)) ?_; (run_tac hlT)
                  refine len_list (H.at 8 ha rfl) ?_; (run_tac hlT)
                  rw [bL_len, hol]
                  refine Halloc ha fun due σ37 h37 => ?_; (run_tac hlT)
                  refine ⟨_, _, (h37.at 16 rfl), by (run_tac krT), fun σf2 f2 fd2 kp2 hf2 hF2 e2 p12 p22 p32 p42 p52 p62 p72 p82 => ?_⟩
                  have hf3 := h37.got kp2 hf2 e2
                  (run_tac hlT)
                  refine wordD (d := d + 9) (fun vs σ' => vs = [vS (S "size"), vS (S "content"), vI n, vI out.size] ∧ H [(due, .tup [vS (S "size"), vS (S "content"), vI n, vI out.size])] FR σ') (fun K' X' hg hx => ?_) fun vs σ9 hQ => ?_
                  · refine lamD_ok (d := d + 8) hF2 (hf3.at 0 rfl) p12 p22 p32 p42 p52 p62 p72 p82 (by kernel_rfl) (by kernel_rfl) fun L4 code4 hL4 => ?_
                    (run_tac hlT)
                    rw [H.at 16 hf3 rfl]; (run_tac hlT)
                    refine meth_inst (hf3.at 2 rfl) (hf3.at 3 rfl) (by (run_tac krT)) (by kernel_rfl) (f := fFrameState_close) (by kernel_rfl) (by kernel_rfl) ?_
                    (run_tac hlT)
                    refine close_ok (d := d + 3) (sz := some n) ((hf3.pick [2, 3, 4, 5, 6, 0, 1, 7, 8, 9, 10, 11, 12, 13, 14, 15, 16, 17]).frame 5) hsz (by unfold tlong; (run_tac Mine.Lin.om)) (fun m hm1 hm2 e dx r σg hg1 => ?_) fun hall => ?_
                    · obtain rfl : n = m := Option.some.inj hm1
                      have hg1 := hg1.unframe.norm (by (run_tac krT))
                      exact hx _ _ (.size dx r _ _ _ (hg1.at 0 rfl) (hg1.at 1 rfl) ⟨rfl, hg1.pick [3]⟩)
                    · exact absurd (hall _ rfl) (by (run_tac Mine.Lin.om))
                  · obtain ⟨rfl, h9⟩ := hQ
                    refine Halloc h9 fun told σ38 h38 => ?_; (run_tac hlT)
                    refine eq_tup (h38.at 0 rfl) (h38.at 1 rfl) rfl (by rfl) ?_
                    (run_tac hlT)
                    exact q _
                · have ce := of_decide_eq_true ce
                  (run_tac hlT)
                  refine Halloc ha fun due σ37 h37 => ?_; (run_tac hlT)
                  refine ⟨_, _, (h37.at 16 rfl), by (run_tac krT), fun σf2 f2 fd2 kp2 hf2 hF2 e2 p12 p22 p32 p42 p52 p62 p72 p82 => ?_⟩
                  have hf3 := h37.got kp2 hf2 e2
                  (run_tac hlT)
                  refine wordD (d := d + 9) (fun vs σ' => vs = [vS (S "gave"), .none] ∧ H [(due, .tup [vS (S "gave"), .none])] FR σ') (fun K' X' hg hx => ?_) fun vs σ9 hQ => ?_
                  · refine lamD_ok (d := d + 8) hF2 (hf3.at 0 rfl) p12 p22 p32 p42 p52 p62 p72 p82 (by kernel_rfl) (by kernel_rfl) fun L4 code4 hL4 => ?_
                    (run_tac hlT)
                    rw [H.at 16 hf3 rfl]; (run_tac hlT)
                    refine meth_inst (hf3.at 2 rfl) (hf3.at 3 rfl) (by (run_tac krT)) (by kernel_rfl) (f := fFrameState_close) (by kernel_rfl) (by kernel_rfl) ?_
                    (run_tac hlT)
                    refine close_ok (d := d + 3) (sz := some n) ((hf3.pick [2, 3, 4, 5, 6, 0, 1, 7, 8, 9, 10, 11, 12, 13, 14, 15, 16, 17]).frame 5) hsz (by unfold tlong; (run_tac Mine.Lin.om)) (fun m hm1 hm2 e dx r σg hg1 => ?_) fun hall => ?_
                    · exact absurd (Option.some.inj hm1) (by (run_tac Mine.Lin.om))
                    · exact hg _ _ ⟨rfl, hf3.pick [1]⟩
                  · obtain ⟨rfl, h9⟩ := hQ
                    refine Halloc h9 fun told σ38 h38 => ?_; (run_tac hlT)
                    refine eq_tup (h38.at 0 rfl) (h38.at 1 rfl) rfl (by rfl) ?_
                    (run_tac hlT)
                    exact q _
            · rintro k loc σa KK hk ⟨⟨m1, m2, m3⟩, ol1, tl1, out, a1, b1, c1, wv, nv, g1, g2, g3, g4, g5, g6, g7, FR, ha⟩ hKK
              have hk8 : k < 8 := by (run_tac Mine.Lin.om)
              (run_tac hlT)
              rw [m1]; (run_tac hlT)
              rw [H.at 14 ha rfl]; (run_tac hlT)
              rw [m2]; (run_tac hlT)
              refine deed_ok (d := d) (hist := hist) ((ha.pick [0, 1, 2, 3, 4, 5, 6, 7, 8, 9, 10, 11, 12, 13, 14, 15]).frame 14) hsz (by (run_tac Mine.Lin.om)) (by (run_tac Mine.Lin.om)) (by (run_tac Mine.Lin.om)) (by (run_tac Mine.Lin.om)) (by (run_tac Mine.Lin.om)) g2 g3 g4 g5 g6 (by (run_tac Mine.Lin.om)) (fun t σ' h' => ?_) fun t ol' tl' out' a' b' c' w' n' σ' e1 ha' hb' hc' hw' hn' hn2 h' => ?_
              · have h' := h'.unframe.norm (by (run_tac krT))
                (run_tac hlT)
                refine seq_tup (h'.at 0 rfl) ?_
                (run_tac hlT)
                exact q _
              · have h' := h'.unframe.norm (by (run_tac krT))
                (run_tac hlT)
                refine seq_tup (h'.at 0 rfl) ?_
                (run_tac hlT)
                rw [H.at 15 h' rfl]; (run_tac hlT)
                refine attr_inst (H.at 1 h' rfl) (H.at 2 h' rfl) (by kernel_rfl) (by kernel_rfl) (by (run_tac krT)) (by kernel_rfl) ?_; (run_tac hlT)
                refine meth_inst (h'.at 6 rfl) (h'.at 7 rfl) (by (run_tac krT)) (by kernel_rfl) (f := fOffsets_row) (by kernel_rfl) (by kernel_rfl) ?_
                (run_tac hlT)
                refine row_ok (d := d + 9) ((h'.pick [6, 7, 0, 1, 2, 3, 4, 5, 8, 9, 10, 11, 12, 13, 14, 15, 16]).frame 2) fun t1 σ37 h37 => ?_
                have h37 := h37.unframe.norm (by (run_tac krT))
                (run_tac hlT)
                rw [m2]; (run_tac hlT)
                refine item_dict (H.at 9 h37 rfl) (by (run_tac krT)) ?_; (run_tac hlT)
                refine ⟨_, (h37.at 11 rfl), ?_⟩
                refine Halloc h37 fun t2 σ38 h38 => ?_; (run_tac hlT)
                refine ne_tup (h38.at 1 rfl) (h38.at 0 rfl) rfl (by rfl) ?_
                (run_tac hlT)
                rw [H.at 17 h38 rfl]; (run_tac hlT)
                refine attr_inst (H.at 5 h38 rfl) (H.at 6 h38 rfl) (by kernel_rfl) (by kernel_rfl) (by (run_tac krT)) (by kernel_rfl) ?_; (run_tac hlT)
                refine bytes_barr (h38.at 9 rfl) ?_
                (run_tac hlT)
                rw [m2]; (run_tac hlT)
                refine item_dict (H.at 10 h38 rfl) (by (run_tac krT)) ?_; (run_tac hlT)
                refine bytes_bL (h38.at 11 rfl) ?_
                (run_tac hlT)
                (run_tac hcaseT `cz)
                · (run_tac hlT)
                  exact hKK _ _ ⟨⟨by (run_tac klT); exact m1, by (run_tac klT); exact m2, by (run_tac klT); exact m3⟩, ol', tl', out', a', b', c', w', n', by (run_tac Mine.Lin.om), ha', hb', hc', hw', hn', by (run_tac Mine.Lin.om), FR, (h38.pick [5, 6, 7, 8, 9, 2, 3, 10, 11, 12, 13, 14, 15, 16, 17, 18])⟩
                · exfalso; simp at cz
          · exfalso; have := of_decide_eq_true cw; (run_tac Mine.Lin.om)
        · rw [hp] at hp2; cases hp2
        · rw [hp] at hp2; cases hp2
        · rw [hp] at hp2; cases hp2
      · refine Halloc h9 fun begun σ22 h22 => ?_; (run_tac hlT)
        refine callI_P (by kernel_rfl) (by kernel_rfl) ?_
        refine picked_ok (d := d + 8) ((h22.pick [8, 0, 1, 2, 3, 4, 5, 6, 7, 9, 10, 11, 12, 13, 14, 15, 16]).frame 1) hbk (by (run_tac Mine.Lin.om)) (fun j y hp2 hj t du σ23 h23 => ?_) (fun hp2 t du σ23 h23 => ?_) (fun hp2 t du σ23 h23 => ?_) (fun w2 hp2 t du σ23 h23 => ?_)
        · rw [hp] at hp2; cases hp2
        · have h23 := h23.unframe.norm (by (run_tac krT))
          (run_tac hlT)
          refine seq_tup (h23.at 0 rfl) ?_
          (run_tac hlT)
          rw [H.at 17 h23 rfl]; (run_tac hlT)
          (run_tac hcaseT `cw)
          · (run_tac hlT)
            refine Halloc h23 fun emp σ24 h24 => ?_; (run_tac hlT)
            refine ne_tup (h24.at 2 rfl) (h24.at 0 rfl) rfl (by rfl) ?_
            (run_tac hlT)
            refine item_tup (h24.at 4 rfl) (by decide) rfl ?_
            (run_tac hlT)
            refine item_tup (h24.at 4 rfl) (by decide) rfl ?_
            (run_tac hlT)
            intro md hmd
            have h25 := h24.new (o := .dict []) hmd
            (run_tac gsT `h25 `σ25)
            (run_tac hlT)
            refine Halloc h25 fun ol σ26 h26 => ?_; (run_tac hlT)
            refine Halloc h26 fun tl σ27 h27 => ?_; (run_tac hlT)
            rw [H.at 22 h27 rfl]; (run_tac hlT)
            refine ⟨(h27.at 2 rfl), by (run_tac kdT), ?_⟩
            (run_tac hsetT `h27 2 `σ28 `h28)
            refine Halloc h28 fun tp σ29 h29 => ?_; (run_tac hlT)
            refine seq_tup (h29.at 0 rfl) ?_
            (run_tac hlT)
            refine ⟨_, (h29.at 21 rfl), ?_⟩
            (run_tac hsetT `h29 21 `σ30 `h30)
            refine Halloc h30 fun bk σ31 h31 => ?_; (run_tac hlT)
            refine Hput_dict 4 h31 rfl (by (run_tac kdT)) (by (run_tac krT)) (by (run_tac krT)) fun σ32 h32 => ?_; (run_tac hlT)
            have hgl : ([] : List UInt8).length ≤ 12 := by decide
            refine len_rlist (h32.at 18 rfl) ?_
            (run_tac hlT)
            rw [List.length_map]
            refine ⟨by (run_tac Mine.Lin.om), by (run_tac Mine.Lin.om), ?_⟩
            refine Halloc h32 fun rng σ33 h33 => ?_; (run_tac hlT)
            refine iter_rng (h33.at 0 rfl) ?_
            (run_tac hlT)
            refine forR (fun k loc σ' => (loc (S "box") = some (.ref b) ∧ loc (S "mine") = some (.ref md) ∧ loc (S "size") = some (optV sz)) ∧ ∃ (ol1 tl1 : Addr) (out : Array UInt8) (a1 b1 c1 wv nv : Int), out.size ≤ 90 * k ∧ 1 ≤ a1 ∧ 1 ≤ b1 ∧ 1 ≤ c1 ∧ 0 ≤ wv ∧ 0 ≤ nv ∧ nv ≤ 200 + 200 * k ∧ ∃ FR, H [(st, .inst cFrameState dst), (dst, dState hd (min window mb) bo (([] : List UInt8)).toArray tb ofs), (hd, .inst cFrameHeader dhd), (dhd, dHeader window (optV sz) ident), (bo, .barr out), (ofs, .inst cOffsets dof), (dof, dOffs a1 b1 c1), (md, dMine ol1 tl1 bk window (min window mb) (optV sz)), (ol1, .list (bL out.toList)), (tl1, .list [vI a1, vI b1, vI c1]), (bk, .list (bL ([] : List UInt8))), (b, .list [vI wv, vI nv]), (tLB, oLB), (tLD, oLD), (L + 1 + 1 + 1 + 1 + 1, .cell (some (.ref st))), (tL, oL)] FR σ') ?_ ?_ ?_
            · exact ⟨⟨by (run_tac krT), by (run_tac krT), by kernel_rfl⟩, ol, tl, #[], 1, 4, 8, w7, n5 + 1 + 1, by decide, by decide, by decide, by decide, w70, by (run_tac Mine.Lin.om), by (run_tac Mine.Lin.om), _, h33.pick [11, 12, 13, 14, 15, 16, 17, 5, 4, 3, 1, 18, 21, 22, 23, 20]⟩
            · rintro loc σa ⟨⟨m1, m2, m3⟩, ol1, tl1, out, a1, b1, c1, wv, nv, g1, g2, g3, g4, g5, g6, g7, FR, ha⟩
              have hol : out.toList.length = out.size := by simp
              have hlap : out.size ≤ 90 * 8 := by (run_tac Mine.Lin.om)
              (run_tac hlT)
              rw [m3]; (run_tac hlT)
              cases sz with
              | none =>
                dsimp only [optV] at ha m3
                (run_tac hlT)
                refine Halloc ha fun due σ34 h34 => ?_; (run_tac hlT)
                refine ⟨_, _, (h34.at 16 rfl), by (run_tac krT), fun σf2 f2 fd2 kp2 hf2 hF2 e2 p12 p22 p32 p42 p52 p62 p72 p82 => ?_⟩
                have hf3 := h34.got kp2 hf2 e2
                (run_tac hlT)
                refine wordD (d := d + 9) (fun vs σ' => vs = [vS (S "gave"), .none] ∧ H [(due, .tup [vS (S "gave"), .none])] FR σ') (fun K' X' hg hx => ?_) fun vs σ9 hQ => ?_
                · refine lamD_ok (d := d + 8) hF2 (hf3.at 0 rfl) p12 p22 p32 p42 p52 p62 p72 p82 (by kernel_rfl) (by kernel_rfl) fun L4 code4 hL4 => ?_
                  (run_tac hlT)
                  rw [H.at 16 hf3 rfl]; (run_tac hlT)
                  refine meth_inst (hf3.at 2 rfl) (hf3.at 3 rfl) (by (run_tac krT)) (by kernel_rfl) (f := fFrameState_close) (by kernel_rfl) (by kernel_rfl) ?_
                  (run_tac hlT)
                  refine close_ok (d := d + 3) (sz := none) ((hf3.pick [2, 3, 4, 5, 6, 0, 1, 7, 8, 9, 10, 11, 12, 13, 14, 15, 16, 17]).frame 5) hsz (by unfold tlong; (run_tac Mine.Lin.om)) (fun m hm1 hm2 e dx r σg hg1 => ?_) fun hall => ?_
                  · cases hm1
                  · exact hg _ _ ⟨rfl, hf3.pick [1]⟩
                · obtain ⟨rfl, h9⟩ := hQ
                  refine Halloc h9 fun told σ35 h35 => ?_; (run_tac hlT)
                  refine eq_tup (h35.at 0 rfl) (h35.at 1 rfl) rfl (by rfl) ?_
                  (run_tac hlT)
                  exact q _
              | some n =>
                dsimp only [optV] at ha m3
                (run_tac hlT)
                rw [m3]; (run_tac hlT)
                rw [m2]; (run_tac hlT)
                refine item_dict (H.at 7 ha rfl) (by (run_tac krT)) ?_; (run_tac hlT)
                refine len_list (H.at 8 ha rfl) ?_; (run_tac hlT)
                rw [bL_len, hol]
                (run_tac hcaseT `ce)
                · have ce := of_decide_eq_false ce
                  (run_tac hlT)
                  rw [m3]; (run_tac hlT)
                  rw [m2]; (run_tac hlT)
                  refine item_dict (H.at 7 ha rfl) (by (run_tac krT)) ?_; (run_tac hlT)
                  refine len_list (H.at 8 ha rfl) ?_; (run_tac hlT)
                  rw [bL_len, hol]
                  refine Halloc ha fun due σ34 h34 => ?_; (run_tac hlT)
                  refine ⟨_, _, (h34.at 16 rfl), by (run_tac krT), fun σf2 f2 fd2 kp2 hf2 hF2 e2 p12 p22 p32 p42 p52 p62 p72 p82 => ?_⟩
                  have hf3 := h34.got kp2 hf2 e2
                  (run_tac hlT)
                  refine wordD (d := d + 9) (fun vs σ' => vs = [vS (S "size"), vS (S "content"), vI n, vI out.size] ∧ H [(due, .tup [vS (S "size"), vS (S "content"), vI n, vI out.size])] FR σ') (fun K' X' hg hx => ?_) fun vs σ9 hQ => ?_
                  · refine lamD_ok (d := d + 8) hF2 (hf3.at 0 rfl) p12 p22 p32 p42 p52 p62 p72 p82 (by kernel_rfl) (by kernel_rfl) fun L4 code4 hL4 => ?_
                    (run_tac hlT)
                    rw [H.at 16 hf3 rfl]; (run_tac hlT)
                    refine meth_inst (hf3.at 2 rfl) (hf3.at 3 rfl) (by (run_tac krT)) (by kernel_rfl) (f := fFrameState_close) (by kernel_rfl) (by kernel_rfl) ?_
                    (run_tac hlT)
                    refine close_ok (d := d + 3) (sz := some n) ((hf3.pick [2, 3, 4, 5, 6, 0, 1, 7, 8, 9, 10, 11, 12, 13, 14, 15, 16, 17]).frame 5) hsz (by unfold tlong; (run_tac Mine.Lin.om)) (fun m hm1 hm2 e dx r σg hg1 => ?_) fun hall => ?_
                    · obtain rfl : n = m := Option.some.inj hm1
                      have hg1 := hg1.unframe.norm (by (run_tac krT))
                      exact hx _ _ (.size dx r _ _ _ (hg1.at 0 rfl) (hg1.at 1 rfl) ⟨rfl, hg1.pick [3]⟩)
                    · exact absurd (hall _ rfl) (by (run_tac Mine.Lin.om))
                  · obtain ⟨rfl, h9⟩ := hQ
                    refine Halloc h9 fun told σ35 h35 => ?_; (run_tac hlT)
                    refine eq_tup (h35.at 0 rfl) (h35.at 1 rfl) rfl (by rfl) ?_
                    (run_tac hlT)
                    exact q _
                · have ce := of_decide_eq_true ce
                  (run_tac hlT)
                  refine Halloc ha fun due σ34 h34 => ?_; (run_tac hlT)
                  refine ⟨_, _, (h34.at 16 rfl), by (run_tac krT), fun σf2 f2 fd2 kp2 hf2 hF2 e2 p12 p22 p32 p42 p52 p62 p72 p82 => ?_⟩
                  have hf3 := h34.got kp2 hf2 e2
                  (run_tac hlT)
                  refine wordD (d := d + 9) (fun vs σ' => vs = [vS (S "gave"), .none] ∧ H [(due, .tup [vS (S "gave"), .none])] FR σ') (fun K' X' hg hx => ?_) fun vs σ9 hQ => ?_
                  · refine lamD_ok (d := d + 8) hF2 (hf3.at 0 rfl) p12 p22 p32 p42 p52 p62 p72 p82 (by kernel_rfl) (by kernel_rfl) fun L4 code4 hL4 => ?_
                    (run_tac hlT)
                    rw [H.at 16 hf3 rfl]; (run_tac hlT)
                    refine meth_inst (hf3.at 2 rfl) (hf3.at 3 rfl) (by (run_tac krT)) (by kernel_rfl) (f := fFrameState_close) (by kernel_rfl) (by kernel_rfl) ?_
                    (run_tac hlT)
                    refine close_ok (d := d + 3) (sz := some n) ((hf3.pick [2, 3, 4, 5, 6, 0, 1, 7, 8, 9, 10, 11, 12, 13, 14, 15, 16, 17]).frame 5) hsz (by unfold tlong; (run_tac Mine.Lin.om)) (fun m hm1 hm2 e dx r σg hg1 => ?_) fun hall => ?_
                    · exact absurd (Option.some.inj hm1) (by (run_tac Mine.Lin.om))
                    · exact hg _ _ ⟨rfl, hf3.pick [1]⟩
                  · obtain ⟨rfl, h9⟩ := hQ
                    refine Halloc h9 fun told σ35 h35 => ?_; (run_tac hlT)
                    refine eq_tup (h35.at 0 rfl) (h35.at 1 rfl) rfl (by rfl) ?_
                    (run_tac hlT)
                    exact q _
            · rintro k loc σa KK hk ⟨⟨m1, m2, m3⟩, ol1, tl1, out, a1, b1, c1, wv, nv, g1, g2, g3, g4, g5, g6, g7, FR, ha⟩ hKK
              have hk8 : k < 8 := by (run_tac Mine.Lin.om)
              (run_tac hlT)
              rw [m1]; (run_tac hlT)
              rw [H.at 14 ha rfl]; (run_tac hlT)
              rw [m2]; (run_tac hlT)
              refine deed_ok (d := d) (hist := ([] : List UInt8)) ((ha.pick [0, 1, 2, 3, 4, 5, 6, 7, 8, 9, 10, 11, 12, 13, 14, 15]).frame 14) hsz (by (run_tac Mine.Lin.om)) (by (run_tac Mine.Lin.om)) (by (run_tac Mine.Lin.om)) (by (run_tac Mine.Lin.om)) (by (run_tac Mine.Lin.om)) g2 g3 g4 g5 g6 (by (run_tac Mine.Lin.om)) (fun t σ' h' => ?_) fun t ol' tl' out' a' b' c' w' n' σ' e1 ha' hb' hc' hw' hn' hn2 h' => ?_
              · have h' := h'.unframe.norm (by (run_tac krT))
                (run_tac hlT)
                refine seq_tup (h'.at 0 rfl) ?_
                (run_tac hlT)
                exact q _
              · have h' := h'.unframe.norm (by (run_tac krT))
                (run_tac hlT)
                refine seq_tup (h'.at 0 rfl) ?_
                (run_tac hlT)
                rw [H.at 15 h' rfl]; (run_tac hlT)
                refine attr_inst (H.at 1 h' rfl) (H.at 2 h' rfl) (by kernel_rfl) (by kernel_rfl) (by (run_tac krT)) (by kernel_rfl) ?_; (run_tac hlT)
                refine meth_inst (h'.at 6 rfl) (h'.at 7 rfl) (by (run_tac krT)) (by kernel_rfl) (f := fOffsets_row) (by kernel_rfl) (by kernel_rfl) ?_
                (run_tac hlT)
                refine row_ok (d := d + 9) ((h'.pick [6, 7, 0, 1, 2, 3, 4, 5, 8, 9, 10, 11, 12, 13, 14, 15, 16]).frame 2) fun t1 σ34 h34 => ?_
                have h34 := h34.unframe.norm (by (run_tac krT))
                (run_tac hlT)
                rw [m2]; (run_tac hlT)
                refine item_dict (H.at 9 h34 rfl) (by (run_tac krT)) ?_; (run_tac hlT)
                refine ⟨_, (h34.at 11 rfl), ?_⟩
                refine Halloc h34 fun t2 σ35 h35 => ?_; (run_tac hlT)
                refine ne_tup (h35.at 1 rfl) (h35.at 0 rfl) rfl (by rfl) ?_
                (run_tac hlT)
                rw [H.at 17 h35 rfl]; (run_tac hlT)
                refine attr_inst (H.at 5 h35 rfl) (H.at 6 h35 rfl) (by kernel_rfl) (by kernel_rfl) (by (run_tac krT)) (by kernel_rfl) ?_; (run_tac hlT)
                refine bytes_barr (h35.at 9 rfl) ?_
                (run_tac hlT)
                rw [m2]; (run_tac hlT)
                refine item_dict (H.at 10 h35 rfl) (by (run_tac krT)) ?_; (run_tac hlT)
                refine bytes_bL (h35.at 11 rfl) ?_
                (run_tac hlT)
                (run_tac hcaseT `cz)
                · (run_tac hlT)
                  exact hKK _ _ ⟨⟨by (run_tac klT); exact m1, by (run_tac klT); exact m2, by (run_tac klT); exact m3⟩, ol', tl', out', a', b', c', w', n', by (run_tac Mine.Lin.om), ha', hb', hc', hw', hn', by (run_tac Mine.Lin.om), FR, (h35.pick [5, 6, 7, 8, 9, 2, 3, 10, 11, 12, 13, 14, 15, 16, 17, 18])⟩
                · exfalso; simp at cz
          · exfalso; have := of_decide_eq_true cw; (run_tac Mine.Lin.om)
        · rw [hp] at hp2; cases hp2
        · rw [hp] at hp2; cases hp2
  · rintro x xs loc σ20 KK ⟨pre, post, ds, rfl, e1, hdat, h20⟩ hKK
    refine ⟨(h20.at 3 rfl), ?_⟩
    cases post with
    | nil => cases e1
    | cons z post =>
      obtain ⟨rfl, e1x⟩ := List.cons.inj e1
      have hzm : z ∈ pre ++ z :: post := List.mem_append_right _ (.head _)
      have hgz := hbg z hzm
      have hmm : ∀ {l : List (Addr × O)}, ∀ p ∈ bookO z, p ∈ l ++ ((pre ++ z :: post).flatMap bookO ++ fr) := fun p hp => List.mem_append_right _ (List.mem_append_left _ (List.mem_flatMap.mpr ⟨z, hzm, hp⟩))
      obtain ⟨zt, zc, zh, zi, zcon, za, zb, zcc⟩ := z
      have z1 : ∀ {l : List (Addr × O)}, (zt, O.tup [vI zi, .ref zc, .ref zh]) ∈ l ++ ((pre ++ (zt, zc, zh, zi, zcon, za, zb, zcc) :: post).flatMap bookO ++ fr) := hmm _ (.head _)
      have z2 : ∀ {l : List (Addr × O)}, (zc, O.list (bL zcon)) ∈ l ++ ((pre ++ (zt, zc, zh, zi, zcon, za, zb, zcc) :: post).flatMap bookO ++ fr) := hmm _ (.tail _ (.head _))
      have z3 : ∀ {l : List (Addr × O)}, (zh, O.list [vI za, vI zb, vI zcc]) ∈ l ++ ((pre ++ (zt, zc, zh, zi, zcon, za, zb, zcc) :: post).flatMap bookO ++ fr) := hmm _ (.tail _ (.tail _ (.head _)))
      obtain ⟨⟨gi0, gi1⟩, gl, ga0, gb0, gc0⟩ := hgz
      dsimp only at gi0 gi1 gl ga0 gb0 gc0
      (run_tac hlT)
      refine seq_tup (h20.mem z1) ?_
      (run_tac hlT)
      refine bytes_bL (h20.mem z2) ?_
      (run_tac hlT)
      refine dictF_ok (d := d + 7) gi0 (by (run_tac Mine.Lin.om)) ((h20.pick [0, 1, 2, 3, 4, 5, 6, 7, 8, 9, 10, 11, 12, 13]).frame 0) (List.mem_append_right _ z3) fun x dx t σ21 h21 => ?_
      have h21 := h21.unframe.norm (by (run_tac krT))
      (run_tac hlT)
      refine ⟨_, (h21.at 3 rfl), by rw [List.length_map]; have := congrArg List.length hdat; rw [List.length_map, List.length_map] at this; rw [List.length_append] at hbs2; unfold LIM; (run_tac Mine.Lin.om), ?_⟩
      have hz := (h21.upd 3 (.list ((ds.map fun z => .ref z.1) ++ [.ref x])) rfl).norm (by (run_tac krT))
      refine hKK _ _ ⟨pre ++ [(zt, zc, zh, zi, zcon, za, zb, zcc)], post, ds ++ [(x, dx, t, zi, zcon, za, zb, zcc)], by simp, e1x, by rw [List.map_append, List.map_append, hdat]; rfl, ?_⟩
      have hz := ((hz.norm (by (run_tac krT))).toFr.toFr).toFr
      rw [List.flatMap_append, List.map_append]
      simpa [dicO] using hz
  · exact ⟨[], bs, [], rfl, rfl, rfl, h19⟩
  run_tac endC
end
end Mine
end

section
open PySem PySem.W PySem.Calls PyProof.Rows
set_option maxRecDepth 100000
namespace Mine

/-- my hook: what the call reads, and three empty tables -/
noncomputable abbrev hookK : Hook := kmHook K0 as0 (fun _ => by kernel_rfl) TT

noncomputable def mainObj (P : Params) : Obj := ((K0 P).lookup mainGlobals).getD default
noncomputable def mainEs (P : Params) : Array DictEntry := match (mainObj P).data with
  | .dict es _ => es
  | _ => #[]
noncomputable def mainEp (P : Params) : Nat := match (mainObj P).data with
  | .dict _ n => n
  | _ => 0
theorem main_in (P : Params) : (K0 P).lookup mainGlobals = some (mainObj P) := by kernel_rfl
theorem main_data (P : Params) : (mainObj P).data = .dict (mainEs P) (mainEp P) := by kernel_rfl

noncomputable def eqVal : Value → Value → Bool
  | .ref a, .ref b => a == b
  | .int i t, .int j u => i == j && t == u
  | .builtin a, .builtin b => a == b
  | .type a, .type b => a == b
  | _, _ => false
theorem eqVal_eq {a b : Value} (h : eqVal a b = true) : a = b := by
  run_tac beginC
  unfold eqVal at h
  (run_tac invT `h)
  all_goals first
    | rw [eq_of_beq h]
    | (obtain ⟨h1, h2⟩ := Bool.and_eq_true_iff.mp h
       rw [eq_of_beq h1, eq_of_beq h2])
  run_tac endC
noncomputable def globOk (P : Params) (p : Str × Value) : Bool := decide (p.1 ≠ ("__debug__" : Str)) && (match nsFind (mainEs P) p.1 with
  | some val => eqVal (er val) p.2
  | none => (match bootBuiltins p.1 with
    | some val => eqVal (er val) p.2
    | none => false))
theorem glob_all (P : Params) : GL.all (globOk P) = true := by kernel_rfl
theorem law_name (P : Params) : nsFind (mainEs P) PySem.Challenge.rw_nz0433_01.name = some (.ref flaw) := by kernel_rfl

theorem lookup_memN {α β : Type} [BEq α] [LawfulBEq α] {x : α} {v : β} : ∀ {l : List (α × β)}, l.lookup x = some v → (x, v) ∈ l
  | [], h => by cases h
  | (y, u) :: l, h => by
    rw [List.lookup_cons] at h
    split at h
    · rename_i q
      cases h
      rw [eq_of_beq q]
      exact .head _
    · exact .tail _ (lookup_memN h)

section
variable {q : Program} {loose : List Str} {R : WRecords} {XP : (Str → Option Value) → Heap → Prop} {w : World} {s₀ : Shared} {mg mb : Str → Option Value} {h : Heap}

noncomputable abbrev toldT (a : Addr) : Bool := TT.contains a
theorem under_keep {a : Addr} {o : Obj} (e : h.get? a = some o) (ht : toldT a = false) : (under toldT h).get? a = some o := by
  run_tac beginC
  rw [under_get, if_neg (by rw [ht]; exact Bool.false_ne_true)]; exact e
  run_tac endC
theorem tab_at (Y : hookK.says w h) {a : Addr} (ha : toldT a = true) : h.get? a = some (tabObj #[]) := Y.2 a (List.contains_iff_mem.mp ha)
theorem mg_main (G : Ground q loose R XP w s₀ mg mb h) (Y : hookK.says w h) (x : Str) : mg x = nsFind (mainEs w.params) x := by
  run_tac beginC
  obtain ⟨o, es, ep, e, hd, _, hm⟩ := G.T.g
  have e' := Y.1 _ _ (main_in w.params)
  rw [e] at e'
  cases e'
  rw [main_data] at hd
  injection hd with h1 h2
  rw [h1]
  exact (hm x).symm
  run_tac endC
theorem in_as0 {P : Params} {a : Addr} {o : Obj} (e : (K0 P).lookup a = some o) : toldT a = false := by
  run_tac beginC
  have h1 : a ∈ (K0 P).map (·.1) := List.mem_map_of_mem (f := (·.1)) (lookup_memN e)
  have h2 : as0 = (K0 P).map (·.1) := by kernel_rfl
  rw [← h2] at h1
  have h3 : as0.all (fun a => !toldT a) = true := by kernel_rfl
  have := List.all_eq_true.mp h3 a h1
  simpa using this
  run_tac endC

theorem stat_of (G : Ground q loose R XP w s₀ mg mb h) (Y : hookK.says w h) : Stat w (K0 w.params) GG (under toldT h) := by
  run_tac beginC
  exact {
  kin := fun a o e => under_keep (Y.1 a o e) (in_as0 e)
  nolimit := by
    obtain ⟨mc, ⟨o, es, ep, e, r⟩, hm⟩ := G.T.nolimit
    exact ⟨mc, ⟨o, es, ep, under_keep e (by decide), r⟩, hm⟩
  glob := fun x v hx => by
    have h1 := List.all_eq_true.mp (glob_all w.params) _ (lookup_memN hx)
    obtain ⟨h1, h2⟩ := Bool.and_eq_true_iff.mp h1
    obtain ⟨o, es, ep, e, r⟩ := G.T.g
    obtain ⟨o', es', ep', e', r'⟩ := G.T.b
    have n1 : (under toldT h).Ns mainGlobals mg := ⟨o, es, ep, under_keep e (by decide), r⟩
    have n2 : (under toldT h).Ns builtinsNs mb := ⟨o', es', ep', under_keep e' (by decide), r'⟩
    have hne : x ≠ ("__debug__" : Str) := of_decide_eq_true h1
    dsimp only at h2
    rw [← mg_main G Y] at h2
    split at h2
    · rename_i val q1
      exact ⟨mg, mb, val, n1, n2, eqVal_eq h2, .inl q1, hne⟩
    · rename_i q1
      split at h2
      · rename_i val q2
        refine ⟨mg, mb, val, n1, n2, eqVal_eq h2, .inr ⟨q1, ?_⟩, hne⟩
        have hnn : x ≠ ("__name__" : Str) := fun z => by
          rw [z, mg_main G Y] at q1
          have : (nsFind (mainEs w.params) "__name__").isSome = true := by kernel_rfl
          rw [q1] at this
          cases this
        rw [G.T.builtins x hnn]
        exact q2
      · cases h2
  glo := by
    obtain ⟨bm, ob, b1, b2, b3, b4, b5, b6⟩ := G.T.bmain
    obtain ⟨o, es, ep, e, hd, r⟩ := G.T.g
    refine ⟨mg, ⟨o, es, ep, under_keep e (by decide), hd, r⟩, bm, ob, b1, b2, fun z => ?_, under_keep b3 ?_, b4, b5, b6⟩
    · rw [z, e] at b3
      cases b3
      rw [hd] at b6
      cases b6
    · cases ht : toldT bm with
      | false => rfl
      | true =>
        rw [tab_at Y ht] at b3
        cases b3
        cases b6
  }
  run_tac endC

theorem ints_of {cl : Str → Option Addr} : ∀ {xs : List WData} {vs : List Value} {as : List Addr}, ReadsAllW R cl h vs xs as → WShape.hasItems R xs .int = true → ∃ ns : List Int, vs.map er = ns.map vI ∧ ns.length = xs.length
  | [], _, _, hr, _ => by cases hr; exact ⟨[], rfl, rfl⟩
  | x :: xs, _, _, hr, hx => by
    cases hr with
    | cons hv hvs =>
      have hx' : WShape.has R x .int = true ∧ WShape.hasItems R xs .int = true := by simpa [WShape.hasItems] using hx
      obtain ⟨i, rfl⟩ := hasW_int hx'.1
      cases hv
      obtain ⟨ns, e1, e2⟩ := ints_of hvs hx'.2
      exact ⟨i :: ns, by rw [List.map_cons, List.map_cons, e1]; rfl, by rw [List.length_cons, List.length_cons, e2]⟩

noncomputable def Store.nil : Store := fun _ => none
noncomputable def sig0 (sl : Addr) (vs : List Value) : Store := (((Store.nil.set tLD oLD).set tLB oLB).set tL oL).set sl (.rlist vs)
theorem sig_H {sl : Addr} {vs : List Value} (hs : toldT sl = false) : H [(sl, .rlist vs), (tL, oL), (tLB, oLB), (tLD, oLD)] [] (sig0 sl vs) := by
  run_tac beginC
  have n1 : sl ≠ tL := fun z => by rw [z] at hs; revert hs; decide
  have n2 : sl ≠ tLB := fun z => by rw [z] at hs; revert hs; decide
  have n3 : sl ≠ tLD := fun z => by rw [z] at hs; revert hs; decide
  refine ⟨fun p hp => ?_, ?_⟩
  · simp only [List.append_nil, List.mem_cons, List.not_mem_nil, or_false] at hp
    unfold sig0
    rcases hp with rfl | rfl | rfl | rfl
    · exact setSame'
    · rw [setOther' n1.symm]; exact setSame'
    · rw [setOther' n2.symm, setOther' (by decide)]; exact setSame'
    · rw [setOther' n3.symm, setOther' (by decide), setOther' (by decide)]; exact setSame'
  · simp only [List.append_nil, List.map_cons, List.map_nil, List.nodup_cons, List.mem_cons, List.not_mem_nil, or_false, not_or]
    exact ⟨⟨n1, n2, n3⟩, by decide, by decide, by decide, List.nodup_nil⟩
  run_tac endC
theorem sig_inv {sl : Addr} {vs : List Value} {a : Addr} {o : O} (e : sig0 sl vs a = some o) : (a = sl ∧ o = .rlist vs) ∨ (toldT a = true ∧ ∃ q, o = .tab #[] q) := by
  run_tac beginC
  unfold sig0 Store.set at e
  split at e
  · rename_i z; cases e; exact .inl ⟨z, rfl⟩
  · split at e
    · rename_i z; cases e; exact .inr ⟨by rw [z]; decide, _, rfl⟩
    · split at e
      · rename_i z; cases e; exact .inr ⟨by rw [z]; decide, _, rfl⟩
      · split at e
        · rename_i z; cases e; exact .inr ⟨by rw [z]; decide, _, rfl⟩
        · cases e
  run_tac endC

theorem sit_of {s₁ : Shared} (Y : hookK.says w s₁.heap) (hg : s₁.gens = #[]) {sl : Addr} {o : Obj} {vs : Array Value} {n : Nat} {ns : List Int} (e : s₁.heap.get? sl = some o) (hc : o.cls = .type "list") (hd : o.data = .seq vs n) (hv : vs.toList.map er = ns.map vI) (hl : ns.length ≤ 63) :
    toldT sl = false ∧ Sit w.params (under toldT s₁.heap) #[] s₁.os [] (sig0 sl (ns.map vI)) s₁ := by
  run_tac beginC
  have hsl : toldT sl = false := by
    cases ht : toldT sl with
    | false => rfl
    | true =>
      rw [tab_at Y ht] at e
      cases e
      cases hc
  refine ⟨hsl, ?_⟩
  exact {
    stays := fun b o e => by
      rw [under_get] at e
      split at e
      · cases e
      · exact e
    nsok := fun p hp => by cases hp
    nd := List.nodup_nil
    rep := fun a o' e' => by
      rcases sig_inv e' with ⟨rfl, rfl⟩ | ⟨ht, q, rfl⟩
      · exact ⟨o, e, hc, ⟨vs, n, hd, hv⟩, by rw [List.length_map]; unfold LIM; (run_tac Mine.Lin.om)⟩
      · exact ⟨_, tab_at Y ht, #[], rfl⟩
    own := fun a o' e' hr => by
      rcases sig_inv e' with ⟨rfl, rfl⟩ | ⟨ht, q, rfl⟩
      · cases hr
      · rw [under_get, if_pos ht]
    fns := fun f fd e' => by
      rcases sig_inv e' with ⟨_, z⟩ | ⟨_, q, z⟩ <;> cases z
    tabs := fun a ps q e' => by
      rcases sig_inv e' with ⟨_, z⟩ | ⟨ht, q', z⟩
      · cases z
      · cases z
        exact ⟨#[], tab_at Y ht, trivial, fun pos cv hc => by cases hc⟩
    gens := hg
    os := rfl
    tt := fun a ha => by
      have H0 := sig_H (vs := ns.map vI) hsl
      simp only [TT, List.mem_cons, List.not_mem_nil, or_false] at ha
      rcases ha with rfl | rfl | rfl
      · exact ⟨_, H0.at 1 rfl⟩
      · exact ⟨_, H0.at 2 rfl⟩
      · exact ⟨_, H0.at 3 rfl⟩ }
  run_tac endC

theorem tab_code (P : Params) {a : Addr} (ha : toldT a = true) : ∃ c o vs, (K0 P).lookup c = some o ∧ o.cls = .type "code" ∧ o.data = .fields vs ∧ vs[11]? = some (.ref a) := by
  run_tac beginC
  have : a = 1596 ∨ a = 1584 ∨ a = 1591 := by
    have := List.contains_iff_mem.mp ha
    simpa [TT] using this
  rcases this with rfl | rfl | rfl
  · exact ⟨1598, _, _, rfl, rfl, rfl, rfl⟩
  · exact ⟨1588, _, _, rfl, rfl, rfl, rfl⟩
  · exact ⟨1593, _, _, rfl, rfl, rfl, rfl⟩
  run_tac endC

theorem old_of {s₁ s' : Shared} (Y : hookK.says w s₁.heap) {σ : Store} {g : Array GenState} {os : OsState} (S : Sit w.params (under toldT s₁.heap) g os [] σ s') : OldK s₁.heap s'.heap := by
  run_tac beginC
  have key : ∀ b o, s₁.heap.get? b = some o → (toldT b = false ∧ s'.heap.get? b = some o) ∨ (toldT b = true ∧ ∃ more, s'.heap.get? b = some (tabObj (#[] ++ more))) := fun b o e => by
    cases ht : toldT b with
    | false => exact .inl ⟨rfl, S.stays b o (under_keep e ht)⟩
    | true =>
      obtain ⟨q, e1⟩ := S.tt b (List.contains_iff_mem.mp ht)
      obtain ⟨more, e2, _⟩ := S.tabs _ _ _ e1
      exact .inr ⟨rfl, more, e2⟩
  refine ⟨fun b o e => ?_, fun b o e => ?_⟩
  · rcases key b o e with ⟨_, e2⟩ | ⟨ht, more, e2⟩
    · exact .inl e2
    · rw [tab_at Y ht] at e
      cases e
      obtain ⟨c, oc, vs, c1, c2, c3, c4⟩ := tab_code w.params ht
      exact .inr (.inl ⟨⟨c, oc, vs, Y.1 _ _ c1, c2, c3, c4⟩, rfl, #[], more, rfl, e2⟩)
  · rcases key b o e with ⟨_, e2⟩ | ⟨_, more, e2⟩
    · exact ⟨_, e2⟩
    · exact ⟨_, e2⟩
  run_tac endC
end

theorem post_ok {xs : List WData} : PySem.Challenge.rw_nz0433_01.row.toRowW.claim.post [.list xs] (.bool true) [.list xs] = true := by
  run_tac beginC
  show (WShape.has [] (.bool true) .bool && WTm.holds [] (.eq .res (.lit (.bool true))) { args := [.list xs], res := some (.bool true), after := [.list xs] }) = true
  simp [WShape.has, WShape.arms, WTm.holds, WTm.value, same]
  run_tac endC

theorem walk_law {q : Program} {loose : List Str} {XP : (Str → Option Value) → Heap → Prop} : WalkM q loose XP hookK.says PySem.Challenge.rw_nz0433_01.row.toRowW := by
  run_tac beginC
  intro w s₀ s₁ mg mb G Y a ha hg args vals as hpre hrd
  obtain ⟨h1, h2⟩ := pre_splitW hpre
  obtain ⟨d, r, rfl, hd, hr⟩ := hasAllW_cons (e := .list .int) (es := []) h1
  obtain rfl := hasAllW_nil hr
  obtain ⟨xs, rfl, hxs⟩ := hasW_list hd
  have hlen : xs.length ≤ 63 := by
    have h3 : WTm.holds [] (.and (.not (.lt (.lit (.int 63)) (.len (.arg 0)))) (.lit (.bool true))) { args := [.list xs] } = true := h2
    by_cases hx : (63 : Int) < xs.length
    · simp [WTm.holds, WTm.value, less?, Num.less?, hx] at h3
    · (run_tac Mine.Lin.om)
  have hl : a = flaw := by
    have := mg_main G Y PySem.Challenge.rw_nz0433_01.name
    rw [law_name] at this
    have h3 := this.symm.trans ha
    injection h3 with h3
    injection h3 with h3
    exact h3.symm
  subst hl
  cases hrd with
  | cons hv hvs =>
    cases hvs
    cases hv with
    | list e c dd hall =>
      obtain ⟨ns, e1, e2⟩ := ints_of hall hxs
      obtain ⟨hsl, S⟩ := sit_of Y hg e c dd e1 (by (run_tac Mine.Lin.om))
      have T := stat_of G Y
      have C := snd_callI (prog := PySem.Challenge.rw_nz0433_01.row.toRowW.prog) (w := w) (F := K0 w.params) (G := GG) (own := OW) (g := #[]) (os := s₁.os) 11
      have hw := C _ T callerA [] _ (.ref flaw) [.ref _] (fun v _ => v = .bool true) (fun _ _ => False) s₁ [] rfl rfl (fun e he => by cases he) (by decide) (by decide) S
        (law_ok (d := 0) (by (run_tac Mine.Lin.om)) (sig_H hsl) fun σ' => rfl)
      refine wpM_mono hw (fun v s' hq0 => ?_) fun e s' ⟨_, _, _, _, _, _, k⟩ => k.elim
      obtain ⟨σ', S', k⟩ := hq0
      obtain rfl := er_bool k
      exact ⟨.inl ⟨_, _, _, rfl, fun _ => rfl, .bool true, post_ok, fun _ => ⟨List.nodup_nil, fun _ h => by cases h⟩⟩, old_of Y S', S'.os, S'.gens ▸ AllBare.empty⟩
  run_tac endC
end Mine
end

section
open PySem PySem.W PySem.Calls PyProof.Rows
open Lean Elab Tactic Meta
set_option maxRecDepth 100000
namespace Mine

/-! the top, piece by piece: each statement whole; no twins of the heaps, of the statements or of the program -/

def auxM (ty pf : Lean.Expr) : MetaM Lean.Expr := do return mkConst (← withOptions (Elab.async.set · false) (mkAuxLemma [] ty pf (cache := false)))

/-- a constant that shall have no twin -/
def layM (stem : Name) (ty v : Lean.Expr) : MetaM Lean.Expr := do
  let c ← defAt stem ty v
  PySem.W.Fast.primed.modify (·.insert c.getAppFn.constName! none)
  return c

def noTwin (x : PySem.W.State) : MetaM Unit := do
  match x.tree with
  | some (t, _, _) => PySem.W.Fast.primed.modify (·.insert t.getAppFn.constName! none)
  | none => PySem.W.Fast.primed.modify (·.insert x.heap.getAppFn.constName! none)

/-- the program's own trees by their places: what is written of a function is read there -/
def placesM (p : Program) : MetaM (Std.HashMap Lean.Expr Lean.Expr) := do
  let mut m : Std.HashMap Lean.Expr Lean.Expr := {}
  -- the trees as they are written of functions
  let put (m : Std.HashMap Lean.Expr Lean.Expr) (s at_ : Lean.Expr) : Std.HashMap Lean.Expr Lean.Expr :=
    if s.isAppOf ``Stmt.FunctionDef then
      let e := s.getAppArgs
      ((m.insert e[1]! (.proj ``Prod 0 at_)).insert e[2]! (.proj ``Prod 0 (.proj ``Prod 1 at_))).insert e[6]! (.proj ``Prod 1 (.proj ``Prod 1 at_))
    else m
  let mut i := 0
  for s in p.main.body do
    let e := toExpr s
    m := put m e (mkApp (mkConst ``at1) (mkNatLit i))
    if e.isAppOf ``Stmt.ClassDef then
      let mut l := e.getAppArgs[3]!
      for j in [0:10000] do
        if l.isAppOfArity ``List.cons 3 then
          m := put m l.appFn!.appArg! (mkApp2 (mkConst ``at2) (mkNatLit i) (mkNatLit j))
          l := l.appArg!
    i := i + 1
  return m
/-- the objects: what is not the world's stands where it is read, a dict under its own name -/
def layObjsM (pl : Std.HashMap Lean.Expr Lean.Expr) (old : Array (Obj × Obj × Lean.Expr)) (s s' : Shared) : MetaM (Array (Obj × Obj × Lean.Expr)) := do
  let P := mkConst ``Params
  let tyO ← mkArrow P (mkConst ``Obj)
  unless s.heap.objs.size == s'.heap.objs.size do throwError "layObjsM: the worlds part"
  let mut out := #[]
  for i in [0:s.heap.objs.size] do
    let (o, o') := (s.heap.objs[i]!, s'.heap.objs[i]!)
    match old[i]? with
    | some (a, a', e) => if sameObjNow a o && sameObjNow a' o' then out := out.push (a, a', e); continue
    | none => pure ()
    let v ← withLocalDeclD `P P fun p => do
      let e := objE p o
      unless e == objE p o' do throwError "layObjsM: an object is the world's"
      mkLambdaFVars #[p] (e.replace fun x => pl.get? x)
    out := out.push (o, o', ← if v.bindingBody!.hasLooseBVars then defAt `o tyO v else pure v)
  unless toExpr s.heap.life == toExpr s'.heap.life do throwError "layObjsM: the life is the world's"
  return out
def treeM (p : Lean.Expr) (os : Array Lean.Expr) : Nat → Nat → Nat → Lean.Expr
  | 0, _, _ => mkConst ``BT.nil
  | n + 1, a, b => match os[b]? with
    | some o => mkApp3 (mkConst ``BT.node) (mkApp o p).headBeta (treeM p os n (2 * a) (a + b)) (treeM p os n (2 * a) (2 * a + b))
    | none => mkConst ``BT.nil
def stateM (pl : Std.HashMap Lean.Expr Lean.Expr) (tree : Bool) (old : Array (Obj × Obj × Lean.Expr)) (s s' : Shared) : MetaM (Array (Obj × Obj × Lean.Expr) × PySem.W.State) := do
  let out ← layObjsM pl old s s'
  unless toExpr s.drawn == toExpr s'.drawn && s.toks == s'.toks do throwError "stateM: the worlds part"
  let P := mkConst ``Params
  let life := toExpr s.heap.life
  let os := out.map (·.2.2)
  if tree then
    let v ← withLocalDeclD `P P fun p => mkLambdaFVars #[p] (treeM p os 64 1 0)
    let t ← defAt `tree (← mkArrow P (mkConst ``BT)) v
    return (out, { heap := default, gens := ← gensE s s', drawn := toExpr s.drawn, toks := mkRawNatLit s.toks, tree := some (t, mkRawNatLit s.heap.objs.size, life) })
  else
    let v ← withLocalDeclD `P P fun p => do
      let l := listE (mkConst ``Obj) (os.toList.map fun e => (mkApp e p).headBeta)
      mkLambdaFVars #[p] (mkApp2 (mkConst ``Heap.mk) (mkApp2 (mkConst ``Array.mk [0]) (mkConst ``Obj) l) life)
    let h ← defAt `heap (← mkArrow P (mkConst ``Heap)) v
    return (out, ⟨h, ← gensE s s', toExpr s.drawn, mkRawNatLit s.toks, none⟩)

/-- an equation of functions, shown in two steps: both sides as functions of the rest -/
def runM (rows : List String) (lhs rhs : Lean.Expr → Lean.Expr → MetaM Lean.Expr) : MetaM Lean.Expr := byPiece rows lhs rhs

abbrev Ctx1 := Lean.Expr × Lean.Expr × Lean.Expr × Lean.Expr

def Ctx1.run (c : Ctx1) (f : Name) (w : Lean.Expr) (extra : Array Lean.Expr) (n s th : Lean.Expr) : Lean.Expr := mkAppN (mkConst f) (#[c.1, c.2.1, w, c.2.2.1, c.2.2.2] ++ extra ++ #[n, s, th])

/-- what stands over all worlds -/
def forW (k : Lean.Expr → MetaM (Lean.Expr × Lean.Expr)) : MetaM (Lean.Expr × Lean.Expr) := withLocalDeclD `w (mkConst ``World) fun w => do
  let (ty, pf) ← k w
  return (← mkForallFVars #[w] ty, ← mkLambdaFVars #[w] pf)
def forWO (k : Lean.Expr → Lean.Expr → MetaM (Lean.Expr × Lean.Expr)) : MetaM (Lean.Expr × Lean.Expr) := withLocalDeclD `w (mkConst ``World) fun w => withLocalDeclD `os (mkConst ``OsState) fun os => do
  let (ty, pf) ← k w os
  return (← mkForallFVars #[w, os] ty, ← mkLambdaFVars #[w, os] pf)

/-- the looks at the end, pair by pair -/
def looksM : Nat → Lean.Expr → Lean.Expr → MetaM Lean.Expr
  | fuel, l, r => do
    let W := mkConst ``World
    let whole : MetaM Lean.Expr := do
      let P ← withLocalDeclD `w W fun w => do mkLambdaFVars #[w] (← mkEq (mkApp l w).headBeta (mkApp r w).headBeta)
      let e ← byKernelQuick P []
      withLocalDeclD `w W fun w => withLocalDeclD `os (mkConst ``OsState) fun os => do mkLambdaFVars #[w, os] (← mkAppM ``congrFun #[mkApp e w, os])
    match fuel with
    | 0 => whole
    | n + 1 => do
      let parts ← withLocalDeclD `w W fun w => withLocalDeclD `os (mkConst ``OsState) fun os => do
        let opened (e : Lean.Expr) : MetaM Lean.Expr := do
          let e := (mkApp2 e w os).headBeta
          if e.isAppOfArity ``Prod.mk 4 then return e
          if e.isAppOf ``openSeen || e.isAppOf ``openGood then return (← unfoldDefinition? e).getD e else return e
        let (a, b) := (← opened l, ← opened r)
        if a.isAppOfArity ``Prod.mk 4 && b.isAppOfArity ``Prod.mk 4 then
          let f (e : Lean.Expr) (i : Nat) := mkLambdaFVars #[w, os] e.getAppArgs[i]!
          return some ((← f a 2, ← f a 3), (← f b 2, ← f b 3))
        return none
      match parts with
      | none => whole
      | some ((a1, a2), (b1, b2)) => do
        let x ← looksM n a1 b1
        let y ← looksM n a2 b2
        let (ty, pf) ← forWO fun w os => do
          return (← mkEq (mkApp2 l w os).headBeta (mkApp2 r w os).headBeta, ← mkAppM ``looks_pair #[mkApp2 x w os, mkApp2 y w os])
        auxM ty pf

def leftM (log : Bool) (g : MVarId) (pE : Lean.Expr) (p : Program) : MetaM Unit := g.withContext do
  let t0 ← IO.monoMsNow
  let tick (s : String) : MetaM Unit := do if log then IO.eprintln s!"  {s}: {((← IO.monoMsNow) - t0) / 1000} s"
  let T := (← instantiateMVars (← g.getType)).consumeMData
  unless T.isAppOf ``LeftO do throwError "leftM: no LeftO"
  let a := T.getAppArgs
  let (q, loose, Xt, al, Yf, Ya, NE, g0) := (a[1]!, a[2]!, a[3]!, a[4]!, a[5]!, a[6]!, a[7]!, a[8]!)
  let some N ← (Meta.evalNat NE).run | throwError "leftM: N"
  let (t, t') ← match ← traceTop p N 1, ← traceTop p N 2 with
    | .ok t, .ok t' => pure (t, t')
    | .error m, _ | _, .error m => throwError "leftM: {m}"
  unless t.pieces.length == t'.pieces.length && t.pre.steps == t'.pre.steps && t.block.steps == t'.block.steps && t.fin.steps == t'.fin.steps do throwError "leftM: the worlds part"
  PySem.W.Fast.primed.modify (·.insert (match pE.getAppFn with | .const c _ => c | _ => .mkStr3 "PySem" "Challenge" "pw_nz0433_01") none)
  let rowsOf (x y : Snap) := (x.rows ++ y.rows).eraseDups
  let C : Ctx1 := (mkConst ``treeTable, pE, natE t.s0.heap.objs.size, toExpr t.ann)
  -- the boot
  let main ← mkAppM ``Program.main #[pE]
  let scope ← mkAppM ``Module.scope #[main]
  let names ← mkAppM ``Scope.names #[scope]
  let ope ← mkAppM ``opening #[pE]
  let e1 ← auxM (← mkEq ope (mkApp (mkConst ``plainProg) names)) (← mkEqRefl ope)
  let f1 ← withLocalDeclD `s (mkConst ``Shared) fun s => do
    let r ← mkAppM ``some #[s]
    auxM (← mkForallFVars #[s] (← mkEq (mkApp2 (mkConst ``fenceModules?) pE s) r)) (← mkLambdaFVars #[s] (← mkEqRefl r))
  let le1 ← mkDecideProof (← mkEq (mkApp2 (mkConst ``Nat.ble) (mkRawNatLit 600) NE) (mkConst ``Bool.true))
  let boot := mkAppN (mkConst ``boot_open) #[pE, NE, e1, le1, f1]
  -- the body and its environment
  let bE ← mkAppM ``behindTheImports #[pE]
  let envE ← Term.TermElabM.run' do
    let pS ← Term.exprToSyntax scope
    let cS ← Term.exprToSyntax (toExpr t.code)
    instantiateMVars (← Term.withSynthesize (Term.elabTermEnsuringType (← `(({ scope := $pS, locals := mainNs, globals := mainNs, cells := [], code := $cS, frame := some $(quote t.frame) } : Env))) (mkConst ``Env)))
  let envE ← layM `env (mkConst ``Env) envE
  let qE := toExpr t.framePos
  let cE := mkApp2 (mkConst ``Code.body) bE envE
  let B := listE (mkConst ``Frame) [mkApp (mkConst ``topFrame) qE]
  let o0 := (List.range t.s0.heap.objs.size).toArray.map fun i => (t.s0.heap.objs[i]!, t'.s0.heap.objs[i]!, mkConst ((`PySem.W).str s!"boot_o_{i}"))
  let S0 : PySem.W.State := { heap := mkConst ``boot_heap, gens := mkApp2 (mkConst ``Array.mk [0]) (mkConst ``GenState) (mkApp (mkConst ``List.nil [0]) (mkConst ``GenState)), drawn := mkConst ``boot_drawn, toks := mkConst ``boot_toks }
  let one := natE 1
  let stub := mkApp (mkConst ``topStub) pE
  let some4 (s pos : Lean.Expr) : MetaM Lean.Expr := do mkAppM ``some #[← mkAppM ``Prod.mk #[mkConst ``Flow.next, ← mkAppM ``Prod.mk #[s, ← mkAppM ``Prod.mk #[cE, pos]]]]
  -- up to the body
  let pl ← placesM p
  let (o, Sa) ← stateM pl false o0 t.pre.s t'.pre.s
  let pre ← runM (rowsOf t.pre t'.pre) (fun w os => pure (C.run ``topGo w #[] (natE t.pre.steps) (S0.at w os) stub)) fun w os => do
    mkAppM ``some #[← mkAppM ``Prod.mk #[Sa.at w os, mkApp4 (mkConst ``Thread.mk) (mkApp2 (mkConst ``denote) C.1 cE) cE (toExpr t.pre.pos) B]]
  let (o, Sb) ← stateM pl true o t.block.s t'.block.s
  noTwin Sb
  let block ← runM (rowsOf t.block t'.block) (fun w os => pure (C.run ``segRun w #[one] (natE t.block.steps.succ) (Sa.at w os) (mkAppN (mkConst ``blockOf) #[bE, envE, cE, toExpr t.pre.pos, B]))) fun w os => some4 (Sb.at w os) (toExpr t.block.pos)
  tick "block"
  -- the statements
  let mut groups : Array (Nat × Snap × Snap) := #[]
  for (x, x') in t.pieces.zip t'.pieces do
    let x := { x with steps := max x.steps x'.steps }
    match groups.back? with
    | some (k, y, y') =>
      if y.steps + x.steps ≤ 500 && (y.rows ++ y'.rows ++ x.rows ++ x'.rows).eraseDups.length ≤ 1 then groups := groups.pop.push (k + 1, { x with steps := y.steps + x.steps, rows := y.rows ++ x.rows }, { x' with rows := y'.rows ++ x'.rows })
      else groups := groups.push (1, x, x')
    | none => groups := groups.push (1, x, x')
  let mut o := o
  let mut S := Sb
  let mut pos := t.block.pos
  let mut idx := 0
  let mut lems : Array (Lean.Expr × PySem.W.State × Pos × PySem.W.State × Snap × Lean.Expr) := #[]
  for (k, x, x') in groups do
    let stE ← layM `sts (mkApp (mkConst ``List [0]) (mkConst ``Stmt)) (← mkAppM ``List.take #[natE k, ← mkAppM ``List.drop #[natE idx, bE]])
    let (o', S') ← stateM pl true o x.s x'.s
    noTwin S'
    let (S1, pos1) := (S, pos)
    let th : Lean.Expr := mkAppN (mkConst ``piecesOf) #[stE, envE, cE, toExpr pos1, B]
    let lem ← liftT (← runM (rowsOf x x') (fun w os => pure (C.run ``segRunT w #[one] (natE x.steps.succ) (S1.atT w os) th)) fun w os => some4 (S'.atT w os) (toExpr x.pos)) ``segRun_of
    lems := lems.push (stE, S1, pos1, S', x, lem)
    o := o'
    S := S'
    pos := x.pos
    idx := idx + k
  tick "statements"
  let (_, Sf) ← stateM pl false o t.fin.s t'.fin.s
  noTwin Sf
  let (Sm, posm) := (S, pos)
  let fin ← runM (rowsOf t.fin t'.fin) (fun w os => pure (C.run ``topRun w #[] (natE t.fin.steps.succ) (Sm.at w os) (mkApp4 (mkConst ``Thread.mk) (mkApp (mkConst ``doneF) (mkConst ``Flow.next)) cE (toExpr posm) B))) fun w os => mkAppM ``some #[Sf.at w os]
  tick "end"
  -- joined
  let add (x y : Lean.Expr) := mkApp2 (mkConst ``Nat.add) x y
  let (runTy, runPf) ← forWO fun w os => do
    let at_ (l : Lean.Expr) : MetaM Lean.Expr := do mkAppM ``congrFun #[mkApp l w, os]
    let r := Sf.at w os
    let common := #[C.1, pE, w, C.2.2.1, C.2.2.2, envE, qE]
    let mut k ← at_ fin
    let mut n := natE t.fin.steps.succ
    let mut rest := listE (mkConst ``Stmt) []
    for (stE, S1, pos1, S', x, lem) in lems.toList.reverse do
      k := mkAppN (mkConst ``piece_app) (common ++ #[natE x.steps.succ, n, S1.at w os, S'.at w os, r, stE, rest, cE, toExpr pos1, toExpr x.pos, ← at_ lem, k])
      n := add (natE x.steps.succ) n
      rest ← mkAppM ``HAppend.hAppend #[stE, rest]
    k := mkAppN (mkConst ``piece_block) (common ++ #[natE t.block.steps.succ, n, Sa.at w os, Sb.at w os, r, bE, cE, toExpr t.pre.pos, toExpr t.block.pos, ← at_ block, k])
    n := add (natE t.block.steps.succ) n
    k := mkAppN (mkConst ``go_top) (#[C.1, pE, w, C.2.2.1, C.2.2.2, natE t.pre.steps, n, S0.at w os, Sa.at w os, r, stub, mkApp4 (mkConst ``Thread.mk) (mkApp2 (mkConst ``denote) C.1 cE) cE (toExpr t.pre.pos) B, ← at_ pre, k])
    n := add (natE t.pre.steps) n
    return (← mkEq (C.run ``topRun w #[] n (S0.at w os) stub) (← mkAppM ``some #[r]), k)
  let run ← auxM runTy runPf
  tick "joined"
  let Mall := lems.toList.foldr (fun (x : Lean.Expr × PySem.W.State × Pos × PySem.W.State × Snap × Lean.Expr) n => add (natE x.2.2.2.2.1.steps.succ) n) (natE t.fin.steps.succ)
  let Mall := add (natE t.pre.steps) (add (natE t.block.steps.succ) Mall)
  let e := mkConst ``LeftO.of_pieces
  let (ms, _, _) ← forallMetaTelescope (← inferType e)
  let vals := #[pE, q, loose, Xt, al, Yf, Ya, NE, g0, S0.heap, Sf.heap, S0.gens, Sf.gens, S0.drawn, Sf.drawn, S0.toks, Sf.toks, C.2.2.1, C.2.2.2, Mall]
  for (m, v) in ms.zip vals do m.mvarId!.assign v
  let asP (ty : Lean.Expr) : MetaM Lean.Expr := do
    let .forallE n d b bi := ty | throwError "leftM: a look"
    pure (.lam n d b bi)
  let size ← byKernelQuick (← asP (← instantiateMVars (← inferType ms[21]!))) []
  let .forallE _ _ bd _ ← instantiateMVars (← inferType ms[24]!) | throwError "leftM: a look"
  let (l, r) ← withLocalDeclD `w (mkConst ``World) fun w => do
    let some (_, l, r) := (bd.instantiate1 w).eq? | throwError "leftM: a look"
    pure (← mkLambdaFVars #[w] l, ← mkLambdaFVars #[w] r)
  let h ← looksM 12 l r
  let looks ← withLocalDeclD `w (mkConst ``World) fun w => do
    let f ← withLocalDeclD `os (mkConst ``OsState) fun os => do mkLambdaFVars #[os] (mkApp2 h w os)
    mkLambdaFVars #[w] (← mkAppM ``funext #[f])
  tick "looks"
  let le ← mkDecideProof (← instantiateMVars (← inferType ms[23]!))
  g.assign (mkAppN e (vals ++ #[boot, size, run, le, looks]))
end Mine
end

section
open PySem PySem.W PySem.Calls PyProof.Rows
open Lean Elab Tactic Meta
set_option maxRecDepth 100000
namespace Mine

/-- the head: one statement of the text kept (the law's own), all else loose -/
def headM (log : Bool) : TacticM Unit := withMainContext do
  let t0 ← IO.monoMsNow
  let tick (s : String) : TacticM Unit := do if log then IO.eprintln s!"{s}: {((← IO.monoMsNow) - t0) / 1000} s"
  let ty ← whnfR (← instantiateMVars (← getMainTarget))
  let r ← mkAppM ``OpenRow.toRowW #[ty.appArg!]
  let pE ← whnfR (← mkAppM ``RowW.prog #[r])
  let prog ← progOf pE
  let c ← match ← openProbe prog with
    | .error m => throwError "the head falls: {m}"
    | .ok c => pure c
  tick "probe"
  let lawAt := prog.main.body.length - 1
  let keep := [lawAt]
  let held := bindsAtTop (prog.main.body.getD lawAt default)
  let dropped := (c.keep.filter (· != lawAt)).flatMap fun i => bindsAtTop (prog.main.body.getD i default)
  let loose := (c.loose ++ dropped).eraseDups.filter fun k => !held.contains k
  if log then IO.eprintln s!"kept before: {c.keep.length}; loose now {loose.length}; steps {c.steps}; gens {c.gens}; rows {c.rows0} {c.rows}"
  let main ← whnfD (← mkAppM ``Program.main #[pE])
  let some cells ← cellsD? (← mkAppM ``Module.body #[main]) | throwError "the text's body"
  let body ← mkListLit (mkConst ``Stmt) (keep.filterMap fun i => cells[i]?)
  let bS ← Term.exprToSyntax body
  let pS ← Term.exprToSyntax pE
  let qV ← instantiateMVars (← Term.elabTerm (← `(({ $pS with main := { ($pS).main with body := $bS } } : Program))) none)
  let q ← mkAuxDefinition (← mkAuxDeclName `view) (mkConst ``Program) qV (compile := false)
  PySem.W.Fast.primed.modify (·.insert q.getAppFn.constName! none)
  PySem.W.Fast.primed.modify (·.insert (match pE.getAppFn with | .const c _ => c | _ => .mkStr3 "PySem" "Challenge" "pw_nz0433_01") none)
  -- the names as their points, under one constant without a twin: else each look goes under each of them
  let raw (x : PySem.Str) : MetaM Lean.Expr := do mkAppM ``PySem.Str.mk #[← mkAppM ``Array.mk #[← mkListLit (mkConst ``Nat) (x.toString.toList.map fun c => mkRawNatLit c.toNat)]]
  let looseE ← mkAuxDefinition (← mkAuxDeclName `loose) (mkApp (mkConst ``List [0]) (mkConst ``PySem.Str)) (← mkListLit (mkConst ``PySem.Str) (← loose.mapM fun x => raw x)) (compile := false)
  PySem.W.Fast.primed.modify (·.insert looseE.getAppFn.constName! none)
  let (qS, lS) := (← Term.exprToSyntax q, ← Term.exprToSyntax looseE)
  let nS := Syntax.mkNumLit (toString (2 * c.steps + 100))
  let (hl, hw, hc) := (mkIdent `hl, mkIdent `hw, mkIdent `hc)
  withoutRecover (evalTactic (← `(tactic| refine holds_M (q := $qS) (loose := $lS) (Xt := fun _ => true) (XP := fun _ _ => True) (Yf := Hook.obs hookK) (Ya := Hook.val hookK) (YP := Hook.says hookK) (N := $nS) ?$hl (Hook.of hookK) (Hook.keeps hookK) (fun _ _ => trivial) (fun _ _ _ _ _ => trivial) (by rfl) (by rfl) (by rfl) (fun _ _ => recFacts_nil rfl) (by rfl) (by first | assumption | decide +kernel) (by decide +kernel) ⟨rfl, rfl, rfl, rfl, rfl, by decide +kernel⟩ ?$hw ?$hc)))
  tick "refined"
  let mut rest := []
  for g in ← getGoals do
    if (← g.getTag).eraseMacroScopes == `hl then
      leftM log g pE prog
      tick "pieces"
    else rest := rest ++ [← g.tryClearMany ((← getLCtx).getFVarIds)]
  setGoals rest
/-- the code of this file's own tactics is not kept -/
def dropCode : TacticM Unit := do
  let drop := ["Lean.IR.declMapExt", "Lean.Compiler.LCNF.baseExt", "Lean.Compiler.LCNF.monoExt", "Lean.Compiler.LCNF.impureSigExt", "Lean.Compiler.LCNF.UnreachableBranches.functionSummariesExt", "_private.Lean.Compiler.LCNF.Specialize.0.Lean.Compiler.LCNF.Specialize.specCacheExt", "Lean.Compiler.LCNF.specExtension", "Lean.Elab.Structural.eqnInfoExt"]
  let env0 ← mkEmptyEnvironment
  for e in ← persistentEnvExtensionsRef.get do
    if drop.contains e.name.toString then
      let s0 := e.toEnvExtension.getState (asyncMode := .local) env0
      modifyEnv fun env => e.toEnvExtension.modifyState (asyncMode := .sync) env fun s => { s with state := s0.state }
end Mine
end

open PySem PySem.W PySem.Calls PyProof.Rows
set_option maxRecDepth 100000 in
set_option maxHeartbeats 8000000 in
theorem PySem.Challenge.cw_nz0433_01_holds : PySem.Challenge.rw_nz0433_01.Holds := by
  run_tac PySem.W.Fast.primed.modify (·.insert ``PySem.Challenge.pw_nz0433_01 none)
  run_tac (do for (n, _) in (← Lean.getEnv).constants.map₂.toList do PySem.W.Fast.primed.modify (·.insert n none))
  w_on; o_law
  run_tac Mine.headM false
  case hw => w_witness2
  exact Mine.walk_law
  run_tac Mine.dropCode
