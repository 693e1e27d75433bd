import PyProof.Rows.All
import Wide.All
import OpenK.AllK
import Wide.FinOn
import PyProof.ExcClass3
import PyProof.InstStoreFacts
import OpenK.KMore
import PyProof.MaxThree
import KE.KIntText
import PySem.Challenge.RW_pf0118_01
set_option Elab.async false
set_option maxRecDepth 100000
set_option linter.all false
section
namespace Mine
/-- how many figures -/
def dg (n : Nat) : Nat := if h : n = 0 then 0 else dg (n / 10) + 1
decreasing_by omega
theorem dg_zero : dg 0 = 0 := by unfold dg; simp
theorem dg_succ {n : Nat} (h : n ≠ 0) : dg n = dg (n / 10) + 1 := by rw [dg]; simp [h]
theorem dg_step {n k : Nat} (h : 10 * k ≤ n) (h0 : 0 < k) : dg (n / k) = dg (n / (k * 10)) + 1 := by
  rw [dg_succ (Nat.ne_of_gt (Nat.div_pos (Nat.le_trans (Nat.le_mul_of_pos_left k (by decide)) h) h0)), Nat.div_div_eq_div_mul]
theorem dg_nine {n : Nat} (h : 1000000000 ≤ n) : dg n = dg (n / 1000000000) + 9 := by
  have e : ∀ k, 10 * k ≤ 1000000000 → 10 * k ≤ n := fun k q => Nat.le_trans q h
  have e0 := dg_step (n := n) (k := 1) (e _ (by decide)) (by decide)
  rw [Nat.div_one] at e0
  rw [e0, dg_step (e _ (by decide)) (by decide), dg_step (e _ (by decide)) (by decide), dg_step (e _ (by decide)) (by decide), dg_step (e _ (by decide)) (by decide),
    dg_step (e _ (by decide)) (by decide), dg_step (e _ (by decide)) (by decide), dg_step (e _ (by decide)) (by decide), dg_step (e _ (by decide)) (by decide)]
abbrev Rl := Int × Int
abbrev Cx := Rl × Rl
def stripW (m e : Int) : Rl := if h : m ≠ 0 ∧ m % 10 = 0 then stripW (m / 10) (e + 1) else (m, e)
termination_by m.natAbs
decreasing_by omega
def strip (m e : Int) : Rl := if m = 0 then (0, 0) else stripW m e
def roundUp (a p : Int) : Int := if 2 * (a % p) > p ∨ (2 * (a % p) = p ∧ a / p % 2 = 1) then a / p + 1 else a / p
def roundDigits (m e d : Int) : Rl :=
  if dg m.natAbs - d > 0 then
    let k := roundUp m.natAbs (10 ^ (dg m.natAbs - d).toNat)
    strip (if m > 0 then k else -k) (e + (dg m.natAbs - d))
  else strip m e
def roundReal (m e d t : Int) : Option Rl :=
  let x := roundDigits m e d
  if x.1 = 0 ∨ x.2 + dg x.1.natAbs - 1 < -t then some (0, 0) else if x.2 + dg x.1.natAbs - 1 > t then none else some x
def exactAdd (x y : Rl) : Rl :=
  if x.1 = 0 then y else if y.1 = 0 then x else (x.1 * 10 ^ (x.2 - min x.2 y.2).toNat + y.1 * 10 ^ (y.2 - min x.2 y.2).toNat, min x.2 y.2)
def exactMul (x y : Rl) : Rl := (x.1 * y.1, x.2 + y.2)
def realNeg (x : Rl) : Rl := (-x.1, x.2)
def qShift (over under d : Int) : Int := max (d + 2 + dg under.natAbs - dg over.natAbs) 0
def quot (over under e d : Int) : Rl :=
  let a : Int := over.natAbs * 10 ^ (qShift over under d).toNat
  let m := 10 * (a / under.natAbs) + (if a % under.natAbs ≠ 0 then 1 else 0)
  ((if decide (over < 0) != decide (under < 0) then -m else m), e - qShift over under d - 1)
def roundParts (z : Cx) (d t : Int) : Option Cx := (roundReal z.1.1 z.1.2 d t).bind fun x => (roundReal z.2.1 z.2.2 d t).map fun y => (x, y)
def exactProduct (x y : Cx) : Cx :=
  (exactAdd (exactMul x.1 y.1) (realNeg (exactMul x.2 y.2)), exactAdd (exactMul x.1 y.2) (exactMul x.2 y.1))
def sizeOf2 (y : Cx) : Rl := exactAdd (exactMul y.1 y.1) (exactMul y.2 y.2)
def complexDiv (x y : Cx) (d t : Int) : Option Cx :=
  let s := sizeOf2 y
  if s.1 = 0 then none else
  let w := exactProduct x (y.1, realNeg y.2)
  roundParts (quot w.1.1 s.1 (w.1.2 - s.2) d, quot w.2.1 s.1 (w.2.2 - s.2) d) d t
def guardedProduct (x y : Cx) (d : Int) : Cx :=
  let f := exactProduct x y
  (roundDigits f.1.1 f.1.2 (d + 8), roundDigits f.2.1 f.2.2 (d + 8))
/-- the turns of the powering -/
def raisedW (d : Int) (found x : Cx) (n : Nat) : Cx := if h : n = 0 then found else
  raisedW d (if n % 2 = 1 then guardedProduct found x d else found) (guardedProduct x x d) (n / 2)
decreasing_by omega
def one : Cx := ((1, 0), (0, 0))
def raised (x : Cx) (n : Nat) (d : Int) : Cx := raisedW d one x n
def complexPower (x : Cx) (n d t : Int) : Option Cx :=
  if n < 0 then complexDiv one (raised x n.natAbs d) d t else roundParts (raised x n.natAbs d) d t
end Mine
end
section
namespace Mine
def lawAt (ns : List Int) (p : Nat) : Int := match ns[p]? with
  | some v => v % 10 ^ 9
  | none => 7 * p + 2
def lawLead (num den : Int) : Int :=
  let l : Int := dg num.natAbs - dg den.natAbs
  if (num.natAbs : Int) * 10 ^ (max 0 (-l)).toNat < den * 10 ^ (max 0 l).toNat then l - 1 else l
def lawNearby (size den d : Int) : Int := lawLead size den - d - 4
def lawUnit (num den size d : Int) : Int := if num ≠ 0 then lawLead num den - d + 1 else lawNearby size den d
def lawLow (p : Rl) (num den size d : Int) : Int := min (min (min p.2 (lawNearby size den d)) (lawUnit num den size d)) 0
def LawNear (p : Rl) (num den size d : Int) : Prop :=
  ((p.1 * 10 ^ (p.2 - lawLow p num den size d).toNat * den - num * 10 ^ (-lawLow p num den size d).toNat).natAbs : Int) ≤
    den * (10 ^ (lawNearby size den d - lawLow p num den size d).toNat + if num ≠ 0 then 10 ^ (lawUnit num den size d - lawLow p num den size d).toNat else 0)
def lawNearB (p : Rl) (num den size d : Int) : Bool :=
  decide (((p.1 * 10 ^ (p.2 - lawLow p num den size d).toNat * den - num * 10 ^ (-lawLow p num den size d).toNat).natAbs : Int) ≤
    den * (10 ^ (lawNearby size den d - lawLow p num den size d).toNat + if num ≠ 0 then 10 ^ (lawUnit num den size d - lawLow p num den size d).toNat else 0))
theorem lawNearB_of {p : Rl} {num den size d : Int} (h : LawNear p num den size d) : lawNearB p num den size d = true := decide_eq_true h
def lawPower (a b : Int) : Nat → Rl
  | 0 => (1, 0)
  | n + 1 => ((lawPower a b n).1 * a - (lawPower a b n).2 * b, (lawPower a b n).1 * b + (lawPower a b n).2 * a)
end Mine
namespace Mine
theorem strip_zero (m e : Int) : (stripW m e).1 = 0 ↔ m = 0 := by
  induction m, e using stripW.induct with
  | case1 m e h ih =>
    rw [stripW, dif_pos h, ih]
    omega
  | case2 m e h => rw [stripW, dif_neg h]
end Mine
namespace Mine
def lawPartB (p : Rl) (num den size d t : Int) : Bool := decide (p = (0, 0) ∧ (num = 0 ∨ lawLead num den < -t)) || lawNearB p num den size d
theorem lawLead_le {num den : Int} {k : Nat} (h1 : dg num.natAbs ≤ k) (h2 : dg den.natAbs ≤ k) : -(k + 1 : Int) ≤ lawLead num den ∧ lawLead num den ≤ k := by
  unfold lawLead
  dsimp only
  split <;> omega
end Mine
namespace Mine
structure Par where
  d : Int
  t : Int
  n : Int
  p : Int
  a : Int
  b : Int
def parOf (ns : List Int) : Par :=
  let d := 1 + lawAt ns 0 % 7
  let n0 := 17 + lawAt ns 2 % 48
  let p := d - 1
  let a0 := lawAt ns 3 % (4 * 10 ^ p.toNat - 1) - (2 * 10 ^ p.toNat - 1)
  let b0 := lawAt ns 4 % (4 * 10 ^ p.toNat - 1) - (2 * 10 ^ p.toNat - 1)
  let way := lawAt ns 5 % 8
  let a := if way = 1 then 0 else a0
  { d := d, t := 10 + lawAt ns 1 % 40, n := if lawAt ns 2 / 48 % 2 = 0 then n0 else -n0, p := p, a := a, b := if way = 2 then 0 else if way = 3 then a else b0 }
def Par.x (q : Par) : Cx := (strip q.a (-q.p), strip q.b (-q.p))
def Par.got (q : Par) : Option Cx := complexPower q.x q.n q.d q.t
def Par.xy (q : Par) : Rl := lawPower q.a q.b q.n.natAbs
def Par.ten (q : Par) : Int := 10 ^ (q.p * q.n.natAbs).toNat
def Par.P0 (q : Par) : Int := if q.n > 0 then q.xy.1 else q.xy.1 * q.ten
def Par.P1 (q : Par) : Int := if q.n > 0 then q.xy.2 else -q.xy.2 * q.ten
def Par.den (q : Par) : Int := if q.n > 0 then q.ten else q.xy.1 * q.xy.1 + q.xy.2 * q.xy.2
def Par.parts (q : Par) : List Int := [q.P0, q.P1]
def Par.leads (q : Par) : List Int := (q.parts.filter fun v => decide (v ≠ 0)).map fun v => lawLead v q.den
def Par.edge (q : Par) : List Int := q.leads.filter fun l => decide (q.t - 1 ≤ (l.natAbs : Int)) && decide ((l.natAbs : Int) ≤ q.t + 1)
def Par.over (q : Par) : List Int := q.leads.filter fun l => decide (l > q.t)
def Par.size (q : Par) : Int := q.P0.natAbs + q.P1.natAbs
def units : List (Cx × List Rl) :=
  [(((1, 0), (0, 0)), [(1, 0), (1, 0), (1, 0), (1, 0)]), (((-1, 0), (0, 0)), [(1, 0), (-1, 0), (1, 0), (-1, 0)]), (((0, 0), (1, 0)), [(1, 0), (0, 1), (-1, 0), (0, -1)])]
end Mine
end
section
open PySem PySem.W PySem.Spec PySem.Calls PyProof.Rows
set_option maxRecDepth 100000
namespace Mine

/-- plain data -/
inductive D where
  | none
  | bool (b : Bool)
  | int (i : Int)
  | str (x : Str)
  | tup (ds : List D)
  | lst (ds : List D)
  | lim (d t : Int)

def limObj (dx : Addr) : Obj := { cls := .ref 201, dict := some dx }

mutual
inductive DIn (X : Addr → Prop) (h : Heap) : Value → D → Prop
  | none : DIn X h Value.none D.none
  | bool (b : Bool) : DIn X h (Value.bool b) (D.bool b)
  | int (i : Int) (t : Tok) : DIn X h (Value.int i t) (D.int i)
  | str (x : Str) (t : Tok) : DIn X h (Value.str x t) (D.str x)
  | tup {a : Addr} {vs : List Value} {ds : List D} : ¬ X a → IsTup h a vs.toArray → DAll X h vs ds → DIn X h (Value.ref a) (D.tup ds)
  | lst {a : Addr} {vs : List Value} {ds : List D} : ¬ X a → h.IsList a vs.toArray → DAll X h vs ds → DIn X h (Value.ref a) (D.lst ds)
  | lim {a dx : Addr} {d t : Int} {m : Str → Option Value} {u v : Tok} : ¬ X a → ¬ X dx → h.get? a = some (limObj dx) → h.Ns dx m → m (Str.ofString "real_digits") = some (Value.int d u) → m (Str.ofString "top_exponent") = some (Value.int t v) →
      DIn X h (Value.ref a) (D.lim d t)
inductive DAll (X : Addr → Prop) (h : Heap) : List Value → List D → Prop
  | nil : DAll X h [] []
  | cons {v : Value} {vs : List Value} {d : D} {ds : List D} : DIn X h v d → DAll X h vs ds → DAll X h (v :: vs) (d :: ds)
end

/-- what stays: all but the owned objects wholly, the owned ones up to slots -/
def Gr (X : Addr → Prop) (h h' : Heap) : Prop := ∀ b o, h.get? b = some o → (¬ X b → h'.get? b = some o) ∧ (X b → ∃ sl, h'.get? b = some { o with slots := sl })

theorem Gr.refl (X : Addr → Prop) (h : Heap) : Gr X h h := fun _ o e => ⟨fun _ => e, fun _ => ⟨o.slots, e⟩⟩
theorem Gr.trans {X : Addr → Prop} {h₁ h₂ h₃ : Heap} (x : Gr X h₁ h₂) (y : Gr X h₂ h₃) : Gr X h₁ h₃ := fun b o e =>
  ⟨fun n => ((y b o ((x b o e).1 n)).1 n), fun n => by
    obtain ⟨sl, e₁⟩ := (x b o e).2 n
    exact (y b _ e₁).2 n⟩
theorem Gr.of_keeps {X : Addr → Prop} {h h' : Heap} (k : ∀ b o, h.get? b = some o → h'.get? b = some o) : Gr X h h' := fun b o e => ⟨fun _ => k b o e, fun _ => ⟨o.slots, k b o e⟩⟩
theorem Gr.push {X : Addr → Prop} (h : Heap) (o : Obj) : Gr X h (h.push o) := Gr.of_keeps fun _ _ e => Heap.get?_push_of_some _ e
open Classical in
theorem Gr.any {X : Addr → Prop} {h h' : Heap} (g : Gr X h h') {b : Addr} {o : Obj} (e : h.get? b = some o) : ∃ sl, h'.get? b = some { o with slots := sl } :=
  if n : X b then (g b o e).2 n else ⟨o.slots, (g b o e).1 n⟩
theorem Gr.ns {X : Addr → Prop} {h h' : Heap} (g : Gr X h h') {a : Addr} {m : Str → Option Value} (hn : h.Ns a m) : h'.Ns a m := by
  obtain ⟨o, es, ep, ho, hd, r⟩ := hn
  obtain ⟨sl, hs⟩ := g.any ho
  exact ⟨_, es, ep, hs, hd, r⟩
theorem Gr.cell {X : Addr → Prop} {h h' : Heap} (g : Gr X h h') {c : Addr} {v : Option Value} (hc : h.IsCell c v) : h'.IsCell c v := by
  obtain ⟨o, ho, hd⟩ := hc
  obtain ⟨sl, hs⟩ := g.any ho
  exact ⟨_, hs, hd⟩
theorem Gr.weaken {X Y : Addr → Prop} {h h' : Heap} (g : Gr Y h h') (s : ∀ b, X b → Y b) (n : ∀ b o, h.get? b = some o → Y b → X b) : Gr X h h' := fun b o e =>
  ⟨fun q => (g b o e).1 fun y => q (n b o e y), fun q => (g b o e).2 (s b q)⟩

/-- data stay where all unowned objects stay -/
theorem dmono {X : Addr → Prop} {h h' : Heap} (k : ∀ b o, ¬ X b → h.get? b = some o → h'.get? b = some o) :
    (∀ {v d}, DIn X h v d → DIn X h' v d) ∧ (∀ {vs ds}, DAll X h vs ds → DAll X h' vs ds) := by
  have key : ∀ n : Nat, True := fun _ => trivial
  refine ⟨fun {v d} x => ?_, fun {vs ds} x => ?_⟩
  · exact DIn.rec (motive_1 := fun v d _ => DIn X h' v d) (motive_2 := fun vs ds _ => DAll X h' vs ds)
      .none (fun b => .bool b) (fun i t => .int i t) (fun x t => .str x t)
      (fun hx ht _ ih => .tup hx (let ⟨o, ho, r⟩ := ht; ⟨o, k _ _ hx ho, r⟩) ih)
      (fun hx ht _ ih => .lst hx (let ⟨o, ho, r⟩ := ht; ⟨o, k _ _ hx ho, r⟩) ih)
      (fun hx hy ho hn e1 e2 => .lim hx hy (k _ _ hx ho) (let ⟨o, es, ep, ho, r⟩ := hn; ⟨o, es, ep, k _ _ hy ho, r⟩) e1 e2)
      .nil (fun _ _ i1 i2 => .cons i1 i2) x
  · exact DAll.rec (motive_1 := fun v d _ => DIn X h' v d) (motive_2 := fun vs ds _ => DAll X h' vs ds)
      .none (fun b => .bool b) (fun i t => .int i t) (fun x t => .str x t)
      (fun hx ht _ ih => .tup hx (let ⟨o, ho, r⟩ := ht; ⟨o, k _ _ hx ho, r⟩) ih)
      (fun hx ht _ ih => .lst hx (let ⟨o, ho, r⟩ := ht; ⟨o, k _ _ hx ho, r⟩) ih)
      (fun hx hy ho hn e1 e2 => .lim hx hy (k _ _ hx ho) (let ⟨o, es, ep, ho, r⟩ := hn; ⟨o, es, ep, k _ _ hy ho, r⟩) e1 e2)
      .nil (fun _ _ i1 i2 => .cons i1 i2) x
theorem DIn.mono {X : Addr → Prop} {h h' : Heap} {v : Value} {d : D} (x : DIn X h v d) (k : ∀ b o, ¬ X b → h.get? b = some o → h'.get? b = some o) : DIn X h' v d := (dmono k).1 x
theorem DAll.mono {X : Addr → Prop} {h h' : Heap} {vs : List Value} {ds : List D} (x : DAll X h vs ds) (k : ∀ b o, ¬ X b → h.get? b = some o → h'.get? b = some o) : DAll X h' vs ds := (dmono k).2 x
theorem DIn.gr {X : Addr → Prop} {h h' : Heap} {v : Value} {d : D} (x : DIn X h v d) (g : Gr X h h') : DIn X h' v d := x.mono fun b o n e => (g b o e).1 n
theorem DAll.gr {X : Addr → Prop} {h h' : Heap} {vs : List Value} {ds : List D} (x : DAll X h vs ds) (g : Gr X h h') : DAll X h' vs ds := x.mono fun b o n e => (g b o e).1 n

/-- the owned set may grow by what the heap does not hold yet, and may shrink -/
theorem dset {X Y : Addr → Prop} {h : Heap} (k : ∀ b o, h.get? b = some o → ¬ X b → ¬ Y b) :
    (∀ {v d}, DIn X h v d → DIn Y h v d) ∧ (∀ {vs ds}, DAll X h vs ds → DAll Y h vs ds) := by
  refine ⟨fun {v d} x => ?_, fun {vs ds} x => ?_⟩
  · exact DIn.rec (motive_1 := fun v d _ => DIn Y h v d) (motive_2 := fun vs ds _ => DAll Y h vs ds)
      .none (fun b => .bool b) (fun i t => .int i t) (fun x t => .str x t)
      (fun hx ht _ ih => .tup (let ⟨_, ho, _⟩ := ht; k _ _ ho hx) ht ih)
      (fun hx ht _ ih => .lst (let ⟨_, ho, _⟩ := ht; k _ _ ho hx) ht ih)
      (fun hx hy ho hn e1 e2 => .lim (k _ _ ho hx) (let ⟨_, _, _, ho, _⟩ := hn; k _ _ ho hy) ho hn e1 e2)
      .nil (fun _ _ i1 i2 => .cons i1 i2) x
  · exact DAll.rec (motive_1 := fun v d _ => DIn Y h v d) (motive_2 := fun vs ds _ => DAll Y h vs ds)
      .none (fun b => .bool b) (fun i t => .int i t) (fun x t => .str x t)
      (fun hx ht _ ih => .tup (let ⟨_, ho, _⟩ := ht; k _ _ ho hx) ht ih)
      (fun hx ht _ ih => .lst (let ⟨_, ho, _⟩ := ht; k _ _ ho hx) ht ih)
      (fun hx hy ho hn e1 e2 => .lim (k _ _ ho hx) (let ⟨_, _, _, ho, _⟩ := hn; k _ _ ho hy) ho hn e1 e2)
      .nil (fun _ _ i1 i2 => .cons i1 i2) x

/-- the world, fixed -/
structure Wd where
  prog : Program
  w : World
  K : Frag
  p : Program
  loose : List Str
  mg : Str → Option Value
  mb : Str → Option Value
  base : Heap
  hK : K.In base
  T : TopRead p loose mg mb base
  nd : base.NoDigits
abbrev Md (W : Wd) : Model := model W.prog W.w

/-- the frames' stack at a place -/
structure Run (W : Wd) (X : Addr → Prop) (A : Around) (k : Nat) (h : Heap) : Prop where
  hh : A.handled = none
  hd : A.depth + k < recursionLimit
  hu : A.units + 64 * k < cLine
  frames : ∃ envs, A.frames = some envs ∧ h.FunFrames W.base envs ∧ ∀ b ∈ envs.filterMap (·.frame), X b
  stay : W.base.StaysIn h
  own : ∀ a, X a → ∃ o, h.get? a = some o ∧ ∀ vs, o.data ≠ .fields vs
  off : ∀ a, X a → W.base.get? a = none

theorem Run.mono {W : Wd} {X : Addr → Prop} {A : Around} {k k' : Nat} {h : Heap} (r : Run W X A k h) (hk : k' ≤ k) : Run W X A k' h :=
  ⟨r.hh, by have := r.hd; omega, by have := r.hu; omega, r.frames, r.stay, r.own, r.off⟩
theorem Run.gr {W : Wd} {X : Addr → Prop} {A : Around} {k : Nat} {h h' : Heap} (r : Run W X A k h) (g : Gr X h h') : Run W X A k h' := by
  refine ⟨r.hh, r.hd, r.hu, ?_, fun b o e => (g b o (r.stay b o e)).1 fun x => by (have := r.off b x; rw [e] at this; cases this), fun a x => ?_, r.off⟩
  · obtain ⟨envs, h1, h2, h3⟩ := r.frames
    exact ⟨envs, h1, h2.of_keeps fun b o e _ => let ⟨sl, es⟩ := g.any e; ⟨_, es, rfl⟩, h3⟩
  · obtain ⟨o, ho, hd⟩ := r.own a x
    obtain ⟨sl, hs⟩ := g.any ho
    exact ⟨_, hs, hd⟩
theorem Run.in1 {W : Wd} {X : Addr → Prop} {A : Around} {k k' : Nat} {h : Heap} (r : Run W X A k h) (hk : k' < k) : Run W X A.in1 k' h :=
  ⟨r.hh, by have := r.hd; simp only [Around.in1_depth]; omega, by have := r.hu; simp only [Around.in1_units]; omega, r.frames, r.stay, r.own, r.off⟩

/-- the class RunFault stands at 44 -/
abbrev RF : Addr := 44
/-- an exception RunFault in flight, its traceback laid, above the frames -/
def Rz (W : Wd) (X : Addr → Prop) (A : Around) (h : Heap) (e : Addr) (h' : Heap) : Prop :=
  Gr X h h' ∧ ∃ B envs a0, A.frames = some envs ∧ W.base.StaysIn B ∧ (∀ b o, h.get? b = some o → ¬ X b → B.get? b = some o) ∧ Heap.FlyingW B envs e (.ref RF) a0 h'
theorem Rz.pre {W : Wd} {X : Addr → Prop} {A : Around} {h₀ h h' : Heap} {e : Addr} (g : Gr X h₀ h) (r : Rz W X A h e h') : Rz W X A h₀ e h' := by
  obtain ⟨g', B, envs, a0, h1, h2, h3, h4⟩ := r
  exact ⟨g.trans g', B, envs, a0, h1, h2, fun b o e n => h3 b o ((g b o e).1 n) n, h4⟩

/-- what an expression or a call gives -/
inductive R where
  | ok (d : D)
  | raise

def Post (W : Wd) (X : Addr → Prop) (A : Around) (s : Shared) (r : R) (Q E : Value → Shared → Prop) : Prop := match r with
  | .ok d => ∀ v h' tk, Gr X s.heap h' → DIn X h' v d → Q v { s with heap := h', toks := tk }
  | .raise => ∀ e h' tk, Rz W X A s.heap e h' → E (.ref e) { s with heap := h', toks := tk }
theorem Post.pre {W : Wd} {X : Addr → Prop} {A : Around} {s : Shared} {r : R} {Q E : Value → Shared → Prop} {h : Heap} {tk : Nat} (g : Gr X s.heap h) (p : Post W X A s r Q E) : Post W X A { s with heap := h, toks := tk } r Q E := by
  cases r with
  | ok d => exact fun v h' tk' g' di => p v h' tk' (g.trans g') di
  | raise => exact fun e h' tk' rz => p e h' tk' (rz.pre g)

/-- a call of the value f on the data ds gives r -/
def CallOK (W : Wd) (k : Nat) (f : Value) (ds : List D) (r : R) : Prop :=
  ∀ (X : Addr → Prop) (A : Around) (s : Shared) (vs : List Value) (Q E : Value → Shared → Prop), Run W X A k s.heap → DAll X s.heap vs ds → Post W X A s r Q E → wpAny (Md W) A (call f vs) Q E s
theorem CallOK.mono {W : Wd} {k k' : Nat} {f : Value} {ds : List D} {r : R} (c : CallOK W k f ds r) (hk : k ≤ k') : CallOK W k' f ds r :=
  fun X A s vs Q E rn da p => c X A s vs Q E (rn.mono hk) da p

end Mine
end
section
open PySem PySem.W PySem.Spec PySem.Calls PyProof.Rows
set_option maxRecDepth 100000
namespace Mine

structure Fm where
  X : Addr → Prop
  A : Around
  env : Env
  k : Nat
abbrev Sg := List (Str × D)

def VarIs (c : Fm) (m : Str → Option Value) (h : Heap) (x : Str) (d : D) : Prop :=
  (c.env.kindOf x = some .local ∧ ∃ v, m x = some v ∧ DIn c.X h v d) ∨
  (c.env.kindOf x = some .cell ∧ ∃ a v, c.env.cells.lookup x = some a ∧ h.IsCell a (some v) ∧ DIn c.X h v d)

structure Inv (W : Wd) (c : Fm) (σ : Sg) (h : Heap) : Prop where
  run : Run W c.X c.A c.k h
  fk : c.env.scope.kind = .function
  gl : c.env.globals = mainGlobals
  bl : c.env.builtins = builtinsNs
  vars : ∃ m, h.Ns c.env.locals m ∧ ∀ x d, σ.lookup x = some d → VarIs c m h x d
  ownL : c.X c.env.locals
  ownC : ∀ x a, (x, a) ∈ c.env.cells → c.X a ∧ a ≠ c.env.locals ∧ ∃ v, h.IsCell a v
  apart : c.env.cells.Pairwise fun x y => x.2 ≠ y.2

theorem Inv.gr {W : Wd} {c : Fm} {σ : Sg} {h h' : Heap} (i : Inv W c σ h) (g : Gr c.X h h') : Inv W c σ h' := by
  refine ⟨i.run.gr g, i.fk, i.gl, i.bl, ?_, i.ownL, fun x a hm => ?_, i.apart⟩
  · obtain ⟨m, hn, hv⟩ := i.vars
    refine ⟨m, g.ns hn, fun x d e => ?_⟩
    rcases hv x d e with ⟨k, v, hm, hd⟩ | ⟨k, a, v, hl, hc, hd⟩
    · exact .inl ⟨k, v, hm, hd.gr g⟩
    · exact .inr ⟨k, a, v, hl, g.cell hc, hd.gr g⟩
  · obtain ⟨h1, h2, v, h3⟩ := i.ownC x a hm
    exact ⟨h1, h2, v, g.cell h3⟩
theorem Inv.sub {W : Wd} {c : Fm} {σ τ : Sg} {h : Heap} (i : Inv W c σ h) (k : ∀ x d, τ.lookup x = some d → σ.lookup x = some d) : Inv W c τ h := by
  refine ⟨i.run, i.fk, i.gl, i.bl, ?_, i.ownL, i.ownC, i.apart⟩
  obtain ⟨m, hn, hv⟩ := i.vars
  exact ⟨m, hn, fun x d e => hv x d (k x d e)⟩

/-- an expression gives r -/
def EvE (W : Wd) (c : Fm) (σ : Sg) (e : Expr) (r : R) : Prop :=
  ∀ (s : Shared) (Q E : Value → Shared → Prop), Inv W c σ s.heap → Post W c.X c.A s r Q E → wpAny (Md W) c.A (eval e c.env) Q E s

/-- a test gives b -/
def EvT (W : Wd) (c : Fm) (σ : Sg) (e : Expr) (b : Bool) : Prop :=
  ∀ (s : Shared) (Q : Bool → Shared → Prop) (E : Value → Shared → Prop), Inv W c σ s.heap → (∀ h' tk, Gr c.X s.heap h' → Q b { s with heap := h', toks := tk }) → wpAny (Md W) c.A (isTrue e c.env (eval e c.env)) Q E s

def PostL (W : Wd) (X : Addr → Prop) (A : Around) (s : Shared) (n : Nat) (r : Option (List D)) (Q : List Value → Shared → Prop) (E : Value → Shared → Prop) : Prop := match r with
  | some ds => ∀ vs h' tk, vs.length = n → Gr X s.heap h' → DAll X h' vs ds → Q vs { s with heap := h', toks := tk }
  | none => ∀ e h' tk, Rz W X A s.heap e h' → E (.ref e) { s with heap := h', toks := tk }
def EvL (W : Wd) (c : Fm) (σ : Sg) (es : List Expr) (r : Option (List D)) : Prop :=
  ∀ (s : Shared) (pos : Pos) (Q : List Value → Shared → Prop) (E : Value → Shared → Prop), Inv W c σ s.heap → PostL W c.X c.A s es.length r Q E → wpAny (Md W) c.A (spliced (backTo pos (starEach es c.env))) Q E s

section
variable {W : Wd} {c : Fm} {σ : Sg}

theorem EvE.int {i : Int} {k : Nat} {pos : Pos} : EvE W c σ (.Constant (.int i) k pos) (.ok (.int i)) :=
  fun s _ _ _ p => wpAny_Constant_int (p _ s.heap _ (Gr.refl _ _) (.int _ _))
theorem EvE.str {x : Str} {k : Nat} {pos : Pos} : EvE W c σ (.Constant (.str x) k pos) (.ok (.str x)) :=
  fun s _ _ _ p => wpAny_Constant_str (p _ s.heap _ (Gr.refl _ _) (.str _ _))

theorem EvE.var {x : Str} {pos : Pos} {d : D} (h : σ.lookup x = some d) (hd : (x == ("__debug__" : Str)) = false) : EvE W c σ (.Name x pos) (.ok d) := by
  intro s Q E i p
  obtain ⟨m, hn, hv⟩ := i.vars
  rcases hv x d h with ⟨k, v, hm, di⟩ | ⟨k, a, v, hl, hc, di⟩
  · exact wpAny_Name (wpAny_loadName_local i.fk k hn hm (p v s.heap s.toks (Gr.refl _ _) di)) hd
  · exact wpAny_Name (wpAny_loadName_cell i.fk k hl hc (p v s.heap s.toks (Gr.refl _ _) di)) hd

/-- a name of the text's own top -/
theorem ev_global {x : Str} {pos : Pos} {v : Value} {s : Shared} {Q E : Value → Shared → Prop} (i : Inv W c σ s.heap) (hg : nsIn W.K mainGlobals x = some (some v)) (hk : c.env.kindOf x = some .globalImplicit)
    (hd : (x == ("__debug__" : Str)) = false) (q : Q v s) : wpAny (Md W) c.A (eval (.Name x pos) c.env) Q E s := by
  have G : s.heap.Ns c.env.globals W.mg := by rw [i.gl]; exact W.T.g.keeps i.run.stay
  exact Calls.Name_function_global i.fk hk (Calls.loadGlobal_global G (mg_of W.hK W.T.g hg) q) hd
theorem ev_builtin {x : Str} {pos : Pos} {v : Value} {s : Shared} {Q E : Value → Shared → Prop} (i : Inv W c σ s.heap) (hg : nsIn W.K mainGlobals x = some none) (hb : bootBuiltins x = some v) (hn : x ≠ "__name__") (hk : c.env.kindOf x = some .globalImplicit)
    (hd : (x == ("__debug__" : Str)) = false) (q : Q v s) : wpAny (Md W) c.A (eval (.Name x pos) c.env) Q E s := by
  have G : s.heap.Ns c.env.globals W.mg := by rw [i.gl]; exact W.T.g.keeps i.run.stay
  have B : s.heap.Ns c.env.builtins W.mb := by rw [i.bl]; exact W.T.b.keeps i.run.stay
  exact Calls.Name_function_global i.fk hk (Calls.loadGlobal_builtin G (mg_none_of W.hK W.T.g hg) B ((W.T.builtins x hn).trans hb) q) hd

/-- a datum of the text's own top: an int, a tuple of the written part -/
theorem EvE.gint {x : Str} {pos : Pos} {n : Int} {t : Tok} (hg : nsIn W.K mainGlobals x = some (some (.int n t))) (hk : c.env.kindOf x = some .globalImplicit) (hd : (x == ("__debug__" : Str)) = false) : EvE W c σ (.Name x pos) (.ok (.int n)) :=
  fun s _ _ i p => ev_global i hg hk hd (p _ s.heap s.toks (Gr.refl _ _) (.int _ _))
theorem base_off {X : Addr → Prop} {A : Around} {k : Nat} {h : Heap} (r : Run W X A k h) {a : Addr} {o : Obj} (e : W.base.get? a = some o) : ¬ X a := fun x => by
  have := r.off a x
  rw [e] at this
  cases this
theorem EvE.gref {x : Str} {pos : Pos} {a : Addr} {d : D} (hg : nsIn W.K mainGlobals x = some (some (.ref a))) (hk : c.env.kindOf x = some .globalImplicit) (hd : (x == ("__debug__" : Str)) = false)
    (di : ∀ X : Addr → Prop, (∀ b o, W.base.get? b = some o → ¬ X b) → DIn X W.base (.ref a) d) : EvE W c σ (.Name x pos) (.ok d) :=
  fun s _ _ i p => ev_global i hg hk hd (p _ s.heap s.toks (Gr.refl _ _) ((di c.X fun _ _ e => base_off i.run e).mono fun _ _ _ e => i.run.stay _ _ e))

theorem Inv.step {h h' : Heap} (i : Inv W c σ h) (g : Gr c.X h h') : Inv W c σ h' := i.gr g

/-- two operands, both sound -/
theorem EvE.bin {op : Operator} {l r : Expr} {pos : Pos} {a b d : D} (hl : EvE W c σ l (.ok a)) (hr : EvE W c σ r (.ok b))
    (ho : ∀ (s : Shared) (u v : Value) (Q E : Value → Shared → Prop), Inv W c σ s.heap → DIn c.X s.heap u a → DIn c.X s.heap v b → Post W c.X c.A s (.ok d) Q E → wpAny (Md W) c.A (binaryOp op u v) Q E s) :
    EvE W c σ (.BinOp l op r pos) (.ok d) := by
  intro s Q E i p
  refine wpAny_BinOp (hl s _ E i fun u h₁ t₁ g₁ d₁ => hr _ _ E (i.gr g₁) fun v h₂ t₂ g₂ d₂ => ?_)
  exact ho _ u v Q E ((i.gr g₁).gr g₂) (d₁.gr g₂) d₂ (Post.pre (s := s) (r := .ok d) (Q := Q) (E := E) (g₁.trans g₂) p)

theorem int_inv {X : Addr → Prop} {h : Heap} {v : Value} {i : Int} (d : DIn X h v (.int i)) : ∃ t, v = .int i t := by cases d; exact ⟨_, rfl⟩
theorem bool_inv {X : Addr → Prop} {h : Heap} {v : Value} {b : Bool} (d : DIn X h v (.bool b)) : v = .bool b := by cases d; rfl
theorem str_inv {X : Addr → Prop} {h : Heap} {v : Value} {x : Str} (d : DIn X h v (.str x)) : ∃ t, v = .str x t := by cases d; exact ⟨_, rfl⟩
theorem tup_inv {X : Addr → Prop} {h : Heap} {v : Value} {ds : List D} (d : DIn X h v (.tup ds)) : ∃ a vs, v = .ref a ∧ ¬ X a ∧ IsTup h a vs.toArray ∧ DAll X h vs ds := by cases d; exact ⟨_, _, rfl, by assumption, by assumption, by assumption⟩
theorem lst_inv {X : Addr → Prop} {h : Heap} {v : Value} {ds : List D} (d : DIn X h v (.lst ds)) : ∃ a vs, v = .ref a ∧ ¬ X a ∧ h.IsList a vs.toArray ∧ DAll X h vs ds := by cases d; exact ⟨_, _, rfl, by assumption, by assumption, by assumption⟩

theorem EvE.binInt {op : Operator} {l r : Expr} {pos : Pos} {a b n : Int} (hl : EvE W c σ l (.ok (.int a))) (hr : EvE W c σ r (.ok (.int b)))
    (ho : ∀ (s : Shared) (t u : Tok) (Q E : Value → Shared → Prop), Q (.int n s.toks) { s with toks := s.toks + 1 } → wpAny (Md W) c.A (binaryOp op (.int a t) (.int b u)) Q E s) :
    EvE W c σ (.BinOp l op r pos) (.ok (.int n)) :=
  EvE.bin hl hr fun s u v Q E i d₁ d₂ p => by
    obtain ⟨t, rfl⟩ := int_inv d₁
    obtain ⟨t', rfl⟩ := int_inv d₂
    exact ho s _ _ Q E (p _ s.heap _ (Gr.refl _ _) (.int _ _))
theorem EvE.add {l r : Expr} {pos : Pos} {a b : Int} (hl : EvE W c σ l (.ok (.int a))) (hr : EvE W c σ r (.ok (.int b))) : EvE W c σ (.BinOp l .Add r pos) (.ok (.int (a + b))) :=
  EvE.binInt hl hr fun _ _ _ _ _ q => PySem.P.add_int q
theorem EvE.sub {l r : Expr} {pos : Pos} {a b : Int} (hl : EvE W c σ l (.ok (.int a))) (hr : EvE W c σ r (.ok (.int b))) : EvE W c σ (.BinOp l .Sub r pos) (.ok (.int (a - b))) :=
  EvE.binInt hl hr fun _ _ _ _ _ q => PySem.P.sub_int q
end
end Mine
end
section
open PySem PySem.W PySem.Spec PySem.Calls PyProof.Rows
set_option maxRecDepth 100000
namespace Mine

theorem bits_lt {a : Int} {p : Nat} (h : a.natAbs < 2 ^ p) : Builtin.Int.intBits a ≤ p := by
  unfold Builtin.Int.intBits
  split
  · exact Nat.zero_le _
  · rename_i hz
    have h0 : a.natAbs ≠ 0 := fun e => hz (by simp at e; simp [e])
    have := (Nat.log2_lt h0).mpr h
    omega
theorem mul_ok {a b : Int} {p q : Nat} (ha : a.natAbs < 2 ^ p) (hb : b.natAbs < 2 ^ q) (hpq : p + q ≤ 134217728) : IntMulOk a b := by
  have h1 := bits_lt ha
  have h2 := bits_lt hb
  unfold IntMulOk
  intro e
  simp only [Bool.and_eq_true] at e
  have h3 := e.2
  unfold Builtin.Int.intTooBig bitsLine at h3
  simp at h3
  omega
theorem log_lt {a : Int} (h : a.natAbs < 2 ^ 9000) : a.natAbs.log2 < 9000 := by
  by_cases h0 : a.natAbs = 0
  · rw [h0]; decide +kernel
  · exact (Nat.log2_lt h0).mpr h

section
variable {W : Wd} {c : Fm} {σ : Sg}

theorem EvE.mul {l r : Expr} {pos : Pos} {a b : Int} (hl : EvE W c σ l (.ok (.int a))) (hr : EvE W c σ r (.ok (.int b))) (hm : IntMulOk a b) : EvE W c σ (.BinOp l .Mult r pos) (.ok (.int (a * b))) :=
  EvE.binInt hl hr fun _ _ _ _ _ q => PySem.P.mul_int q hm
theorem EvE.fdiv {l r : Expr} {pos : Pos} {a b : Int} (hl : EvE W c σ l (.ok (.int a))) (hr : EvE W c σ r (.ok (.int b))) (hb : b ≠ 0) (hp : b.natAbs < 2 ^ 9000) : EvE W c σ (.BinOp l .FloorDiv r pos) (.ok (.int (a.fdiv b))) :=
  EvE.binInt hl hr fun _ _ _ _ _ q => floordiv_int hb q (.inl (PyProof.noPylong_of_log2 (log_lt hp)))
theorem EvE.mod {l r : Expr} {pos : Pos} {a b : Int} (hl : EvE W c σ l (.ok (.int a))) (hr : EvE W c σ r (.ok (.int b))) (hb : b ≠ 0) : EvE W c σ (.BinOp l .Mod r pos) (.ok (.int (a.fmod b))) :=
  EvE.binInt hl hr fun _ _ _ _ _ q => mod_int' hb q
theorem EvE.pow {l r : Expr} {pos : Pos} {a n : Int} (hl : EvE W c σ l (.ok (.int a))) (hr : EvE W c σ r (.ok (.int n))) (h0 : 0 ≤ n) (h1 : n ≤ 1000000) (ha : a.natAbs < 2 ^ 64) : EvE W c σ (.BinOp l .Pow r pos) (.ok (.int (a ^ n.toNat))) :=
  EvE.binInt hl hr fun _ _ _ _ _ q => pow_int_small h0 h1 ha q
theorem EvE.neg {x : Expr} {pos : Pos} {a : Int} (h : EvE W c σ x (.ok (.int a))) : EvE W c σ (.UnaryOp .USub x pos) (.ok (.int (-a))) := by
  intro s Q E i p
  refine wpAny_UnaryOp (h s _ E i fun u h₁ t₁ g₁ d₁ => ?_)
  obtain ⟨t, rfl⟩ := int_inv d₁
  exact PySem.P.neg_int (p _ h₁ _ g₁ (.int _ _))

/-- a comparison of two values gives b, the state kept -/
def CmpOK (W : Wd) (c : Fm) (op : CmpOp) (a b : D) (x : Bool) : Prop :=
  ∀ (s : Shared) (u v : Value) (Q E : Value → Shared → Prop), Run W c.X c.A c.k s.heap → DIn c.X s.heap u a → DIn c.X s.heap v b → (∀ h' tk, Gr c.X s.heap h' → Q (.bool x) { s with heap := h', toks := tk }) → wpAny (Md W) c.A (compareOp op u v) Q E s

theorem CmpOK.lt {a b : Int} : CmpOK W c .Lt (.int a) (.int b) (decide (a < b)) := fun s _ _ _ _ _ d₁ d₂ q => by
  obtain ⟨t, rfl⟩ := int_inv d₁
  obtain ⟨t', rfl⟩ := int_inv d₂
  exact PySem.P.lt_int (q s.heap s.toks (Gr.refl _ _))
theorem CmpOK.le {a b : Int} : CmpOK W c .LtE (.int a) (.int b) (decide (a ≤ b)) := fun s _ _ _ _ _ d₁ d₂ q => by
  obtain ⟨t, rfl⟩ := int_inv d₁
  obtain ⟨t', rfl⟩ := int_inv d₂
  exact PySem.P.le_int (q s.heap s.toks (Gr.refl _ _))
theorem CmpOK.gt {a b : Int} : CmpOK W c .Gt (.int a) (.int b) (decide (a > b)) := fun s _ _ _ _ _ d₁ d₂ q => by
  obtain ⟨t, rfl⟩ := int_inv d₁
  obtain ⟨t', rfl⟩ := int_inv d₂
  exact PySem.P.gt_int (q s.heap s.toks (Gr.refl _ _))
theorem CmpOK.ge {a b : Int} : CmpOK W c .GtE (.int a) (.int b) (decide (a ≥ b)) := fun s _ _ _ _ _ d₁ d₂ q => by
  obtain ⟨t, rfl⟩ := int_inv d₁
  obtain ⟨t', rfl⟩ := int_inv d₂
  exact PySem.P.ge_int (q s.heap s.toks (Gr.refl _ _))
theorem CmpOK.eq {a b : Int} : CmpOK W c .Eq (.int a) (.int b) (a == b) := fun s _ _ _ _ _ d₁ d₂ q => by
  obtain ⟨t, rfl⟩ := int_inv d₁
  obtain ⟨t', rfl⟩ := int_inv d₂
  exact PySem.P.eq_int (q s.heap s.toks (Gr.refl _ _))
theorem CmpOK.ne {a b : Int} : CmpOK W c .NotEq (.int a) (.int b) (a != b) := fun s _ _ _ _ _ d₁ d₂ q => by
  obtain ⟨t, rfl⟩ := int_inv d₁
  obtain ⟨t', rfl⟩ := int_inv d₂
  exact PySem.P.ne_int (q s.heap s.toks (Gr.refl _ _))
theorem CmpOK.neB {a b : Bool} : CmpOK W c .NotEq (.bool a) (.bool b) (a != b) := fun s _ _ _ _ _ d₁ d₂ q => by
  obtain rfl := bool_inv d₁
  obtain rfl := bool_inv d₂
  exact ne_bool (q s.heap s.toks (Gr.refl _ _))

theorem EvE.cmp {l r : Expr} {op : CmpOp} {pos : Pos} {a b : D} {x : Bool} (hl : EvE W c σ l (.ok a)) (hr : EvE W c σ r (.ok b)) (ho : CmpOK W c op a b x) (hm : behindInMarks op r = false) : EvE W c σ (.Compare l [op] [r] pos) (.ok (.bool x)) := by
  intro s Q E i p
  refine wpAny_Compare1 (hl s _ E i fun u h₁ t₁ g₁ d₁ => hr _ _ E (i.gr g₁) fun v h₂ t₂ g₂ d₂ => ?_) hm
  exact ho _ u v Q E ((i.gr g₁).gr g₂).run (d₁.gr g₂) d₂ fun h' tk g => p _ h' tk ((g₁.trans g₂).trans g) (.bool _)
theorem EvT.cmp {l r : Expr} {op : CmpOp} {pos : Pos} {a b : D} {x : Bool} (hl : EvE W c σ l (.ok a)) (hr : EvE W c σ r (.ok b)) (ho : CmpOK W c op a b x) (hm : behindInMarks op r = false) : EvT W c σ (.Compare l [op] [r] pos) x := by
  intro s Q E i p
  refine wpAny_isTrue_Compare1 (hl s _ E i fun u h₁ t₁ g₁ d₁ => hr _ _ E (i.gr g₁) fun v h₂ t₂ g₂ d₂ => ?_) hm
  exact ho _ u v _ E ((i.gr g₁).gr g₂).run (d₁.gr g₂) d₂ fun h' tk g => wpAny_truthy_bool (p h' tk ((g₁.trans g₂).trans g))

theorem EvT.not {x : Expr} {pos : Pos} {b : Bool} (h : EvT W c σ x b) : EvT W c σ (.UnaryOp .Not x pos) (!b) :=
  fun s Q E i p => wpAny_isTrue_Not (h s _ E i p)
/-- an int's own truth -/
theorem EvT.int {x : Str} {pos : Pos} {a : Int} (h : EvE W c σ (.Name x pos) (.ok (.int a))) : EvT W c σ (.Name x pos) (a != 0) := by
  intro s Q E i p
  refine wpAny_isTrue_value (h s _ E i fun u h₁ t₁ g₁ d₁ => ?_)
  obtain ⟨t, rfl⟩ := int_inv d₁
  exact PySem.P.truthy_int (p h₁ t₁ g₁)
theorem EvT.and2 {x y : Expr} {pos : Pos} {a b : Bool} (hx : EvT W c σ x a) (hy : a = true → EvT W c σ y b) : EvT W c σ (.BoolOp .And [x, y] pos) (a && b) := by
  intro s Q E i p
  refine wpAny_isTrue_BoolOp (wpAny_allTrue_And_cons (hx s _ E i fun h₁ t₁ g₁ => ?_))
  cases a with
  | false => exact p h₁ t₁ g₁
  | true =>
    refine wpAny_allTrue_And_cons (hy rfl _ _ E (i.gr g₁) fun h₂ t₂ g₂ => ?_)
    cases b with
    | false => exact p h₂ t₂ (g₁.trans g₂)
    | true => exact wpAny_allTrue_And_nil (p h₂ t₂ (g₁.trans g₂))
theorem EvT.or2 {x y : Expr} {pos : Pos} {a b : Bool} (hx : EvT W c σ x a) (hy : a = false → EvT W c σ y b) : EvT W c σ (.BoolOp .Or [x, y] pos) (a || b) := by
  intro s Q E i p
  refine wpAny_isTrue_BoolOp (wpAny_allTrue_Or_cons (hx s _ E i fun h₁ t₁ g₁ => ?_))
  cases a with
  | true => exact p h₁ t₁ g₁
  | false =>
    refine wpAny_allTrue_Or_cons (hy rfl _ _ E (i.gr g₁) fun h₂ t₂ g₂ => ?_)
    cases b with
    | true => exact p h₂ t₂ (g₁.trans g₂)
    | false => exact wpAny_allTrue_Or_nil (p h₂ t₂ (g₁.trans g₂))

theorem EvE.ifexp {t b o : Expr} {pos : Pos} {x : Bool} {r r' : R} (ht : EvT W c σ t x) (hb : x = true → EvE W c σ b r) (ho : x = false → EvE W c σ o r') : EvE W c σ (.IfExp t b o pos) (if x = true then r else r') := by
  intro s Q E i p
  refine wpAny_IfExp (ht s _ E i fun h₁ t₁ g₁ => ?_)
  cases x with
  | true => exact hb rfl _ Q E (i.gr g₁) (Post.pre (s := s) g₁ p)
  | false => exact ho rfl _ Q E (i.gr g₁) (Post.pre (s := s) g₁ p)
theorem EvE.ifexpInt {t b o : Expr} {pos : Pos} {x : Bool} {m n : Int} (ht : EvT W c σ t x) (hb : x = true → EvE W c σ b (.ok (.int m))) (ho : x = false → EvE W c σ o (.ok (.int n))) : EvE W c σ (.IfExp t b o pos) (.ok (.int (if x = true then m else n))) := by
  have h := EvE.ifexp (pos := pos) ht hb ho
  cases x <;> exact h

/-- lists of expressions -/
def consR : R → Option (List D) → Option (List D)
  | .ok d, some ds => some (d :: ds)
  | _, _ => none
def notStar : Expr → Bool
  | .Starred .. => false
  | _ => true
theorem starEach_of {e : Expr} {rest : List Expr} {env : Env} (h : notStar e = true) : starEach (e :: rest) env = (false, eval e env) :: starEach rest env := by
  cases e <;> first | rfl | cases h
theorem EvL.nil : EvL W c σ [] (some []) := fun s _ _ _ _ p => wpAny_items_nil (p [] s.heap s.toks rfl (Gr.refl _ _) .nil)
theorem EvL.cons {e : Expr} {es : List Expr} {r : R} {rl : Option (List D)} (hs : notStar e = true) (h : EvE W c σ e r) (hl : EvL W c σ es rl) : EvL W c σ (e :: es) (consR r rl) := by
  intro s pos Q E i p
  refine wpAny_items_cons (h s _ E i ?_) (starEach_of hs)
  cases r with
  | raise => exact fun e h' tk rz => p e h' tk rz
  | ok d =>
    intro v h₁ t₁ g₁ d₁
    refine hl _ pos _ E (i.gr g₁) ?_
    cases rl with
    | none => exact fun e h' tk rz => p e h' tk (rz.pre g₁)
    | some ds => exact fun vs h₂ t₂ hn g₂ d₂ => p (v :: vs) h₂ t₂ (by simp [hn]) (g₁.trans g₂) (.cons (d₁.gr g₂) d₂)

def tupR : Option (List D) → R
  | some ds => .ok (.tup ds)
  | none => .raise
def lstR : Option (List D) → R
  | some ds => .ok (.lst ds)
  | none => .raise
theorem own_size {X : Addr → Prop} {A : Around} {k : Nat} {h : Heap} (r : Run W X A k h) : ¬ X h.objs.size := fun x => by
  obtain ⟨o, ho, _⟩ := r.own _ x
  exact absurd (Heap.lt_size ho) (Nat.lt_irrefl _)
theorem EvE.tuple {es : List Expr} {k : Nat} {pos : Pos} {rl : Option (List D)} (h : EvL W c σ es rl) (hn : es.length ≤ 1000) : EvE W c σ (.Tuple es k pos) (tupR rl) := by
  intro s Q E i p
  refine wpAny_Tuple (h s pos _ E i ?_)
  cases rl with
  | none => exact p
  | some ds =>
    intro vs h₁ t₁ hl g₁ d₁
    refine ⟨by rw [hl, sizeLine_eq]; omega, p _ _ _ (g₁.trans (Gr.push _ _)) (.tup (own_size (i.gr g₁).run) ⟨_, Heap.get?_push_size _ rfl, rfl, 0, rfl⟩ (d₁.gr (Gr.push _ _)))⟩
theorem EvE.list {es : List Expr} {pos : Pos} {rl : Option (List D)} (h : EvL W c σ es rl) (hn : es.length ≤ 1000) : EvE W c σ (.List es pos) (lstR rl) := by
  intro s Q E i p
  refine wpAny_List (h s pos _ E i ?_)
  cases rl with
  | none => exact p
  | some ds =>
    intro vs h₁ t₁ hl g₁ d₁
    refine ⟨by rw [hl, sizeLine_eq]; omega, p _ _ _ (g₁.trans (Gr.push _ _)) (.lst (own_size (i.gr g₁).run) ⟨_, Heap.get?_push_size _ rfl, rfl, 0, rfl⟩ (d₁.gr (Gr.push _ _)))⟩
end
end Mine
end
section
open PySem PySem.W PySem.Spec PySem.Calls PyProof.Rows
set_option maxRecDepth 100000
namespace Mine

theorem plain_args : ∀ {es : List Expr} {env : Env} {pos : Pos}, es.all notStar = true → (backTo pos (starEach es env)).any (·.1) = false
  | [], _, _, _ => rfl
  | e :: r, env, pos, h => by
    rw [List.all_cons, Bool.and_eq_true] at h
    rw [starEach_of h.1]
    show (false || (backTo pos (starEach r env)).any (·.1)) = false
    rw [plain_args h.2]; rfl
theorem backTo_cons {e : Expr} {r : List Expr} {env : Env} {pos : Pos} (h : notStar e = true) : backTo pos (starEach (e :: r) env) = (false, eval e env) :: backTo pos (starEach r env) := by
  rw [starEach_of h]; rfl

section
variable {W : Wd} {c : Fm} {σ : Sg}

theorem args_ok {f : Value} {e : Expr} {es : List Expr} {pos : Pos} {ds : List D} {s : Shared} {Q : Args → Shared → Prop} {E : Value → Shared → Prop} (i : Inv W c σ s.heap) (hs : (e :: es).all notStar = true) (ha : EvL W c σ (e :: es) (some ds))
    (q : ∀ vs h' tk, Gr c.X s.heap h' → DAll c.X h' vs ds → Q ⟨vs, []⟩ { s with heap := h', toks := tk }) : wpAny (Md W) c.A (evalArgs f true (backTo pos (starEach (e :: es) c.env)) []) Q E s := by
  have h1 : notStar e = true := by rw [List.all_cons, Bool.and_eq_true] at hs; exact hs.1
  have h := ha s pos (fun vs s' => Q ⟨vs, []⟩ s') E i (fun vs h' tk _ g d => q vs h' tk g d)
  rw [backTo_cons h1] at h ⊢
  exact Calls.evalArgs_plain h

theorem EvE.call {x : Str} {np pos : Pos} {e : Expr} {es : List Expr} {f : Addr} {o : Obj} {fd : FuncData} {ds : List D} {r : R} {k : Nat}
    (hg : nsIn W.K mainGlobals x = some (some (.ref f))) (ho : W.K.lookup f = some o) (hf : o.data = .func fd) (hx : c.env.kindOf x = some .globalImplicit) (hd : (x == ("__debug__" : Str)) = false)
    (hs : (e :: es).all notStar = true) (ha : EvL W c σ (e :: es) (some ds)) (hc : CallOK W k (.ref f) ds r) (hk : k ≤ c.k) : EvE W c σ (.Call (.Name x np) (e :: es) [] pos) r := by
  intro s Q E i p
  refine wpAny_Call_Name_kw (ev_global i hg hx hd ?_)
  refine Calls.callWith_function (o := o) (fd := fd) (args_ok i hs ha fun vs h' tk g d => ⟨⟨(i.gr g).run.stay _ _ (W.hK _ _ ho), hf⟩, ?_⟩)
  exact hc.mono hk c.X c.A _ vs Q E (i.gr g).run d (Post.pre (s := s) g p)
theorem EvE.callB {x : Str} {np pos : Pos} {e : Expr} {es : List Expr} {id : String} {ds : List D} {r : R} {k : Nat}
    (hg : nsIn W.K mainGlobals x = some none) (hb : bootBuiltins x = some (.builtin id)) (hn : x ≠ "__name__") (hx : c.env.kindOf x = some .globalImplicit) (hd : (x == ("__debug__" : Str)) = false)
    (hs : (e :: es).all notStar = true) (ha : EvL W c σ (e :: es) (some ds)) (hc : CallOK W k (.builtin id) ds r) (hk : k ≤ c.k) : EvE W c σ (.Call (.Name x np) (e :: es) [] pos) r := by
  intro s Q E i p
  refine wpAny_Call_Name_kw (ev_builtin i hg hb hn hx hd ?_)
  refine Calls.callWith_builtin (plain_args hs) (args_ok i hs ha fun vs h' tk g d => ?_)
  exact hc.mono hk c.X c.A _ vs Q E (i.gr g).run d (Post.pre (s := s) g p)
theorem EvE.callT {x : Str} {np pos : Pos} {e : Expr} {es : List Expr} {T : String} {ds : List D} {r : R} {k : Nat}
    (hg : nsIn W.K mainGlobals x = some none) (hb : bootBuiltins x = some (.type T)) (hn : x ≠ "__name__") (hx : c.env.kindOf x = some .globalImplicit) (hd : (x == ("__debug__" : Str)) = false)
    (hs : (e :: es).all notStar = true) (ha : EvL W c σ (e :: es) (some ds)) (hc : CallOK W k (.type T) ds r) (hk : k ≤ c.k) : EvE W c σ (.Call (.Name x np) (e :: es) [] pos) r := by
  intro s Q E i p
  refine wpAny_Call_Name_kw (ev_builtin i hg hb hn hx hd ?_)
  refine PySem.callWith_type (plain_args hs) (args_ok i hs ha fun vs h' tk g d => ?_)
  exact hc.mono hk c.X c.A _ vs Q E (i.gr g).run d (Post.pre (s := s) g p)

theorem dall_nil {X : Addr → Prop} {h : Heap} {vs : List Value} (d : DAll X h vs []) : vs = [] := by cases d; rfl
theorem dall_cons {X : Addr → Prop} {h : Heap} {vs : List Value} {d : D} {ds : List D} (x : DAll X h vs (d :: ds)) : ∃ v r, vs = v :: r ∧ DIn X h v d ∧ DAll X h r ds := by cases x; exact ⟨_, _, rfl, by assumption, by assumption⟩
theorem dall_len {X : Addr → Prop} {h : Heap} : ∀ {ds : List D} {vs : List Value}, DAll X h vs ds → vs.length = ds.length
  | [], _, x => by rw [dall_nil x]; rfl
  | d :: ds, vs, x => by
    obtain ⟨v, r, rfl, _, y⟩ := dall_cons x
    simp [dall_len y]
theorem dall_get {X : Addr → Prop} {h : Heap} : ∀ {ds : List D} {vs : List Value} {j : Nat} {d : D}, DAll X h vs ds → ds[j]? = some d → ∃ v, vs[j]? = some v ∧ DIn X h v d
  | [], _, _, _, _, e => by simp at e
  | d :: ds, vs, 0, d', x, e => by
    obtain ⟨v, r, rfl, y, _⟩ := dall_cons x
    simp at e; subst e
    exact ⟨v, rfl, y⟩
  | d :: ds, vs, j + 1, d', x, e => by
    obtain ⟨v, r, rfl, _, y⟩ := dall_cons x
    simp at e
    obtain ⟨u, h1, h2⟩ := dall_get y e
    exact ⟨u, by simpa using h1, h2⟩
theorem one_int {X : Addr → Prop} {h : Heap} {vs : List Value} {i : Int} (d : DAll X h vs [.int i]) : ∃ t, vs = [.int i t] := by
  obtain ⟨v, r, rfl, y, z⟩ := dall_cons d
  obtain ⟨t, rfl⟩ := int_inv y
  rw [dall_nil z]; exact ⟨t, rfl⟩
theorem two_int {X : Addr → Prop} {h : Heap} {vs : List Value} {i j : Int} (d : DAll X h vs [.int i, .int j]) : ∃ t u, vs = [.int i t, .int j u] := by
  obtain ⟨v, r, rfl, y, z⟩ := dall_cons d
  obtain ⟨t, rfl⟩ := int_inv y
  obtain ⟨u, rfl⟩ := one_int z
  exact ⟨t, u, rfl⟩

/-- the built-in functions -/
theorem call_abs {i : Int} : CallOK W 0 (.builtin "abs") [.int i] (.ok (.int (if i < 0 then -i else i))) := by
  intro X A s vs Q E rn da p
  obtain ⟨t, rfl⟩ := one_int da
  exact call_abs_int fun u tk => p _ s.heap tk (Gr.refl _ _) (.int _ _)
theorem call_max {i j : Int} : CallOK W 0 (.builtin "max") [.int i, .int j] (.ok (.int (if j > i then j else i))) := by
  intro X A s vs Q E rn da p
  obtain ⟨t, u, rfl⟩ := two_int da
  refine max_two_ints rn.hh fun h' tk hk => ?_
  have := p (if j > i then .int j u else .int i t) h' tk (Gr.of_keeps hk) (by split <;> exact .int _ _)
  exact this
theorem call_min {i j : Int} : CallOK W 0 (.builtin "min") [.int i, .int j] (.ok (.int (if j < i then j else i))) := by
  intro X A s vs Q E rn da p
  obtain ⟨t, u, rfl⟩ := two_int da
  refine min_two_ints rn.hh fun h' tk hk => ?_
  exact p (if j < i then .int j u else .int i t) h' tk (Gr.of_keeps hk) (by split <;> exact .int _ _)
theorem call_divmod {a b : Int} (hb : b ≠ 0) (hp : b.natAbs < 2 ^ 9000) : CallOK W 0 (.builtin "divmod") [.int a, .int b] (.ok (.tup [.int (a.fdiv b), .int (a.fmod b)])) := by
  intro X A s vs Q E rn da p
  obtain ⟨t, u, rfl⟩ := two_int da
  refine divmod_int hb ?_ (.inl (PyProof.noPylong_of_log2 (log_lt hp)))
  exact p _ _ _ (Gr.push _ _) (.tup (vs := [.int (a.fdiv b) s.toks, .int (a.fmod b) (s.toks + 1)]) (own_size rn) ⟨_, Heap.get?_push_size _ rfl, rfl, 0, rfl⟩ (.cons (.int _ _) (.cons (.int _ _) .nil)))
theorem call_str {i : Int} (hi : i.natAbs < 10 ^ 4300) : CallOK W 0 (.type "str") [.int i] (.ok (.str (Str.ofString (toString i)))) := by
  intro X A s vs Q E rn da p
  obtain ⟨t, rfl⟩ := one_int da
  exact str_of_int_or rn.hh (W.nd.keeps rn.stay) (fun _ => p _ s.heap _ (Gr.refl _ _) (.str _ _)) (fun h => absurd hi (Nat.not_lt.mpr h))
theorem call_len_str {x : Str} (hx : (x.length : Int) < 2 ^ 62) : CallOK W 0 (.builtin "len") [.str x] (.ok (.int x.length)) := by
  intro X A s vs Q E rn da p
  obtain ⟨v, r, rfl, y, z⟩ := dall_cons da
  obtain ⟨t, rfl⟩ := str_inv y
  rw [dall_nil z]
  exact PyProof.Rows.len_str (by omega) (p _ s.heap _ (Gr.refl _ _) (.int _ _))
theorem call_len_lst {ds : List D} (hx : (ds.length : Int) < 2 ^ 62) : CallOK W 0 (.builtin "len") [.lst ds] (.ok (.int ds.length)) := by
  intro X A s vs Q E rn da p
  obtain ⟨v, r, rfl, y, z⟩ := dall_cons da
  obtain ⟨a, us, rfl, _, hl, dl⟩ := lst_inv y
  rw [dall_nil z]
  have hn := dall_len dl
  refine Calls.call_len_list hl (by rw [List.size_toArray, hn]; omega) ?_
  rw [List.size_toArray, hn]
  exact p _ s.heap _ (Gr.refl _ _) (.int _ _)

/-- items -/
def notSlice : Expr → Bool
  | .Slice .. => false
  | _ => true
theorem sub_plain {e : Expr} {o i : Value} (h : notSlice e = true) : subscripted e false o i = operate [o, i] (getItem o i) := by
  cases e <;> first | rfl | cases h
theorem seqIndex_of {k : Int} {n : Nat} (h0 : 0 ≤ k) (h1 : k.toNat < n) : seqIndex? k n = some k.toNat := by
  have h2 : ¬ k < 0 := by omega
  have h3 : k < (n : Int) := by omega
  unfold seqIndex?
  rw [if_neg h2]
  simp [h0, h3]
theorem getElem_lt {α : Type} {l : List α} {j : Nat} {x : α} (h : l[j]? = some x) : j < l.length := (List.getElem?_eq_some_iff.mp h).1
theorem EvE.itemT {v i : Expr} {pos : Pos} {ds : List D} {k : Int} {d : D} (hv : EvE W c σ v (.ok (.tup ds))) (hi : EvE W c σ i (.ok (.int k))) (hs : notSlice i = true) (h0 : 0 ≤ k) (h1 : k < 1000000) (he : ds[k.toNat]? = some d) :
    EvE W c σ (.Subscript v i pos) (.ok d) := by
  intro s Q E iv p
  refine Subscript_ (hv s _ E iv fun u h₁ t₁ g₁ d₁ => hi _ _ E (iv.gr g₁) fun w h₂ t₂ g₂ d₂ => ?_)
  obtain ⟨t, rfl⟩ := int_inv d₂
  obtain ⟨a, vs, rfl, hx, ht, dl⟩ := tup_inv (d₁.gr g₂)
  obtain ⟨y, hy, dy⟩ := dall_get dl he
  refine tail_any (s := { s with heap := h₂, toks := t₂ }) (IsTup.typeIs ht) slot_tuple_getitem.lookup (getItem_tuple ht (by omega) (by omega) (j := k.toNat) ?_ (by simpa using hy) (p _ h₂ t₂ (g₁.trans g₂) dy)) (sub_plain hs)
  rw [List.size_toArray]
  exact seqIndex_of h0 (getElem_lt hy)
theorem EvE.itemL {v i : Expr} {pos : Pos} {ds : List D} {k : Int} {d : D} (hv : EvE W c σ v (.ok (.lst ds))) (hi : EvE W c σ i (.ok (.int k))) (hs : notSlice i = true) (h0 : 0 ≤ k) (h1 : k < 1000000) (he : ds[k.toNat]? = some d) :
    EvE W c σ (.Subscript v i pos) (.ok d) := by
  intro s Q E iv p
  refine Subscript_ (hv s _ E iv fun u h₁ t₁ g₁ d₁ => hi _ _ E (iv.gr g₁) fun w h₂ t₂ g₂ d₂ => ?_)
  obtain ⟨t, rfl⟩ := int_inv d₂
  obtain ⟨a, vs, rfl, hx, hl, dl⟩ := lst_inv (d₁.gr g₂)
  obtain ⟨y, hy, dy⟩ := dall_get dl he
  exact tail_any (s := { s with heap := h₂, toks := t₂ }) (Heap.IsList.typeIs hl) slot_list_getitem.lookup (wpAny_getItem_list hl h0 (by omega) (by simpa using hy) (p _ h₂ t₂ (g₁.trans g₂) dy)) (sub_plain hs)
end
end Mine
end
section
open PySem PySem.W PySem.Spec PySem.Calls PyProof.Rows
set_option maxRecDepth 100000
namespace Mine

/-- the objects that the frame at hand owns -/
def Own (env : Env) (b : Addr) : Prop := b = env.locals ∨ ∃ x, (x, b) ∈ env.cells
/-- what a statement leaves standing -/
def Sp (c : Fm) (h h' : Heap) : Prop := ∀ b o, h.get? b = some o → ¬ Own c.env b → (¬ c.X b → h'.get? b = some o) ∧ (c.X b → ∃ sl, h'.get? b = some { o with slots := sl })
theorem Sp.refl (c : Fm) (h : Heap) : Sp c h h := fun _ o e _ => ⟨fun _ => e, fun _ => ⟨o.slots, e⟩⟩
theorem Sp.trans {c : Fm} {h₁ h₂ h₃ : Heap} (x : Sp c h₁ h₂) (y : Sp c h₂ h₃) : Sp c h₁ h₃ := fun b o e n =>
  ⟨fun q => ((y b o ((x b o e n).1 q) n).1 q), fun q => by
    obtain ⟨sl, e₁⟩ := (x b o e n).2 q
    exact (y b _ e₁ n).2 q⟩
theorem Sp.of_gr {c : Fm} {h h' : Heap} (g : Gr c.X h h') : Sp c h h' := fun b o e _ => g b o e
theorem Sp.of_same {c : Fm} {h h' : Heap} {a : Addr} (ha : Own c.env a) (hs : Heap.SameBut a h h') : Sp c h h' := fun b o e n => by
  have ne : b ≠ a := fun q => n (q ▸ ha)
  have := (hs.2 b ne).trans e
  exact ⟨fun _ => this, fun _ => ⟨o.slots, this⟩⟩

inductive Out where
  | next (σ : Sg)
  | ret (d : D)
  | brk (σ : Sg)
  | cont (σ : Sg)
  | raise (σ : Sg)
  | fresh

/-- an exception made in the frame at hand -/
def FrS (W : Wd) (c : Fm) (h : Heap) (e : Addr) (h' : Heap) : Prop :=
  Sp c h h' ∧ ∃ B envs a0 oe vs, c.A.frames = some envs ∧ W.base.StaysIn B ∧ (∀ b o, h.get? b = some o → ¬ c.X b → B.get? b = some o) ∧ B.StaysIn h' ∧ B.get? e = none ∧ h'.FunFrames B envs ∧
    h'.get? e = some oe ∧ oe.cls = .ref RF ∧ oe.data = .fields vs ∧ vs[1]? = some .none ∧ vs[0]? = some a0
theorem own_X {W : Wd} {c : Fm} {σ : Sg} {h : Heap} (i : Inv W c σ h) {b : Addr} (n : ¬ c.X b) : ¬ Own c.env b := fun q => by
  rcases q with rfl | ⟨x, hm⟩
  · exact n i.ownL
  · exact n (i.ownC x b hm).1
theorem FrS.pre {W : Wd} {c : Fm} {σ : Sg} {h₀ h h' : Heap} {e : Addr} (i : Inv W c σ h₀) (g : Sp c h₀ h) (r : FrS W c h e h') : FrS W c h₀ e h' := by
  obtain ⟨g', B, envs, a0, oe, vs, h1, h2, h3, h4⟩ := r
  exact ⟨g.trans g', B, envs, a0, oe, vs, h1, h2, fun b o e n => h3 b o ((g b o e (own_X i n)).1 n) n, h4⟩

structure PostS (W : Wd) (c : Fm) (h : Heap) (P : Out → Prop) (s : Shared) (Q : Flow → Shared → Prop) (E : Value → Shared → Prop) : Prop where
  next : ∀ τ h' tk, P (.next τ) → Sp c h h' → Inv W c τ h' → Q .next { s with heap := h', toks := tk }
  ret : ∀ d v h' tk, P (.ret d) → Sp c h h' → DIn c.X h' v d → Q (.ret v) { s with heap := h', toks := tk }
  brk : ∀ τ h' tk, P (.brk τ) → Sp c h h' → Inv W c τ h' → Q .brk { s with heap := h', toks := tk }
  cont : ∀ τ h' tk, P (.cont τ) → Sp c h h' → Inv W c τ h' → Q .cont { s with heap := h', toks := tk }
  raise : ∀ τ e h₁ h' tk, P (.raise τ) → Sp c h h₁ → Inv W c τ h₁ → Rz W c.X c.A h₁ e h' → E (.ref e) { s with heap := h', toks := tk }
  fresh : ∀ e h' tk, P .fresh → FrS W c h e h' → E (.ref e) { s with heap := h', toks := tk }

/-- a block, from the letters σ, ends by P -/
def WS (W : Wd) (c : Fm) (σ : Sg) (ss : List Stmt) (P : Out → Prop) : Prop :=
  ∀ (s : Shared) (Q : Flow → Shared → Prop) (E : Value → Shared → Prop), Inv W c σ s.heap → PostS W c s.heap P s Q E → wpAny (Md W) c.A (execs ss c.env) Q E s
/-- one statement -/
def W1 (W : Wd) (c : Fm) (σ : Sg) (st : Stmt) (P : Out → Prop) : Prop :=
  ∀ (s : Shared) (Q : Flow → Shared → Prop) (E : Value → Shared → Prop), Inv W c σ s.heap → PostS W c s.heap P s Q E → wpAny (Md W) c.A (exec st c.env) Q E s

theorem PostS.pre {W : Wd} {c : Fm} {σ : Sg} {h₀ h : Heap} {P : Out → Prop} {s : Shared} {Q : Flow → Shared → Prop} {E : Value → Shared → Prop} {tk : Nat} (i : Inv W c σ h₀) (g : Sp c h₀ h) (p : PostS W c h₀ P s Q E) : PostS W c h P { s with heap := h, toks := tk } Q E :=
  ⟨fun τ h' tk' x y z => p.next τ h' tk' x (g.trans y) z, fun d v h' tk' x y z => p.ret d v h' tk' x (g.trans y) z, fun τ h' tk' x y z => p.brk τ h' tk' x (g.trans y) z, fun τ h' tk' x y z => p.cont τ h' tk' x (g.trans y) z,
    fun τ e h₁ h' tk' x y z w => p.raise τ e h₁ h' tk' x (g.trans y) z w, fun e h' tk' x y => p.fresh e h' tk' x (y.pre i g)⟩

section
variable {W : Wd} {c : Fm} {σ : Sg}
theorem WS.nil {P : Out → Prop} (h : P (.next σ)) : WS W c σ [] P := fun s _ _ i p => wpAny_execs_nil (p.next σ s.heap s.toks h (Sp.refl _ _) i)

/-- the letters behind a first statement that goes on, the others ends at once -/
def Seq (R : Sg → Prop) (P : Out → Prop) : Out → Prop
  | .next τ => R τ
  | o => P o
theorem WS.cons {st : Stmt} {rest : List Stmt} {R : Sg → Prop} {P : Out → Prop} (h : W1 W c σ st (Seq R P)) (k : ∀ τ, R τ → WS W c τ rest P) : WS W c σ (st :: rest) P := by
  intro s Q E i p
  refine wpAny_execs_cons (h s _ E i ⟨fun τ h' tk x y z => ?_, fun d v h' tk x y z => p.ret d v h' tk x y z, fun τ h' tk x y z => p.brk τ h' tk x y z, fun τ h' tk x y z => p.cont τ h' tk x y z, fun τ e h₁ h' tk x y z w => p.raise τ e h₁ h' tk x y z w, fun e h' tk x y => p.fresh e h' tk x y⟩)
  exact k τ x _ Q E z (p.pre i y)
/-- a first statement that gives one set of letters -/
theorem WS.one {st : Stmt} {rest : List Stmt} {τ : Sg} {P : Out → Prop} (h : W1 W c σ st (Seq (· = τ) P)) (k : WS W c τ rest P) : WS W c σ (st :: rest) P :=
  WS.cons h fun _ e => e ▸ k
theorem W1.mono {st : Stmt} {P P' : Out → Prop} (h : W1 W c σ st P) (k : ∀ o, P o → P' o) : W1 W c σ st P' := fun s Q E i p =>
  h s Q E i ⟨fun τ h' tk x => p.next τ h' tk (k _ x), fun d v h' tk x => p.ret d v h' tk (k _ x), fun τ h' tk x => p.brk τ h' tk (k _ x), fun τ h' tk x => p.cont τ h' tk (k _ x), fun τ e h₁ h' tk x => p.raise τ e h₁ h' tk (k _ x), fun e h' tk x => p.fresh e h' tk (k _ x)⟩
theorem WS.mono {ss : List Stmt} {P P' : Out → Prop} (h : WS W c σ ss P) (k : ∀ o, P o → P' o) : WS W c σ ss P' := fun s Q E i p =>
  h s Q E i ⟨fun τ h' tk x => p.next τ h' tk (k _ x), fun d v h' tk x => p.ret d v h' tk (k _ x), fun τ h' tk x => p.brk τ h' tk (k _ x), fun τ h' tk x => p.cont τ h' tk (k _ x), fun τ e h₁ h' tk x => p.raise τ e h₁ h' tk (k _ x), fun e h' tk x => p.fresh e h' tk (k _ x)⟩
theorem WS.sub {ss : List Stmt} {τ : Sg} {P : Out → Prop} (h : WS W c τ ss P) (k : ∀ x d, τ.lookup x = some d → σ.lookup x = some d) : WS W c σ ss P := fun s Q E i p => h s Q E (i.sub k) p

/-- return -/
def retP (r : R) (σ : Sg) (P : Out → Prop) : Prop := match r with
  | .ok d => P (.ret d)
  | .raise => P (.raise σ)
theorem W1.ret {e : Expr} {pos : Pos} {r : R} {P : Out → Prop} (h : EvE W c σ e r) (k : retP r σ P) : W1 W c σ (.Return (some e) pos) P := by
  intro s Q E i p
  refine wpAny_Return_some (h s _ E i ?_)
  cases r with
  | ok d => exact fun v h' tk g di => p.ret d v h' tk k (.of_gr g) di
  | raise => exact fun e h' tk rz => p.raise σ e s.heap h' tk k (Sp.refl _ _) i rz

/-- if -/
theorem W1.ite {t : Expr} {body orelse : List Stmt} {pos : Pos} {b : Bool} {P : Out → Prop} (ht : EvT W c σ t b) (h1 : b = true → WS W c σ body P) (h2 : b = false → WS W c σ orelse P) : W1 W c σ (.If t body orelse pos) P := by
  intro s Q E i p
  refine wpAny_If (ht s _ E i fun h' tk g => ?_)
  cases b with
  | true => exact h1 rfl _ Q E (i.gr g) (p.pre i (.of_gr g))
  | false => exact h2 rfl _ Q E (i.gr g) (p.pre i (.of_gr g))

/-- a store -/
theorem funFrames_re {base h h' : Heap} : ∀ {l : List Env}, h.FunFrames base l → (∀ b ∈ l.filterMap (·.frame), ∃ o, h'.get? b = some o ∧ ∀ vs, o.data ≠ .fields vs) → h'.FunFrames base l
  | [], _, _ => trivial
  | env :: r, ⟨hk, ⟨L, o, hf, hn, _, _⟩, hr⟩, k => by
    refine ⟨hk, ?_, funFrames_re hr fun b hb => k b ?_⟩
    · obtain ⟨o', h1, h2⟩ := k L (by simp only [List.filterMap_cons, hf]; exact List.mem_cons_self)
      exact ⟨L, o', hf, hn, h1, h2⟩
    · simp only [List.filterMap_cons, hf]; exact List.mem_cons_of_mem _ hb
theorem ns_not_fields {h : Heap} {a : Addr} {m : Str → Option Value} (hn : h.Ns a m) : ∃ o, h.get? a = some o ∧ ∀ vs, o.data ≠ .fields vs := by
  obtain ⟨o, es, ep, ho, hd, _⟩ := hn
  exact ⟨o, ho, fun vs e => by rw [hd] at e; cases e⟩
theorem cell_not_fields {h : Heap} {a : Addr} {v : Option Value} (hn : h.IsCell a v) : ∃ o, h.get? a = some o ∧ ∀ vs, o.data ≠ .fields vs := by
  obtain ⟨o, ho, hd⟩ := hn
  exact ⟨o, ho, fun vs e => by rw [hd] at e; cases e⟩
theorem Run.same {X : Addr → Prop} {A : Around} {k : Nat} {h h' : Heap} {a : Addr} (r : Run W X A k h) (hs : Heap.SameBut a h h') (ha : X a) (hf : ∃ o, h'.get? a = some o ∧ ∀ vs, o.data ≠ .fields vs) : Run W X A k h' := by
  have own' : ∀ b, X b → ∃ o, h'.get? b = some o ∧ ∀ vs, o.data ≠ .fields vs := fun b x => by
    by_cases q : b = a
    · subst q; exact hf
    · obtain ⟨o, ho, hd⟩ := r.own b x
      exact ⟨o, (hs.2 b q).trans ho, hd⟩
  refine ⟨r.hh, r.hd, r.hu, ?_, fun b o e => ?_, own', r.off⟩
  · obtain ⟨envs, h1, h2, h3⟩ := r.frames
    exact ⟨envs, h1, funFrames_re h2 fun b hb => own' b (h3 b hb), h3⟩
  · have ne : b ≠ a := fun q => base_off r (q ▸ e) ha
    exact (hs.2 b ne).trans (r.stay b o e)
theorem lookup_cons_eq {x y : Str} {d e : D} {σ : Sg} (h : ((x, d) :: σ).lookup y = some e) : (y = x ∧ e = d) ∨ (y ≠ x ∧ σ.lookup y = some e) := by
  rw [List.lookup_cons] at h
  by_cases q : (y == x) = true
  · rw [q] at h; cases h
    exact .inl ⟨beq_iff_eq.mp q, rfl⟩
  · have q' : (y == x) = false := by simpa using q
    rw [q'] at h
    exact .inr ⟨fun z => by rw [z] at q'; simp at q', h⟩

/-- a name that the frame may store -/
def Stores (c : Fm) (x : Str) : Prop := c.env.kindOf x = some .local ∨ (c.env.kindOf x = some .cell ∧ ∃ a, c.env.cells.lookup x = some a)

theorem store_any {A' : Around} {x : Str} {v : Value} {d : D} {s : Shared} {Q : Unit → Shared → Prop} {E : Value → Shared → Prop} (hx : Stores c x) (i : Inv W c σ s.heap) (di : DIn c.X s.heap v d)
    (q : ∀ h' tk, Sp c s.heap h' → Inv W c ((x, d) :: σ) h' → Q () { s with heap := h', toks := tk }) : wpAny (Md W) A' (storeName c.env x v) Q E s := by
  obtain ⟨m, hn, hv⟩ := i.vars
  rcases hx with hk | ⟨hk, a, ha⟩
  · refine wpAny_storeName_local hk hn (fun h' hn' hs => ?_) (by rw [i.fk]; rfl)
    have dm : ∀ {v d}, DIn c.X s.heap v d → DIn c.X h' v d := fun y => y.mono fun b o n e => (hs.2 b fun z => n (z ▸ i.ownL)).trans e
    refine q h' _ (Sp.of_same (.inl rfl) hs) ⟨i.run.same hs i.ownL (ns_not_fields hn'), i.fk, i.gl, i.bl, ⟨_, hn', fun y e h => ?_⟩, i.ownL, fun y b hm => ?_, i.apart⟩
    · rcases lookup_cons_eq h with ⟨rfl, rfl⟩ | ⟨ne, h⟩
      · exact .inl ⟨hk, v, if_pos rfl, dm di⟩
      · rcases hv y e h with ⟨k, u, hm, hd⟩ | ⟨k, b, u, hl, hc, hd⟩
        · exact .inl ⟨k, u, (if_neg ne).trans hm, dm hd⟩
        · exact .inr ⟨k, b, u, hl, hc.sameBut hs (i.ownC y b (mem_of_lookup hl)).2.1, dm hd⟩
    · obtain ⟨h1, h2, u, h3⟩ := i.ownC y b hm
      exact ⟨h1, h2, u, h3.sameBut hs h2⟩
  · have hm := mem_of_lookup ha
    obtain ⟨xa, na, u, hc⟩ := i.ownC x a hm
    refine wpAny_storeName_cell i.fk hk ha hc fun h' hc' hs => ?_
    have dm : ∀ {v d}, DIn c.X s.heap v d → DIn c.X h' v d := fun y => y.mono fun b o n e => (hs.2 b fun z => n (z ▸ xa)).trans e
    refine q h' s.toks (Sp.of_same (.inr ⟨x, hm⟩) hs) ⟨i.run.same hs xa (cell_not_fields hc'), i.fk, i.gl, i.bl, ⟨m, hn.sameBut hs (Ne.symm na), fun y e h => ?_⟩, i.ownL, fun y b hb => ?_, i.apart⟩
    · rcases lookup_cons_eq h with ⟨rfl, rfl⟩ | ⟨ne, h⟩
      · exact .inr ⟨hk, a, v, ha, hc', dm di⟩
      · rcases hv y e h with ⟨k, u, hm', hd⟩ | ⟨k, b, u, hl, hcb, hd⟩
        · exact .inl ⟨k, u, hm', dm hd⟩
        · have nb : b ≠ a := fun z => ne (name_of_addr i.apart (mem_of_lookup hl) (z ▸ hm))
          exact .inr ⟨k, b, u, hl, hcb.sameBut hs nb, dm hd⟩
    · obtain ⟨h1, h2, u, h3⟩ := i.ownC y b hb
      by_cases z : b = a
      · subst z; exact ⟨h1, h2, _, hc'⟩
      · exact ⟨h1, h2, u, h3.sameBut hs z⟩

theorem store_ok {x : Str} {v : Value} {d : D} {s : Shared} {Q : Unit → Shared → Prop} {E : Value → Shared → Prop} (hx : Stores c x) (i : Inv W c σ s.heap) (di : DIn c.X s.heap v d)
    (q : ∀ h' tk, Sp c s.heap h' → Inv W c ((x, d) :: σ) h' → Q () { s with heap := h', toks := tk }) : wpAny (Md W) c.A (storeName c.env x v) Q E s := store_any hx i di q

def notComp : Expr → Bool
  | .ListComp .. | .SetComp .. | .DictComp .. => false
  | _ => true
theorem swaps_none {v : Expr} {t : Expr} {n : Nat} {env : Env} (h : notComp v = true) : swapsWith v (some t) n env = pure false := by
  cases v <;> first | rfl | cases h
/-- x = e -/
theorem W1.assign {x : Str} {p1 pos : Pos} {e : Expr} {r : R} {P : Out → Prop} (h : EvE W c σ e r) (hc : notComp e = true) (hx : Stores c x) (k : match r with | .ok d => P (.next ((x, d) :: σ)) | .raise => P (.raise σ)) : W1 W c σ (.Assign [.Name x p1] e pos) P := by
  intro s Q E i p
  refine wpAny_Assign_Name (h s _ E i ?_) (swaps_none hc)
  cases r with
  | ok d => exact fun v h' tk g di => store_ok hx (i.gr g) di fun h'' tk' sp iv => p.next _ h'' tk' k ((Sp.of_gr g).trans sp) iv
  | raise => exact fun e h' tk rz => p.raise σ e s.heap h' tk k (Sp.refl _ _) i rz
/-- x op= e of ints -/
theorem W1.aug {x : Str} {p1 pos : Pos} {op : Operator} {e : Expr} {a b n : Int} {P : Out → Prop} (hx : σ.lookup x = some (.int a)) (h : EvE W c σ e (.ok (.int b))) (hs : Stores c x)
    (ho : ∀ (s : Shared) (t u : Tok) (Q E : Value → Shared → Prop), Q (.int n s.toks) { s with toks := s.toks + 1 } → wpAny (Md W) c.A (inplaceOp op (.int a t) (.int b u)) Q E s)
    (k : P (.next ((x, .int n) :: σ))) : W1 W c σ (.AugAssign (.Name x p1) op e pos) P := by
  intro s Q E i p
  have key : ∀ {Q' : Value → Shared → Prop}, (∀ t, Q' (.int a t) s) → wpAny (Md W) c.A (loadName c.env x) Q' E s := fun {Q'} q => by
    obtain ⟨m, hn, hv⟩ := i.vars
    rcases hv x _ hx with ⟨k, v, hm, di⟩ | ⟨k, b, v, hl, hc, di⟩
    · obtain ⟨t, rfl⟩ := int_inv di
      exact wpAny_loadName_local i.fk k hn hm (q t)
    · obtain ⟨t, rfl⟩ := int_inv di
      exact wpAny_loadName_cell i.fk k hl hc (q t)
  refine wpAny_AugAssign_Name (key fun t => h s _ E i fun v h' tk g di => ?_)
  obtain ⟨u, rfl⟩ := int_inv di
  exact ho _ t u _ E (store_ok hs (i.gr g) (.int _ _) fun h'' tk' sp iv => p.next _ h'' tk' k ((Sp.of_gr g).trans sp) iv)
theorem W1.augAdd {x : Str} {p1 pos : Pos} {e : Expr} {a b : Int} {P : Out → Prop} (hx : σ.lookup x = some (.int a)) (h : EvE W c σ e (.ok (.int b))) (hs : Stores c x) (k : P (.next ((x, .int (a + b)) :: σ))) : W1 W c σ (.AugAssign (.Name x p1) .Add e pos) P :=
  W1.aug hx h hs (fun _ _ _ _ _ q => PySem.P.iadd_int q) k
theorem W1.augSub {x : Str} {p1 pos : Pos} {e : Expr} {a b : Int} {P : Out → Prop} (hx : σ.lookup x = some (.int a)) (h : EvE W c σ e (.ok (.int b))) (hs : Stores c x) (k : P (.next ((x, .int (a - b)) :: σ))) : W1 W c σ (.AugAssign (.Name x p1) .Sub e pos) P :=
  W1.aug hx h hs (fun _ _ _ _ _ q => PySem.P.isub_int q) k
theorem W1.augDiv {x : Str} {p1 pos : Pos} {e : Expr} {a b : Int} {P : Out → Prop} (hx : σ.lookup x = some (.int a)) (h : EvE W c σ e (.ok (.int b))) (hs : Stores c x) (hb : b ≠ 0) (hp : b.natAbs < 2 ^ 9000) (k : P (.next ((x, .int (a.fdiv b)) :: σ))) :
    W1 W c σ (.AugAssign (.Name x p1) .FloorDiv e pos) P :=
  W1.aug hx h hs (fun _ _ _ _ _ q => ifloordiv_int hb q (.inl (PyProof.noPylong_of_log2 (log_lt hp)))) k
end
end Mine
end
section
open PySem PySem.W PySem.Spec PySem.Calls PyProof.Rows
set_option maxRecDepth 100000
namespace Mine

section
variable {W : Wd} {c : Fm} {σ : Sg}

/-- x, y = e (a tuple of two) -/
theorem two_stores {x y : Str} {p1 p2 : Pos} {a b : Value} {dx dy : D} {s : Shared} {Q : Unit → Shared → Prop} {E : Value → Shared → Prop} (hx : Stores c x) (hy : Stores c y) (i : Inv W c σ s.heap) (da : DIn c.X s.heap a dx) (db : DIn c.X s.heap b dy)
    (q : ∀ h' tk, Sp c s.heap h' → Inv W c ((y, dy) :: (x, dx) :: σ) h' → Q () { s with heap := h', toks := tk }) : wpAny (Md W) c.A (assignInOrder [assign (.Name x p1) c.env, assign (.Name y p2) c.env] [a, b]) Q E s := by
  refine assignInOrder_cons (wpAny_assign_Name (store_ok hx i da fun h₁ t₁ sp₁ i₁ => ?_))
  have db' : DIn c.X h₁ b dy := db.mono fun z o n e => (sp₁ z o e (own_X i n)).1 n
  refine assignInOrder_cons (wpAny_assign_Name (store_ok hy i₁ db' fun h₂ t₂ sp₂ i₂ => ?_))
  exact assignInOrder_nil (q h₂ t₂ (sp₁.trans sp₂) i₂)
theorem two_binds {x y : Str} {a b : Value} {dx dy : D} {s : Shared} {Q : Unit → Shared → Prop} {E : Value → Shared → Prop} (hx : Stores c x) (hy : Stores c y) (i : Inv W c σ s.heap) (da : DIn c.X s.heap a dx) (db : DIn c.X s.heap b dy)
    (q : ∀ h' tk, Sp c s.heap h' → Inv W c ((y, dy) :: (x, dx) :: σ) h' → Q () { s with heap := h', toks := tk }) : wpAny (Md W) c.A (assignInOrder [bindName c.env x, bindName c.env y] [a, b]) Q E s := by
  refine assignInOrder_cons (wpAny_bindName (store_ok hx i da fun h₁ t₁ sp₁ i₁ => ?_))
  have db' : DIn c.X h₁ b dy := db.mono fun z o n e => (sp₁ z o e (own_X i n)).1 n
  refine assignInOrder_cons (wpAny_bindName (store_ok hy i₁ db' fun h₂ t₂ sp₂ i₂ => ?_))
  exact assignInOrder_nil (q h₂ t₂ (sp₁.trans sp₂) i₂)

theorem gr_extBut {X : Addr → Prop} {h h' : Heap} (he : Heap.ExtBut h.objs.size h h') : Gr X h h' := Gr.of_keeps fun b o e => he b o (Nat.ne_of_lt (Heap.lt_size e)) e

theorem assign_two {x y : Str} {p1 p2 tp : Pos} {k : Nat} {v : Value} {dx dy : D} {s : Shared} {Q : Unit → Shared → Prop} {E : Value → Shared → Prop} (hx : Stores c x) (hy : Stores c y) (i : Inv W c σ s.heap) (di : DIn c.X s.heap v (.tup [dx, dy]))
    (q : ∀ h' tk, Sp c s.heap h' → Inv W c ((y, dy) :: (x, dx) :: σ) h' → Q () { s with heap := h', toks := tk }) : wpAny (Md W) c.A (assign (.Tuple [.Name x p1, .Name y p2] k tp) c.env v) Q E s := by
  obtain ⟨a, vs, rfl, hxa, ht, dl⟩ := tup_inv di
  obtain ⟨v₁, r, rfl, d₁, dr⟩ := dall_cons dl
  obtain ⟨v₂, r', rfl, d₂, dr'⟩ := dall_cons dr
  rw [dall_nil dr'] at ht
  refine assign_Tuple_tuple i.run.hh ht rfl rfl fun h' he => ?_
  have g : Gr c.X s.heap h' := gr_extBut he
  exact two_stores (p1 := p1) (p2 := p2) (s := { s with heap := h' }) hx hy (i.gr g) (d₁.gr g) (d₂.gr g) fun h'' tk sp iv => q h'' tk ((Sp.of_gr g).trans sp) iv
theorem W1.assign2 {x y : Str} {p1 p2 tp pos : Pos} {k : Nat} {e : Expr} {dx dy : D} {P : Out → Prop} (h : EvE W c σ e (.ok (.tup [dx, dy]))) (hc : notComp e = true) (hw : swappedStores [.Tuple [.Name x p1, .Name y p2] k tp] e c.env = pure none)
    (hx : Stores c x) (hy : Stores c y) (q : P (.next ((y, dy) :: (x, dx) :: σ))) : W1 W c σ (.Assign [.Tuple [.Name x p1, .Name y p2] k tp] e pos) P := by
  intro s Q E i p
  refine Assign_Tuple (h s _ E i fun v h' tk g di => ?_) ?_ hw
  · exact assign_two hx hy (i.gr g) di fun h'' tk' sp iv => p.next _ h'' tk' q ((Sp.of_gr g).trans sp) iv
  · cases e <;> first | rfl | cases hc
theorem W1.assign2s {x y : Str} {p1 p2 tp pos : Pos} {k : Nat} {e : Expr} {dx dy : D} {P : Out → Prop} (h : EvE W c σ e (.ok (.tup [dx, dy]))) (hc : notComp e = true) (hw : swappedStores [.Tuple [.Name x p1, .Name y p2] k tp] e c.env = pure (some [x, y]))
    (hx : Stores c x) (hy : Stores c y) (q : P (.next ((x, dx) :: (y, dy) :: σ))) : W1 W c σ (.Assign [.Tuple [.Name x p1, .Name y p2] k tp] e pos) P := by
  intro s Q E i p
  refine Assign_Tuple_swapped (names := [x, y]) (h s _ E i fun v h' tk g di => ?_) ?_ hw
  · obtain ⟨a, vs, rfl, hxa, ht, dl⟩ := tup_inv di
    obtain ⟨v₁, r, rfl, d₁, dr⟩ := dall_cons dl
    obtain ⟨v₂, r', rfl, d₂, dr'⟩ := dall_cons dr
    rw [dall_nil dr'] at ht
    show wpAny (Md W) c.A (unpackItems (.ref a) ([v₁, v₂].toArray).size none) _ _ _
    refine unpackItems_tuple (s := { s with heap := h', toks := tk }) i.run.hh ht fun h'' he => ?_
    have g' : Gr c.X h' h'' := gr_extBut he
    show wpAny (Md W) c.A (assignInOrder [bindName c.env y, bindName c.env x] [v₂, v₁]) _ _ _
    exact two_binds (s := { s with heap := h'', toks := tk }) hy hx ((i.gr g).gr g') (d₂.gr g') (d₁.gr g') fun h3 tk' sp iv => p.next _ h3 tk' q ((Sp.of_gr (g.trans g')).trans sp) iv
  · cases e <;> first | rfl | cases hc
end

/-- a def of the text -/
def EndP (r : R) : Out → Prop
  | .ret d => r = .ok d
  | .next _ => r = .ok .none
  | .raise _ => r = .raise
  | .fresh => r = .raise
  | _ => False

theorem zip_look {X : Addr → Prop} {h : Heap} : ∀ (xs : List Str) {vs : List Value} {ds : List D}, DAll X h vs ds → ∀ (l₁ : List (Str × Value)) (l₂ : List (Str × D)), (∀ y d, l₂.lookup y = some d → ∃ v, l₁.lookup y = some v ∧ DIn X h v d) → (∀ y, l₁.lookup y = none → l₂.lookup y = none) →
    ∀ y d, ((xs.zip ds).reverse ++ l₂).lookup y = some d → ∃ v, ((xs.zip vs).reverse ++ l₁).lookup y = some v ∧ DIn X h v d
  | [], _, _, _, l₁, l₂, k, _, y, d, e => by simpa using k y d (by simpa using e)
  | x :: xs, _, [], da, l₁, l₂, k, _, y, d, e => by
    rw [dall_nil da]
    simpa using k y d (by simpa using e)
  | x :: xs, _, e0 :: ds, da, l₁, l₂, k, kn, y, d, e => by
    obtain ⟨v, r, rfl, dv, dr⟩ := dall_cons da
    simp only [List.zip_cons_cons, List.reverse_cons, List.append_assoc, List.cons_append, List.nil_append] at e ⊢
    refine zip_look xs dr ((x, v) :: l₁) ((x, e0) :: l₂) (fun z d' h' => ?_) (fun z h' => ?_) y d e
    · rcases lookup_cons_eq h' with ⟨rfl, rfl⟩ | ⟨ne, h'⟩
      · exact ⟨v, by simp, dv⟩
      · obtain ⟨u, h1, h2⟩ := k z d' h'
        refine ⟨u, ?_, h2⟩
        rw [List.lookup_cons, show (z == x) = false from beq_eq_false_iff_ne.mpr ne]; exact h1
    · rw [List.lookup_cons] at h' ⊢
      cases q : z == x with
      | true => rw [q] at h'; cases h'
      | false => rw [q] at h'; exact kn z h'
theorem zip_look0 {X : Addr → Prop} {h : Heap} {xs : List Str} {vs : List Value} {ds : List D} (da : DAll X h vs ds) (y : Str) (d : D) (e : (xs.zip ds).reverse.lookup y = some d) : ∃ v, (xs.zip vs).reverse.lookup y = some v ∧ DIn X h v d := by
  have := zip_look xs da [] [] (fun _ _ h => by simp at h) (fun _ _ => rfl) y d (by simpa using e)
  simpa using this

structure FrOK (c : Fm) (scope : Scope) (k : Nat) : Prop where
  sc : c.env.scope = scope
  k : c.k = k
  top : ∃ outer, c.A.frames = some (c.env :: outer)
  fr : c.env.frame = some c.env.locals
  cells : c.env.cells = []

theorem callOK_def {W : Wd} {f : Addr} {name qual : Str} {params : Arguments} {body : List Stmt} {scope : Scope} {dV kV doc pm cdv ct oc : Value} {an od : Option Addr} {osl : Array (Option Value)} {ds : List D} {r : R} {k : Nat} (xs : List Str)
    (ho : W.K.lookup f = some ⟨oc, od, .func (fnOf name qual params body scope dV kV doc pm an cdv ct), osl⟩) (hcd : codeIn W.K cdv qual = true) (hlen : xs.length = ds.length)
    (hb : ∀ vs : List Value, vs.length = xs.length → bindArgs (fnOf name qual params body scope dV kV doc pm an cdv ct) ⟨vs, []⟩ = pure (xs.zip vs))
    (hxs : ∀ x ∈ xs, scope.names.lookup x = some .local) (hcell : ∀ x ∈ scope.names, x.2 ≠ .cell) (hco : scope.isCoroutine = false) (hgen : scope.isGenerator = false) (hk : scope.kind = .function)
    (h : ∀ c : Fm, FrOK c scope k → WS W c (xs.zip ds).reverse body (EndP r)) : CallOK W (k + 1) (.ref f) ds r := by
  intro X A s vs Q E rn da p
  have hl := dall_len da
  refine wpAny_call ?_
  refine codeAny_call_def (fd := fnOf name qual params body scope dV kV doc pm an cdv ct) (body := body) (binds := xs.zip vs) (by have := rn.hd; omega) (rn.stay _ _ (W.hK _ _ ho)) rfl (W.T.nolimit.keeps rn.stay) ((codeRec_of W.hK hcd).keeps rn.stay) rfl
    (BindsTo.of_eq (hb vs (by omega))) hcell (fun x hx => hxs x.1 (List.of_mem_zip hx).1) (fun h₀ hns hk₀ => ?_) hco hgen hk
  obtain ⟨envs, hfr, hff, hfx⟩ := rn.frames
  generalize hE : callEnv (fnOf name qual params body scope dV kV doc pm an cdv ct) s.heap.objs.size f = env
  have e1 : env.scope = scope := by rw [← hE]; rfl
  have e2 : env.locals = s.heap.objs.size := by rw [← hE]; rfl
  have e3 : env.frame = some s.heap.objs.size := by rw [← hE]; rfl
  have e4 : env.cells = [] := by rw [← hE]; rfl
  have e5 : env.globals = mainGlobals := by rw [← hE]; rfl
  have e6 : env.builtins = builtinsNs := by rw [← hE]; rfl
  let c : Fm := ⟨fun b => X b ∨ b = s.heap.objs.size, A.deeper env, env, k⟩
  have hnew : ∀ b o, s.heap.get? b = some o → b ≠ s.heap.objs.size := fun b o e => Nat.ne_of_lt (Heap.lt_size e)
  have hbn : W.base.get? s.heap.objs.size = none := by
    cases q : W.base.get? s.heap.objs.size with
    | none => rfl
    | some o => exact absurd rfl (hnew _ _ (rn.stay _ _ q))
  have hfl := ns_not_fields hns
  have hown : ∀ b, X b ∨ b = s.heap.objs.size → ∃ o, h₀.get? b = some o ∧ ∀ ws, o.data ≠ .fields ws := fun b x => by
    rcases x with x | rfl
    · obtain ⟨o, h1, h2⟩ := rn.own b x
      exact ⟨o, hk₀ _ _ h1, h2⟩
    · exact hfl
  have da' : DAll c.X h₀ vs ds := ((dset (Y := c.X) fun b o e n q => q.elim n fun z => hnew b o e z).2 da).mono fun b o _ e => hk₀ b o e
  have iv : Inv W c (xs.zip ds).reverse h₀ := by
    refine ⟨⟨rn.hh, ?_, ?_, ⟨env :: envs, ?_, ⟨by rw [e1, hk]; decide, ⟨_, hfl.choose, e3, hbn, hfl.choose_spec⟩, funFrames_re hff fun b hb' => hown b (.inl (hfx b hb'))⟩, fun b hb' => ?_⟩, fun b o e => hk₀ _ _ (rn.stay b o e), hown, fun b x => ?_⟩, by rw [e1]; exact hk, e5, e6, ⟨_, by rw [e2]; exact hns, fun y d e => ?_⟩, .inr e2, fun y b hm => ?_, ?_⟩
    · have := rn.hd; show A.depth + 1 + k < _; omega
    · have := rn.hu; show A.units + 3 + 64 * k < _; omega
    · show A.frames.map (env :: ·) = _; rw [hfr]; rfl
    · simp only [List.filterMap_cons, e3] at hb'
      rcases List.mem_cons.mp hb' with rfl | hb'
      · exact .inr rfl
      · exact .inl (hfx b hb')
    · rcases x with x | rfl
      · exact rn.off b x
      · exact hbn
    · obtain ⟨v, h1, h2⟩ := zip_look0 da' y d e
      refine .inl ⟨?_, v, h1, h2⟩
      show env.scope.names.lookup y = _
      rw [e1]
      exact hxs y (List.of_mem_zip (List.mem_reverse.mp (mem_of_lookup h1))).1
    · rw [show c.env = env from rfl, e4] at hm; cases hm
    · rw [show c.env = env from rfl, e4]; exact List.Pairwise.nil
  have nOwn : ∀ b o, s.heap.get? b = some o → ¬ Own c.env b := fun b o e q => by
    rcases q with q | ⟨y, q⟩
    · exact hnew b o e (q.trans e2)
    · rw [show c.env = env from rfl, e4] at q; cases q
  have gr : ∀ h', Sp c h₀ h' → Gr X s.heap h' := fun h' sp b o e =>
    ⟨fun n => (sp b o (hk₀ _ _ e) (nOwn b o e)).1 fun q => q.elim n (hnew b o e), fun n => (sp b o (hk₀ _ _ e) (nOwn b o e)).2 (.inl n)⟩
  have dout : ∀ h' v d, DIn c.X h' v d → DIn X h' v d := fun h' v d => (dset fun b o _ n x => n (.inl x)).1
  have hst : ∀ {B : Heap}, (∀ b o, h₀.get? b = some o → ¬ c.X b → B.get? b = some o) → ∀ b o, s.heap.get? b = some o → ¬ X b → B.get? b = some o := fun k b o e n => k b o (hk₀ _ _ e) fun q => q.elim n (hnew b o e)
  have hrz : ∀ {B h' h'' : Heap}, Sp c h₀ h' → (∀ b o, h₀.get? b = some o → ¬ c.X b → B.get? b = some o) → B.StaysIn h'' → (∀ b o, h'.get? b = some o → (∀ ws, o.data ≠ .fields ws) → ∃ sl, h''.get? b = some { o with slots := sl }) → Gr X s.heap h'' := fun {B h' h''} sp hB st up b o e =>
    ⟨fun n => st b o (hst hB b o e n), fun n => by
      obtain ⟨sl, h1⟩ := (gr h' sp b o e).2 n
      obtain ⟨o', h2, h3⟩ := rn.own b n
      rw [e] at h2; cases h2
      exact up b { o with slots := sl } h1 h3⟩
  have hfr' : (A.deeper env).frames = some (env :: envs) := by show A.frames.map (env :: ·) = _; rw [hfr]; rfl
  refine h c ⟨e1, rfl, ⟨envs, hfr'⟩, e3.trans (congrArg some e2.symm), e4⟩ { s with heap := h₀, toks := s.toks + (xs.zip vs).length } _ _ iv ⟨fun τ h' tk x sp _ => ?_, fun d v h' tk x sp di => ?_, fun _ _ _ x => x.elim, fun _ _ _ x => x.elim, fun τ e h₁ h' tk x sp iv₁ rz => ?_, fun e h' tk x fz => ?_⟩
  · have : r = .ok .none := x
    subst this
    exact p .none h' tk (gr h' sp) .none
  · have : r = .ok d := x
    subst this
    exact p v h' tk (gr h' sp) (dout _ _ _ di)
  · have : r = .raise := x
    subst this
    obtain ⟨g₁, B, envs', a0, hf', hB1, hB2, hfly⟩ := rz
    have : envs' = env :: envs := Option.some.inj (hf'.symm.trans hfr')
    subst this
    have hB2' : ∀ b o, h₀.get? b = some o → ¬ c.X b → B.get? b = some o := fun b o e n => hB2 b o ((sp b o e (own_X iv n)).1 n) n
    refine wpAny_leaves_onW (s := { s with heap := h', toks := tk }) hfr' e3 hfly fun h'' fl up => ?_
    exact p e h'' tk ⟨hrz (sp.trans (.of_gr g₁)) hB2' fl.1 up, B, envs, a0, hfr, hB1, hst hB2', fl⟩
  · have : r = .raise := x
    subst this
    obtain ⟨sp, B, envs', a0, oe, ws, hf', hB1, hB2, hB3, hB4, hB5, he, hec, hed, he1, he0⟩ := fz
    have : envs' = env :: envs := Option.some.inj (hf'.symm.trans hfr')
    subst this
    refine wpAny_leaving_firstW (s := { s with heap := h', toks := tk }) hfr' hB5 e3 he hB3 hB4 hed he1 he0 fun h'' hL => ?_
    obtain ⟨k1, ⟨_, _, k2⟩, k3, k4⟩ := hL
    rw [hec] at k3
    exact p e h'' tk ⟨hrz sp hB2 k1 k4, B, envs, a0, hfr, hB1, hst hB2, k1, hB4, k2, k3⟩
end Mine
end
section
open PySem PySem.W PySem.Spec PySem.Calls PyProof.Rows
set_option maxRecDepth 100000
namespace Mine

/-- data stay where all unowned objects stay that are no records -/
theorem dmonoF {X : Addr → Prop} {h h' : Heap} (k : ∀ b o, ¬ X b → h.get? b = some o → (∀ vs, o.data ≠ .fields vs) → h'.get? b = some o) :
    (∀ {v d}, DIn X h v d → DIn X h' v d) ∧ (∀ {vs ds}, DAll X h vs ds → DAll X h' vs ds) := by
  refine ⟨fun {v d} x => ?_, fun {vs ds} x => ?_⟩
  · exact DIn.rec (motive_1 := fun v d _ => DIn X h' v d) (motive_2 := fun vs ds _ => DAll X h' vs ds)
      .none (fun b => .bool b) (fun i t => .int i t) (fun x t => .str x t)
      (fun hx ht _ ih => .tup hx (let ⟨o, ho, hc, n, hd⟩ := ht; ⟨o, k _ _ hx ho (fun vs e => by rw [hd] at e; cases e), hc, n, hd⟩) ih)
      (fun hx ht _ ih => .lst hx (let ⟨o, ho, hc, n, hd⟩ := ht; ⟨o, k _ _ hx ho (fun vs e => by rw [hd] at e; cases e), hc, n, hd⟩) ih)
      (fun hx hy ho hn e1 e2 => .lim hx hy (k _ _ hx ho (fun vs e => by cases e)) (let ⟨o, es, ep, ho, hd, r⟩ := hn; ⟨o, es, ep, k _ _ hy ho (fun vs e => by rw [hd] at e; cases e), hd, r⟩) e1 e2)
      .nil (fun _ _ i1 i2 => .cons i1 i2) x
  · exact DAll.rec (motive_1 := fun v d _ => DIn X h' v d) (motive_2 := fun vs ds _ => DAll X h' vs ds)
      .none (fun b => .bool b) (fun i t => .int i t) (fun x t => .str x t)
      (fun hx ht _ ih => .tup hx (let ⟨o, ho, hc, n, hd⟩ := ht; ⟨o, k _ _ hx ho (fun vs e => by rw [hd] at e; cases e), hc, n, hd⟩) ih)
      (fun hx ht _ ih => .lst hx (let ⟨o, ho, hc, n, hd⟩ := ht; ⟨o, k _ _ hx ho (fun vs e => by rw [hd] at e; cases e), hc, n, hd⟩) ih)
      (fun hx hy ho hn e1 e2 => .lim hx hy (k _ _ hx ho (fun vs e => by cases e)) (let ⟨o, es, ep, ho, hd, r⟩ := hn; ⟨o, es, ep, k _ _ hy ho (fun vs e => by rw [hd] at e; cases e), hd, r⟩) e1 e2)
      .nil (fun _ _ i1 i2 => .cons i1 i2) x

section
variable {W : Wd} {c : Fm} {σ : Sg}

/-- the frame's invariant stays where only one record outside changes -/
theorem Inv.rec1 {h h' : Heap} {I : Addr} (i : Inv W c σ h) (hI : ∃ o vs, h.get? I = some o ∧ o.data = .fields vs) (hb : W.base.get? I = none) (k : ∀ b o, b ≠ I → h.get? b = some o → h'.get? b = some o) : Inv W c σ h' := by
  obtain ⟨oI, vI, hI1, hI2⟩ := hI
  have nf : ∀ b o, h.get? b = some o → (∀ vs, o.data ≠ .fields vs) → h'.get? b = some o := fun b o e n => k b o (fun z => by
    subst z; rw [hI1] at e; cases e; exact n _ hI2) e
  have dm := dmonoF (X := c.X) (h := h) (h' := h') fun b o _ e n => nf b o e n
  have nsm : ∀ {a : Addr} {m : Str → Option Value}, h.Ns a m → h'.Ns a m := fun {a m} hn => by
    obtain ⟨o, es, ep, ho, hd, r⟩ := hn
    exact ⟨o, es, ep, nf _ _ ho (fun vs e => by rw [hd] at e; cases e), hd, r⟩
  have clm : ∀ {a : Addr} {v : Option Value}, h.IsCell a v → h'.IsCell a v := fun {a v} hn => by
    obtain ⟨o, ho, hd⟩ := hn
    exact ⟨o, nf _ _ ho (fun vs e => by rw [hd] at e; cases e), hd⟩
  have own' : ∀ b, c.X b → ∃ o, h'.get? b = some o ∧ ∀ vs, o.data ≠ .fields vs := fun b x => by
    obtain ⟨o, h1, h2⟩ := i.run.own b x
    exact ⟨o, nf _ _ h1 h2, h2⟩
  refine ⟨⟨i.run.hh, i.run.hd, i.run.hu, ?_, fun b o e => k b o (fun z => by rw [z, hb] at e; cases e) (i.run.stay b o e), own', i.run.off⟩, i.fk, i.gl, i.bl, ?_, i.ownL, fun x a hm => ?_, i.apart⟩
  · obtain ⟨envs, h1, h2, h3⟩ := i.run.frames
    exact ⟨envs, h1, funFrames_re h2 fun b hb => own' b (h3 b hb), h3⟩
  · obtain ⟨m, hn, hv⟩ := i.vars
    refine ⟨m, nsm hn, fun x d e => ?_⟩
    rcases hv x d e with ⟨q, v, hm, hd⟩ | ⟨q, a, v, hl, hc, hd⟩
    · exact .inl ⟨q, v, hm, dm.1 hd⟩
    · exact .inr ⟨q, a, v, hl, clm hc, dm.1 hd⟩
  · obtain ⟨h1, h2, v, h3⟩ := i.ownC x a hm
    exact ⟨h1, h2, v, clm h3⟩

/-- while, by what holds between the turns and a measure -/
theorem W1.while_ {t : Expr} {body : List Stmt} {pos : Pos} {P : Out → Prop} (J : Nat → Sg → Prop) (b : Sg → Bool)
    (ht : ∀ n τ, J n τ → EvT W c τ t (b τ)) (hb : ∀ n τ, J n τ → b τ = true → WS W c τ body (fun o => match o with | .next τ' => ∃ m, m < n ∧ J m τ' | _ => False)) (he : ∀ n τ, J n τ → b τ = false → P (.next τ))
    (n : Nat) (h0 : J n σ) : W1 W c σ (.While t body [] pos) P := by
  intro s Q E i p
  refine wpAny_While ?_
  refine codeAny_whileLoop (fun n s' => ∃ h' tk τ, s' = { s with heap := h', toks := tk } ∧ J n τ ∧ Inv W c τ h' ∧ Sp c s.heap h') ?_ n ⟨s.heap, s.toks, σ, rfl, h0, i, Sp.refl _ _⟩
  rintro n s' ⟨h', tk, τ, rfl, hJ, iv, sp⟩
  refine ht n τ hJ { s with heap := h', toks := tk } _ _ iv fun h₁ t₁ g₁ => ?_
  cases hbb : b τ with
  | false =>
    refine wpAny_execs_nil ?_
    exact p.next τ h₁ t₁ (he n τ hJ hbb) (sp.trans (.of_gr g₁)) (iv.gr g₁)
  | true =>
    refine hb n τ hJ hbb { s with heap := h₁, toks := t₁ } _ _ (iv.gr g₁) ⟨fun τ' h'' tk' x y z => ?_, fun _ _ _ _ x => x.elim, fun _ _ _ x => x.elim, fun _ _ _ x => x.elim, fun _ _ _ _ _ x => x.elim, fun _ _ _ x => x.elim⟩
    obtain ⟨m, hm, hJ'⟩ := x
    exact ⟨m, hm, h'', tk', τ', rfl, hJ', z, (sp.trans (.of_gr g₁)).trans y⟩

theorem PostS.at {h₀ h : Heap} {P : Out → Prop} {s : Shared} {Q : Flow → Shared → Prop} {E : Value → Shared → Prop} {tk : Nat} (p : PostS W c h₀ P s Q E) : PostS W c h₀ P { s with heap := h, toks := tk } Q E :=
  ⟨p.next, p.ret, p.brk, p.cont, p.raise, p.fresh⟩
/-- a for over an iterator -/
theorem for_core {target : Expr} {body : List Stmt} {ds : List D} {I : Addr} {fp : List Addr} {Pv : Nat → Value → Prop} {St : Nat → Heap → Prop} {s : Shared} {Q : Flow → Shared → Prop} {E : Value → Shared → Prop} {P : Out → Prop} {h₀ : Heap}
    (WK : Walks W.prog W.w c.A I fp [I] ds.length Pv St) (hfp : ∀ b ∈ fp, ¬ c.X b) (hI0 : h₀.get? I = none) (hbI : W.base.get? I = none) (hXI : ¬ c.X I)
    (hSt : ∀ i h, St i h → ∃ o vs, h.get? I = some o ∧ o.data = .fields vs)
    (hgo : ∀ i h tk v (Q : Unit → Shared → Prop) (E : Value → Shared → Prop), St i h → Q () { s with heap := h, toks := tk } → wpAny (Md W) c.A (letOwnedTupleGo target (.ref I) v) Q E { s with heap := h, toks := tk })
    (ext : D → Sg → Sg) (hasg : ∀ (τ : Sg) (v : Value) (j : Nat) (d : D) (s' : Shared) (Q : Unit → Shared → Prop) (E : Value → Shared → Prop), ds[j]? = some d → Inv W c τ s'.heap → DIn c.X s'.heap v d → (∀ h' tk, Sp c s'.heap h' → Inv W c (ext d τ) h' → Q () { s' with heap := h', toks := tk }) → wpAny (Md W) c.A (assign target c.env v) Q E s')
    (J : Nat → Sg → Prop) (i : Inv W c σ s.heap) (hst : St 0 s.heap) (sp0 : Sp c h₀ s.heap) (hdat : ∀ (j : Nat) (v : Value) (d : D), Pv j v → ds[j]? = some d → DIn c.X s.heap v d) (h0 : J 0 σ)
    (hb : ∀ (j : Nat) (d : D) (τ : Sg), ds[j]? = some d → J j τ → WS W c (ext d τ) body (fun o => match o with | .next τ' => J (j + 1) τ' | .ret d => P (.ret d) | _ => False)) (he : ∀ τ, J ds.length τ → P (.next τ))
    (p : PostS W c h₀ P s Q E) : codeAny (Md W) c.A (.forLoop target (.ref I) body [] c.env) (fun r s' => match r with | .ok f => Q f s' | .error e => cameBackBy (Md W) c.A c.env E e s') s := by
  refine codeAny_forLoop_any (fun n s' => ∃ h' tk τ j, s' = { s with heap := h', toks := tk } ∧ J j τ ∧ j ≤ ds.length ∧ n = ds.length + 1 - j ∧ Inv W c τ h' ∧ St j h' ∧ Sp c h₀ h' ∧ (∀ j v d, Pv j v → ds[j]? = some d → DIn c.X h' v d)) ?_
    (ds.length + 1) ⟨s.heap, s.toks, σ, 0, rfl, h0, Nat.zero_le _, rfl, i, hst, sp0, hdat⟩
  rintro n s' ⟨h', tk, τ, j, rfl, hJ, hj, rfl, iv, st, sp, dat⟩
  have step : ∀ h'', (∀ b o, b ∉ [I] → h'.get? b = some o → h''.get? b = some o) → Inv W c τ h'' ∧ Sp c h₀ h'' ∧ (∀ j v d, Pv j v → ds[j]? = some d → DIn c.X h'' v d) := fun h'' k => by
    have k' : ∀ b o, b ≠ I → h'.get? b = some o → h''.get? b = some o := fun b o n e => k b o (by simpa using n) e
    obtain ⟨oI, vI, hI1, hI2⟩ := hSt _ _ st
    refine ⟨iv.rec1 ⟨oI, vI, hI1, hI2⟩ hbI k', fun b o e n => ?_, fun j v d x y => ?_⟩
    · have nb : b ≠ I := fun z => by rw [z, hI0] at e; cases e
      refine ⟨fun q => k' b o nb ((sp b o e n).1 q), fun q => ?_⟩
      obtain ⟨sl, e1⟩ := (sp b o e n).2 q
      exact ⟨sl, k' b _ nb e1⟩
    · exact (dmonoF fun b o _ e nf => k' b o (fun z => by subst z; rw [hI1] at e; cases e; exact nf _ hI2) e).1 (dat j v d x y)
  by_cases hlt : j < ds.length
  · refine WK.item j { s with heap := h', toks := tk } _ _ hlt st fun v h₁ t₁ hv st₁ k₁ => ?_
    obtain ⟨iv₁, sp₁, dat₁⟩ := step h₁ k₁
    refine hgo _ h₁ t₁ v _ _ st₁ ?_
    have hd : ds[j]? = some ds[j] := by simp [hlt]
    refine hasg τ v j _ { s with heap := h₁, toks := t₁ } _ _ hd iv₁ (dat₁ j v _ hv hd) fun h₂ t₂ sp₂ iv₂ => ?_
    refine hb j _ τ hd hJ { s with heap := h₂, toks := t₂ } _ _ iv₂ ⟨fun τ' h₃ t₃ x y z => ?_, fun d u h₃ t₃ x y z => ?_, fun _ _ _ x => x.elim, fun _ _ _ x => x.elim, fun _ _ _ _ _ x => x.elim, fun _ _ _ x => x.elim⟩
    · have y' := sp₂.trans y
      have stay : ∀ b, ¬ c.X b → ∀ o, h₁.get? b = some o → h₃.get? b = some o := fun b n o e => (y' b o e (own_X iv n)).1 n
      exact ⟨ds.length + 1 - (j + 1), by omega, h₃, t₃, τ', j + 1, rfl, x, hlt, rfl, z, WK.frame _ _ _ st₁ (fun b hb o e => stay b (hfp b hb) o e), sp₁.trans y', fun j v d a b => (dat₁ j v d a b).mono fun b o n e => stay b n o e⟩
    · exact p.ret d u h₃ t₃ x ((sp₁.trans sp₂).trans y) z
  · have hjn : j = ds.length := by omega
    subst hjn
    refine WK.done { s with heap := h', toks := tk } _ _ st fun h₁ t₁ k₁ => ?_
    obtain ⟨iv₁, sp₁, _⟩ := step h₁ k₁
    exact wpAny_execs_nil (p.next τ h₁ t₁ (he τ hJ) sp₁ iv₁)

theorem new_off {X : Addr → Prop} {A : Around} {k : Nat} {h : Heap} (r : Run W X A k h) : W.base.get? h.objs.size = none := by
  cases q : W.base.get? h.objs.size with
  | none => rfl
  | some o => exact absurd (Heap.lt_size (r.stay _ _ q)) (Nat.lt_irrefl _)
theorem none_of_size {h : Heap} : h.get? h.objs.size = none := by
  cases q : h.get? h.objs.size with
  | none => rfl
  | some o => exact absurd (Heap.lt_size q) (Nat.lt_irrefl _)
theorem none_before {X : Addr → Prop} {h h' : Heap} (g : Gr X h h') : h.get? h'.objs.size = none := by
  cases q : h.get? h'.objs.size with
  | none => rfl
  | some o =>
    obtain ⟨sl, e⟩ := g.any q
    exact absurd (Heap.lt_size e) (Nat.lt_irrefl _)

def notSet : Expr → Bool
  | .Set .. => false
  | _ => true
theorem folded_none {e : Expr} {env : Env} (h : notSet e = true) (x : Value) : foldedSetIterable e env x = pure x := by
  cases e <;> first | rfl | cases h

/-- for x in e, e a list of data -/
theorem W1.forList {target iter : Expr} {body : List Stmt} {pos : Pos} {ds : List D} {P : Out → Prop} (hi : EvE W c σ iter (.ok (.lst ds))) (hs : notSet iter = true)
    (hgo : ∀ (s : Shared) (I l : Addr) (j : Nat) (v : Value) (Q : Unit → Shared → Prop) (E : Value → Shared → Prop), s.heap.IsListIter I l j → Q () s → wpAny (Md W) c.A (letOwnedTupleGo target (.ref I) v) Q E s)
    (ext : D → Sg → Sg) (hasg : ∀ (τ : Sg) (v : Value) (j : Nat) (d : D) (s' : Shared) (Q : Unit → Shared → Prop) (E : Value → Shared → Prop), ds[j]? = some d → Inv W c τ s'.heap → DIn c.X s'.heap v d → (∀ h' tk, Sp c s'.heap h' → Inv W c (ext d τ) h' → Q () { s' with heap := h', toks := tk }) → wpAny (Md W) c.A (PySem.assign target c.env v) Q E s')
    (J : Nat → Sg → Prop) (h0 : J 0 σ)
    (hb : ∀ (j : Nat) (d : D) (τ : Sg), ds[j]? = some d → J j τ → WS W c (ext d τ) body (fun o => match o with | .next τ' => J (j + 1) τ' | .ret d => P (.ret d) | _ => False)) (he : ∀ τ, J ds.length τ → P (.next τ)) : W1 W c σ (.For target iter body [] pos) P := by
  intro s Q E i p
  refine wpAny_For (hi s _ E i fun v h₁ t₁ g₁ d₁ => ?_) (folded_none hs)
  obtain ⟨a, vs, rfl, hxa, hl, dl⟩ := lst_inv d₁
  have i₁ := i.gr g₁
  refine wpAny_pyIter_list (s := { s with heap := h₁, toks := t₁ }) hl ?_
  have gp := Gr.push (X := c.X) h₁ { cls := .type "list_iterator", data := .fields #[.ref a, .int 0 0] }
  have hsz : ∀ o : Obj, h₁.get? a = some o → a ≠ h₁.objs.size := fun o e => Nat.ne_of_lt (Heap.lt_size e)
  have hal : a ≠ h₁.objs.size := let ⟨o, ho, _⟩ := hl; hsz o ho
  have hlen : vs.toArray.size = ds.length := by rw [List.size_toArray]; exact dall_len dl
  have WK := Walks.list (prog := W.prog) (w := W.w) i.run.hh h₁.objs.size a hal vs.toArray
  rw [hlen] at WK
  refine for_core (h₀ := s.heap) WK (fun b hb => ?_) (none_before g₁) (new_off i₁.run) (own_size i₁.run) (fun j h st => ?_) (fun j h tk v Q E st q => hgo _ _ _ _ _ Q E st.1 q) ext hasg J (i₁.gr gp) ⟨⟨_, Heap.get?_push_size _ rfl, rfl, rfl⟩, let ⟨o, ho, r⟩ := hl; ⟨o, Heap.get?_push_of_some _ ho, r⟩⟩ ((Sp.of_gr g₁).trans (Sp.of_gr gp)) (fun j v d hv hd => ?_) h0 hb he p.at
  · simp only [List.mem_cons, List.not_mem_nil, or_false] at hb
    rcases hb with rfl | rfl
    · exact own_size i₁.run
    · exact hxa
  · obtain ⟨⟨o, ho, hc, hd⟩, _⟩ := st
    exact ⟨o, _, ho, hd⟩
  · obtain ⟨u, hu, du⟩ := dall_get dl hd
    have : vs.toArray[j]? = some v := hv
    simp only [List.getElem?_toArray] at this
    rw [hu] at this; cases this
    exact du.gr gp

theorem ev_range {e : Expr} {np pos : Pos} {n : Int} {s : Shared} {Q E : Value → Shared → Prop} (i : Inv W c σ s.heap) (hg : nsIn W.K mainGlobals (Str.ofString "range") = some none) (hx : c.env.kindOf (Str.ofString "range") = some .globalImplicit)
    (hs : notStar e = true) (he : EvE W c σ e (.ok (.int n)))
    (q : ∀ h' tk r t u v, Gr c.X s.heap h' → IsRange h' r 0 n 1 t u v → Q (.ref r) { s with heap := h', toks := tk }) : wpAny (Md W) c.A (eval (.Call (.Name (Str.ofString "range") np) [e] [] pos) c.env) Q E s := by
  refine wpAny_Call_Name_kw (ev_builtin (v := .type "range") i hg (by decide +kernel) (by decide +kernel) hx (by decide +kernel) ?_)
  have hs' : ([e] : List Expr).all notStar = true := by simp [hs]
  refine PySem.callWith_type (plain_args hs') (args_ok i hs' (EvL.cons hs he EvL.nil) fun vs h' tk g d => ?_)
  obtain ⟨t, rfl⟩ := one_int d
  refine call_range_1 (s := { s with heap := h', toks := tk }) ?_
  exact q _ _ _ _ _ _ (g.trans (Gr.push _ _)) (Heap.get?_push_size _ rfl)

def rangeD (n : Int) : List D := (List.range n.toNat).map fun (i : Nat) => D.int i
theorem W1.forRange {x : Str} {px np rp pos : Pos} {e : Expr} {body : List Stmt} {n : Int} {P : Out → Prop} (he : EvE W c σ e (.ok (.int n))) (hs : notStar e = true) (hg : nsIn W.K mainGlobals (Str.ofString "range") = some none) (hr : c.env.kindOf (Str.ofString "range") = some .globalImplicit)
    (hx : Stores c x) (hn : n.natAbs < 2 ^ 61) (J : Nat → Sg → Prop) (h0 : J 0 σ)
    (hb : ∀ (j : Nat) (τ : Sg), j < n.toNat → J j τ → WS W c ((x, .int j) :: τ) body (fun o => match o with | .next τ' => J (j + 1) τ' | .ret d => P (.ret d) | _ => False)) (hend : ∀ τ, J n.toNat τ → P (.next τ)) :
    W1 W c σ (.For (.Name x px) (.Call (.Name (Str.ofString "range") np) [e] [] rp) body [] pos) P := by
  intro s Q E i p
  refine wpAny_For (ev_range i hg hr hs he fun h₁ t₁ r t u v g₁ hR => ?_) (folded_none rfl)
  have i₁ := i.gr g₁
  refine wpAny_pyIter_range (s := { s with heap := h₁, toks := t₁ }) hR (small_one (by omega) (by omega) (by omega) (by omega)) ?_
  have gp := Gr.push (X := c.X) h₁ { cls := .type "range_iterator", data := .fields #[rawInt 0, rawInt (Builtin.Range.rangeSize 0 n 1), rawInt 1] }
  have hlen : (rangeD n).length = n.toNat := by simp [rangeD]
  have WK := Walks.range (prog := W.prog) (w := W.w) i.run.hh h₁.objs.size 0 1 n.toNat
  rw [← hlen] at WK
  have hget : ∀ (j : Nat) (d : D), (rangeD n)[j]? = some d → j < n.toNat ∧ d = .int j := fun j d h => by
    have hj := getElem_lt h
    rw [hlen] at hj
    simp [rangeD, hj] at h
    exact ⟨hj, h.symm⟩
  refine for_core (h₀ := s.heap) (P := P) WK (fun b hb => ?_) (none_before g₁) (new_off i₁.run) (own_size i₁.run) (fun j h st => ⟨_, _, st, rfl⟩) (fun j h tk v Q E st q => wpAny_pure q) (fun d τ => (x, d) :: τ) (fun τ v j d s' Q E hd iv di q => ?_) J (i₁.gr gp) ?_ ((Sp.of_gr g₁).trans (Sp.of_gr gp)) (fun j v d hv hd => ?_) h0 (fun j d τ hd hJ => ?_) (fun τ h => hend τ (hlen ▸ h)) p.at
  · simp only [List.mem_cons, List.not_mem_nil, or_false] at hb
    subst hb; exact own_size i₁.run
  · exact wpAny_assign_Name (store_ok hx iv di q)
  · show IsRangeIter _ _ (0 + ((0 : Nat) : Int) * 1) (((rangeD n).length : Int) - ((0 : Nat) : Int)) 1
    have e1 : Builtin.Range.rangeSize 0 n 1 = (((rangeD n).length : Int) - ((0 : Nat) : Int)) := by rw [rangeSize_one, hlen]; split <;> omega
    rw [← e1]
    exact Heap.get?_push_size _ rfl
  · obtain ⟨t, rfl⟩ := hv
    obtain ⟨_, rfl⟩ := hget j d hd
    rw [show (0 : Int) + (j : Int) * 1 = j by omega]
    exact .int _ _
  · obtain ⟨hj, rfl⟩ := hget j d hd
    exact hb j τ hj hJ
theorem go_name {x : Str} {p : Pos} (s : Shared) (I l : Addr) (j : Nat) (v : Value) (Q : Unit → Shared → Prop) (E : Value → Shared → Prop) (_ : s.heap.IsListIter I l j) (q : Q () s) : wpAny (Md W) c.A (letOwnedTupleGo (.Name x p) (.ref I) v) Q E s := wpAny_pure q
theorem go_tuple {es : List Expr} {k : Nat} {p : Pos} (s : Shared) (I l : Addr) (j : Nat) (v : Value) (Q : Unit → Shared → Prop) (E : Value → Shared → Prop) (h : s.heap.IsListIter I l j) (q : Q () s) : wpAny (Md W) c.A (letOwnedTupleGo (.Tuple es k p) (.ref I) v) Q E s := by
  obtain ⟨o, ho, hc, hd⟩ := h
  unfold letOwnedTupleGo
  cases v with
  | ref a =>
    refine wpAny_bind (wpAny_load ho ?_)
    rw [hc, hd]
    exact wpAny_pure q
  | _ => exact wpAny_pure q
end
end Mine
end
section
open PySem PySem.W PySem.Spec PySem.Calls PyProof.Rows
set_option maxRecDepth 100000
namespace Mine

section
variable {W : Wd} {c : Fm} {σ : Sg}

theorem ev_globalA {A' : Around} {x : Str} {pos : Pos} {v : Value} {s : Shared} {Q E : Value → Shared → Prop} (i : Inv W c σ s.heap) (hg : nsIn W.K mainGlobals x = some (some v)) (hk : c.env.kindOf x = some .globalImplicit)
    (hd : (x == ("__debug__" : Str)) = false) (q : Q v s) : wpAny (Md W) A' (eval (.Name x pos) c.env) Q E s := by
  have G : s.heap.Ns c.env.globals W.mg := by rw [i.gl]; exact W.T.g.keeps i.run.stay
  exact Calls.Name_function_global i.fk hk (Calls.loadGlobal_global G (mg_of W.hK W.T.g hg) q) hd

theorem uts_gr {X : Addr → Prop} {h₁ h' h₂ : Heap} {B : Heap} (g : Gr X h₁ h') (own : ∀ a, X a → ∃ o, h₁.get? a = some o ∧ ∀ vs, o.data ≠ .fields vs) (hB : ∀ b o, h₁.get? b = some o → ¬ X b → B.get? b = some o) (st : B.StaysIn h₂) (up : h'.UpToSlots h₂) : Gr X h₁ h₂ := fun b o e =>
  ⟨fun n => st b o (hB b o e n), fun n => by
    obtain ⟨sl, h1⟩ := (g b o e).2 n
    obtain ⟨o', h2, h3⟩ := own b n
    rw [e] at h2; cases h2
    exact up b { o with slots := sl } h1 h3⟩

/-- try: .. except X: y = [] -/
theorem W1.try_ {body : List Stmt} {x y : Str} {np hp yp lp ap pos : Pos} {P : Out → Prop} (hx : nsIn W.K mainGlobals x = some (some (.ref RF))) (hk : c.env.kindOf x = some .globalImplicit) (hd : (x == ("__debug__" : Str)) = false)
    (hRF : ktsIn W.K RF "BaseException" = true) (htop : ∃ outer, c.A.frames = some (c.env :: outer)) (hfr : c.env.frame = some c.env.locals) (hy : Stores c y)
    (hb : WS W c σ body (fun o => match o with | .next τ => P (.next τ) | .ret d => P (.ret d) | .raise τ => P (.next ((y, .lst []) :: τ)) | _ => False)) :
    W1 W c σ (.Try body [.ExceptHandler (some (.Name x np)) none [.Assign [.Name y yp] (.List [] lp) ap] hp] [] [] pos) P := by
  intro s Q E i p
  refine wpAny_Try_except (hb s _ _ i ⟨fun τ h' tk q sp iv => wpAny_execs_nil (p.next τ h' tk q sp iv), fun d v h' tk q sp di => p.ret d v h' tk q sp di, fun _ _ _ q => q.elim, fun _ _ _ q => q.elim, fun τ e h₁ h' tk q sp iv rz => ?_, fun _ _ _ q => q.elim⟩)
  obtain ⟨outer, hfs⟩ := htop
  obtain ⟨g₁, B, envs, a0, hf', hB1, hB2, hfly⟩ := rz
  have : envs = c.env :: outer := Option.some.inj (hf'.symm.trans hfs)
  subst this
  refine wpAny_looks_onW (s := { s with heap := h', toks := tk }) hfs hfr hfly fun h₄ held₄ sm₄ => ?_
  refine wpAny_landsW (s := { s with heap := h₄, toks := tk }) held₄ fun h₅ fly₅ sm₅' => ?_
  have sm₅ : h'.UpToSlots h₅ := sm₄.trans sm₅'
  have gr₅ : Gr c.X h₁ h₅ := uts_gr g₁ iv.run.own hB2 fly₅.1 sm₅
  have i₅ := iv.gr gr₅
  obtain ⟨ob, hob, hobc⟩ := fly₅.there
  refine wpAny_handleBy_cons (codeAny_handlers_test (ev_globalA (s := { s with heap := h₅, toks := tk }) i₅ hx hk hd ?_)) (by intro q; cases q)
  obtain ⟨nm, q', N, bs, bm, hdct, sn, sub, ab, col, dd, k0, k1, k2, k3, k5, newId, hC, hbase, hbT⟩ := kts_cls W.hK hRF
  refine wpAny_excMatches_sub_self (i₅.run.stay _ _ hC) hob hobc hbase (codeAny_handlers_suite ?_)
  refine lands_againW (s := { s with heap := h₅, toks := tk }) fly₅ fun h₆ fly₆ sm₆ => ?_
  have gr₆ : Gr c.X h₁ h₆ := uts_gr g₁ iv.run.own hB2 fly₆.1 (sm₅.trans sm₆)
  have i₆ := iv.gr gr₆
  refine wpAny_execs_cons (wpAny_Assign_Name (wpAny_List (wpAny_items_nil ⟨by decide, ?_⟩)) (by rfl))
  have gp := Gr.push (X := c.X) h₆ { cls := .type "list", data := .seq ([] : List Value).toArray }
  refine store_any (s := { s with heap := h₆.push { cls := .type "list", data := .seq ([] : List Value).toArray }, toks := tk }) hy (i₆.gr gp) (.lst (ds := []) (own_size i₆.run) ⟨_, Heap.get?_push_size _ rfl, rfl, 0, rfl⟩ .nil) fun h₇ t₇ sp₇ i₇ => ?_
  exact wpAny_execs_nil (p.next _ h₇ t₇ q ((sp.trans (.of_gr (gr₆.trans gp))).trans sp₇) i₇)
end
end Mine
end
section
open PySem PySem.W PySem.Spec PySem.Calls PyProof.Rows
set_option maxRecDepth 100000
set_option maxHeartbeats 4000000
namespace Mine

section
variable {prog : Program} {w : World} {A : Around} {E : Value → Shared → Prop} {h : Heap} {g : Array GenState} {d : Drawn} {t : Nat} {os : OsState}
variable {nm q : Str} {C N : Addr} {bs bm : List Value} {hdct : Bool} {sn : List Str} {sub : List Value} {ab : Bool} {col : Option Bool} {dd : Option Addr} {k0 k1 k2 k3 k5 : Option Value} {newId : String}

theorem raiseStmt_dict {M : Model} {env : Env} {s : Shared} {x : Sem Value} {Q : Flow → Shared → Prop} (hbase : bm.contains (.type "BaseException") = true) (hh : A.handled = none)
    (h : wpAny M A x (fun v s₁ => ∃ e t od, v = .ref e ∧ s₁.heap.get? C = some (excClassObj nm q C N bs bm hdct sn sub ab col dd k0 k1 k2 k3 k5 newId) ∧
      s₁.heap.get? e = some { cls := .ref C, dict := od, data := .fields #[.ref t, .none, .none, .none, .bool false, .none] } ∧ E (.ref e) s₁) E s) :
    wpAny M A (raiseStmt env (some x) none) Q E s := by
  have hcB : (Value.ref C :: bm).contains (.type "BaseException") = true := by rw [List.contains_cons, hbase, Bool.or_true]
  unfold raiseStmt
  refine wpAny_bind (wpAny_mono h (fun v s₁ h₁ => ?_) fun _ _ x => x)
  obtain ⟨e, t, od, rfl, hC, he, hE⟩ := h₁
  obtain ⟨hp, g, d, tk, os⟩ := s₁
  repeat (first | with_reducible refine wpAny_loadPart_at he ?_ | with_reducible refine wpAny_loadPart_at hC ?_ | (with_reducible refine wpAny_isSubtype_exc hC ?_; rw [hcB]) | wp_step)
  exact wpAny_raiseNew_none hh hE

variable {B Bn nid initId inN : String} {bmN : List Value}
theorem check_newU {M : Model} (Fn : ExcBaseFacts Bn newId inN bmN) (hBn : bm.contains (.type Bn) = true) {rest : List Value} {Q : Unit → Shared → Prop} (hC : h.get? C = some (excClassObj nm q C N bs bm hdct sn sub ab col dd k0 k1 k2 k3 k5 newId))
    (hq : Q () ⟨h, g, d, t, os⟩) : wpAny M A (checkBuiltinCall newId ⟨.ref C :: rest, []⟩) Q E ⟨h, g, d, t, os⟩ := by
  have hcont : (Value.ref C :: bm).contains (.type Bn) = true := by rw [List.contains_cons, hBn, Bool.or_true]
  have hstar := Fn.noStar
  simp only [checkBuiltinCall, Fn.newKind, Fn.newSplit, Fn.newRow]
  repeat (first | refine wpAny_loadPart_at hC ?_ | (refine wpAny_isSubtype_exc hC ?_; rw [hcont]) | refine wpAny_staticBase_exc hC ?_ | refine wpAny_madeBy_exc hC ?_ | simp only [bne_self_eq_false, Bool.false_eq_true, if_false] | wp_step)
  exact hq
theorem exc_newU {R : Result → Shared → Prop} (Fn : ExcBaseFacts Bn newId inN bmN) (hBn : bm.contains (.type Bn) = true) (hA : bm.contains (.type "AttributeError") = false) (hN : bm.contains (.type "NameError") = false)
    {rest : List Value} (hC : h.get? C = some (excClassObj nm q C N bs bm hdct sn sub ab col dd k0 k1 k2 k3 k5 newId))
    (hq : R (.ok (.ret (.ref (h.objs.size + 1)))) ⟨(h.push { cls := .type "tuple", data := .seq rest.toArray }).push
      { cls := .ref C, data := .fields #[.ref h.objs.size, .none, .none, .none, .bool false, .none] }, g, d, t, os⟩) (hrest : rest.length ≤ sizeLine) :
    codeAny (model prog w) A (.builtin newId ⟨.ref C :: rest, []⟩) R ⟨h, g, d, t, os⟩ := by
  have hends := Fn.ends
  have hcB : (Value.ref C :: bm).contains (.type Bn) = true := by rw [List.contains_cons, hBn, Bool.or_true]
  have hcA : (Value.ref C :: bm).contains (.type "AttributeError") = false := by rw [List.contains_cons, hA]; rfl
  have hcN : (Value.ref C :: bm).contains (.type "NameError") = false := by rw [List.contains_cons, hN]; rfl
  refine codeAny_builtinAt Fn.entry ?_
  unfold Builtin.«BaseException.__new__»
  refine PySem.wpAt_bind ?_
  show PySem.wpAt _ _ _ (stack >>= _) _ _ _
  refine PySem.wpAt_bind (PySem.wpAt_stack fun p below => PySem.wpAt_of_wpAny ?_)
  wp_walk
  refine PySem.wpAt_of_wpAny ?_
  rw [Fn.owner]
  repeat (first | with_reducible refine wpAny_madeHere_exc Fn.canon hC ?_ | with_reducible refine wpAny_loadPart_at hC ?_ | (with_reducible refine wpAny_isSubtype_exc hC ?_; first | rw [hcB] | rw [hcA] | rw [hcN]) | wp_step)
  show R _ _
  rw [Heap.size_push]
  exact hq

/-- a class of exceptions with an __init__ of the text's own, along the mro -/
theorem type_call_own (Fn : ExcBaseFacts Bn newId inN bmN) (hBn : bm.contains (.type Bn) = true) (hA : bm.contains (.type "AttributeError") = false) (hN : bm.contains (.type "NameError") = false) {rest : List Value} {fI : Addr} {Q : Fin → Shared → Prop}
    (hC : h.get? C = some (excClassObj nm q C N bs bm hdct sn sub ab col dd k0 k1 k2 k3 k5 newId)) (hi : Looks (model prog w) h (typeLookup (.ref C) "__init__") (some (.ref fI)))
    (hf : ∀ self, Looks (model prog w) h (bindSpecial (.ref fI) self) (.ref fI, [self]))
    (hq : ∀ h' e, Heap.MadeExcOf h h' e (.ref C) rest →
      wpAny (model prog w) A (call (.ref fI) (.ref e :: rest)) (fun r s' => r = .none ∧ Q (.done (.ret (.ref e))) s') E ⟨h', g, d, t, os⟩) (hrest : rest.length ≤ sizeLine) :
    wpAny (model prog w) A (Builtin.«type.__call__» ⟨.ref C :: rest, []⟩) Q E ⟨h, g, d, t, os⟩ := by
  repeat (first | with_reducible refine wpAny_loadPart_at hC ?_ | with_reducible refine wpAny_madeBy_exc hC ?_ | wp_step)
  refine codeAny_call_builtin_code (Code.quiet_builtin _ Fn.quiet) (check_newU Fn hBn hC ?_)
  refine exc_newU Fn hBn hA hN hC ?_ hrest
  show wpAny _ _ _ _ _ _
  have kk : ∀ b o, h.get? b = some o → ((h.push { cls := .type "tuple", data := .seq rest.toArray }).push { cls := .ref C, data := .fields #[.ref h.objs.size, .none, .none, .none, .bool false, .none] }).get? b = some o :=
    fun b o e => Heap.get?_push_of_some _ (Heap.get?_push_of_some _ e)
  have hC₁ := kk _ _ hC
  have hi₁ := hi.keeps kk
  have hf₁ := fun self => (hf self).keeps kk
  have hget : ((h.push { cls := .type "tuple", data := .seq rest.toArray }).push
      { cls := .ref C, data := .fields #[.ref h.objs.size, .none, .none, .none, .bool false, .none] }).get? (h.objs.size + 1) = some
      { cls := .ref C, data := .fields #[.ref h.objs.size, .none, .none, .none, .bool false, .none] } := by heap_get
  have hcC : (Value.ref C :: bm).contains (.ref C) = true := by simp
  unfold isInstance
  repeat (first | with_reducible refine wpAny_loadPart_at hget ?_ | (with_reducible refine wpAny_isSubtype_exc hC₁ ?_; rw [hcC]) | wp_step)
  show wpAny _ _ (typeLookup (.ref C) _) _ _ _
  refine hi₁.at ?_
  refine wpAny_holding (wpAny_bind ((hf₁ _).at ?_))
  refine wpAny_bind (wpAny_mono (hq _ (h.objs.size + 1) ⟨fun b o hb => Heap.get?_push_of_some _ (Heap.get?_push_of_some _ hb), Heap.get?_none_of_le (Nat.le_succ _), h.objs.size, hget, Heap.get?_none_of_le (Nat.le_refl _), ?_⟩) (fun r s' hr => ?_) fun _ _ x => x)
  · exact Heap.get?_push_of_some _ (Heap.get?_push_at rfl rfl)
  · obtain ⟨rfl, hQ⟩ := hr
    wp_walk
    exact hQ

theorem call_own (Fn : ExcBaseFacts Bn newId inN bmN) (hBn : bm.contains (.type Bn) = true) (hA : bm.contains (.type "AttributeError") = false) (hN : bm.contains (.type "NameError") = false) {rest : List Value} {fI : Addr} {Q : Value → Shared → Prop}
    (hC : h.get? C = some (excClassObj nm q C N bs bm hdct sn sub ab col dd k0 k1 k2 k3 k5 newId)) (hi : Looks (model prog w) h (typeLookup (.ref C) "__init__") (some (.ref fI)))
    (hf : ∀ self, Looks (model prog w) h (bindSpecial (.ref fI) self) (.ref fI, [self]))
    (hq : ∀ h' e, Heap.MadeExcOf h h' e (.ref C) rest →
      wpAny (model prog w) (A.under (.builtin "type.__call__" ⟨.ref C :: rest, []⟩)) (call (.ref fI) (.ref e :: rest)) (fun r s' => r = .none ∧ Q (.ref e) s') E ⟨h', g, d, t, os⟩) (hrest : rest.length ≤ sizeLine) :
    wpAny (model prog w) A (call (.ref C) rest) Q E ⟨h, g, d, t, os⟩ := by
  have f1 := tc_lookup
  have f2 := tc_bind (.ref C)
  have hT : (⟨h, g, d, t, os⟩ : Shared).TypeIs (.ref C) "type" := ⟨_, hC, rfl⟩
  refine wpAny_call (codeAny_of_tree ?_)
  show wpAny _ _ (callAny (.ref C) _) _ _ _
  repeat (any_goals (first | assumption | with_reducible refine wpAny_loadPart_at hC ?_ | wp_step))
  refine ⟨rfl, ?_⟩
  refine codeAny_call_builtin_at (Code.quiet_builtin _ (by decide +kernel)) entry_typeCall (wpAny_check_type_call_sub hC (type_call_own (hrest := hrest) Fn hBn hA hN hC hi hf fun h' e hm => ?_))
  exact hq h' e hm
end
end Mine
end
section
open PySem PySem.W PySem.Spec PySem.Calls PyProof.Rows
open Builtin Builtin.ObjectAttr
set_option maxRecDepth 100000
set_option maxHeartbeats 4000000
namespace Mine

abbrev excObj (C t : Addr) (od : Option Addr) : Obj := { cls := .ref C, dict := od, data := .fields #[.ref t, .none, .none, .none, .bool false, .none] }

section
variable {prog : Program} {w : World} {A : Around} {E : Value → Shared → Prop} {s : Shared}
variable {nm q : Str} {C N : Addr} {bs bm : List Value} {hdct : Bool} {sn : List Str} {sub : List Value} {ab : Bool} {col : Option Bool} {dd : Option Addr} {k0 k1 k2 k3 k5 : Option Value} {newId : String}
variable {B nid initId : String} {bmB : List Value}

theorem check_initU (F : ExcBaseFacts B nid initId bmB) (hB : bm.contains (.type B) = true) {M : Model} {h : Heap} {g : Array GenState} {d : Drawn} {t : Nat} {os : OsState} {e : Addr} {oe : Obj} {rest : List Value} {Q : Unit → Shared → Prop}
    (hC : h.get? C = some (excClassObj nm q C N bs bm hdct sn sub ab col dd k0 k1 k2 k3 k5 newId)) (he : h.get? e = some oe) (hcls : oe.cls = .ref C) (hq : Q () ⟨h, g, d, t, os⟩) :
    wpAny M A (checkBuiltinCall initId ⟨.ref e :: rest, []⟩) Q E ⟨h, g, d, t, os⟩ := by
  have hcB : (Value.ref C :: bm).contains (.type B) = true := by rw [List.contains_cons, hB, Bool.or_true]
  have hshort := F.noStar
  simp only [checkBuiltinCall, F.initKind, F.initSplit, F.initRow]
  repeat (first | (with_reducible refine wpAny_loadPart_at he ?_; rw [hcls]) | with_reducible refine wpAny_loadPart_at hC ?_ | (with_reducible refine wpAny_isSubtype_exc hC ?_; rw [hcB]) | wp_step)
  refine wpAny_onRaise ?_
  rw [show ∀ (a b : String) (n : Nat), Bind.check ⟨.positional, "*", B, .self, [⟨"args", .varPos, false⟩]⟩ a b n (List.map (fun x => x.fst) ({ pos := Value.ref e :: rest } : Args).kw) = pure () from
    fun a b n => check_star_args _ _ _ _ _ _]
  exact wpAny_pure hq

/-- B.__init__(e, v) of an exception of the text's own -/
theorem base_init (F : ExcBaseFacts B nid initId bmB) (hB : bm.contains (.type B) = true) {e t0 : Addr} {v : Value} {Q : Value → Shared → Prop}
    (hC : s.heap.get? C = some (excClassObj nm q C N bs bm hdct sn sub ab col dd k0 k1 k2 k3 k5 newId)) (he : s.heap.get? e = some (excObj C t0 none))
    (hq : ∀ t h', h'.get? e = some (excObj C t none) → (∀ b o, b ≠ e → s.heap.get? b = some o → h'.get? b = some o) → Q .none { s with heap := h' }) :
    wpAny (model prog w) A (call (.builtin initId) [.ref e, v]) Q E s := by
  obtain ⟨h, g, d, t, os⟩ := s
  refine wpAny_call (codeAny_call_builtin F.init.plain F.initEntry (check_initU F hB hC he rfl ?_))
  unfold Builtin.«BaseException.__init__»
  wp_walk
  refine hq h.objs.size _ ?_ fun b o hb ho => ?_
  · rw [Heap.get?_update_self _ (Heap.get?_push_of_some _ he) rfl]
    rfl
  · rw [Heap.get?_update_other _ _ hb.symm]
    exact Heap.get?_push_of_some _ ho

theorem osaE {bmE : List Value} {name : Str} {tk : Tok} {v : Value} {e t0 : Addr} {ow : Addr} {R : Result → Shared → Prop}
    (hC : s.heap.get? C = some (excClassObj nm q C N bs (.ref ow :: bmE) true sn sub ab col dd k0 k1 k2 k3 k5 newId)) (he : s.heap.get? e = some (excObj C t0 none))
    (hna : Looks (model prog w) s.heap (typeLookup (.ref C) name) none)
    (hob : bmE.contains (.type "object") = true) (hpass : ∀ self : Value, refuseLoop self "__setattr__" bmE = pure ())
    (hq : ∀ dx h' tk', h'.get? e = some (excObj C t0 (some dx)) → (∀ b o, b ≠ e → s.heap.get? b = some o → h'.get? b = some o) → R (.ok (.ret .none)) { s with heap := h', toks := tk' }) :
    codeAny (model prog w) A (.call (.builtin "object.__setattr__") ⟨[.ref e, .str name tk, v], []⟩) R s := by
  have SF := PySem.F.store_object
  obtain ⟨h, g, d, t, os⟩ := s
  have T0 : Looks (model prog w) h (typeOf (.ref e)) (.ref C) := (Looks.ld (part := none) he).andThen .now
  have hcO : (Value.ref C :: .ref ow :: bmE).contains (.type "object") = true := by rw [List.contains_cons, List.contains_cons, hob, Bool.or_true, Bool.or_true]
  have S0 : Looks (model prog w) h (isSubtype (.ref C) (.type "object")) true := by
    intro A Q E s k q
    obtain ⟨h', g, d, t, os⟩ := s
    refine wpAny_isSubtype_exc (k _ _ hC) ?_
    rw [hcO]; exact q
  have M0 : Looks (model prog w) h (mroOf (.ref C)) (.ref C :: .ref ow :: bmE) := fun A Q E s k q => by
    obtain ⟨h', g, d, t, os⟩ := s
    exact wpAny_mroOf_exc (k _ _ hC) q
  refine codeAny_call_builtin SF.slot.plain SF.entry (@check_slot (model prog w) _ _ ⟨h, g, d, t, os⟩ "object.__setattr__" "object" "__setattr__" (.ref e) [.str name tk, v] [] _ SF.kind SF.split (T0.andThen S0) (SF.args (.ref e) (.str name tk) v) ?_)
  rw [osa_eq, refuse_eq]
  refine wpAny_bind (wpAny_bind (T0.here (wpAny_bind (M0.here ?_))))
  rw [refuseLoop_ref, refuseLoop_ref, hpass]
  refine wpAny_pure (wpAny_bind (T0.here (wpAny_bind (hna.here (wpAny_bind (wpAny_pure ?_))))))
  show wpAny _ _ (storeInOwnDict (.ref e) (.ref C) (.str name tk) name v false) _ _ _
  unfold storeInOwnDict
  refine wpAny_bind (wpAny_pure (wpAny_bind ?_))
  have hx₁ : (h.push { cls := .type "dict", data := .dict #[] }).get? e = some (excObj C t0 none) := Heap.get?_push_of_some _ he
  have hxs : e ≠ h.objs.size := Nat.ne_of_lt (Heap.lt_size he)
  have D0 : ∀ {E' : Value → Shared → Prop}, wpAny (model prog w) A.in1 (ownDictForStores (.ref e)) (fun r s' => r = some h.objs.size ∧ s' = ⟨(h.push { cls := .type "dict", data := .dict #[] }).update e fun o => { cls := o.cls, dict := some h.objs.size, data := o.data, slots := o.slots }, g, d, t, os⟩) E' ⟨h, g, d, t, os⟩ := by
    unfold ownDictForStores
    wp_walk
    exact ⟨rfl, rfl⟩
  refine wpAny_mono D0 (fun r s' z => ?_) fun _ _ x => x
  obtain ⟨rfl, rfl⟩ := z
  have hgd : ((h.push { cls := .type "dict", data := .dict #[] }).update e fun o => { cls := o.cls, dict := some h.objs.size, data := o.data, slots := o.slots }).get? h.objs.size
      = some { cls := .type "dict", data := .dict #[] } :=
    (Heap.get?_update_ne _ _ _ _ hxs.symm).trans (Heap.get?_push_at rfl rfl)
  have hnd : ((h.push { cls := .type "dict", data := .dict #[] }).update e fun o => { cls := o.cls, dict := some h.objs.size, data := o.data, slots := o.slots }).Ns h.objs.size (fun _ => none) :=
    ⟨_, #[], _, hgd, rfl, fun e he => absurd he (by simp), fun _ => rfl⟩
  show wpAny _ _ (storeInDict h.objs.size (.str name tk) name v) _ _ _
  unfold storeInDict newKeyGuard
  refine wpAny_bind (wpAny_pure (wpAny_bind (wpAny_nsSet1 (Heap.Ns1.of_empty hnd) fun h' hn' hs => ?_)))
  obtain ⟨oD, esD, epD, hoD, hdD, hcD⟩ := hn'.count (Within.cons name v Within.nil)
  refine wpAny_bind (wpAny_lookBehind hoD (by rw [hdD]; exact pastItsLine_dict (Nat.le_trans hcD (by rw [List.length_cons, List.length_nil, sizeLine_eq]; omega))) ?_)
  refine wpAny_pure ?_
  refine hq h.objs.size h' _ ?_ fun b o hb ho => ?_
  · refine (hs.2 e hxs).trans (Heap.get?_update_self _ hx₁ rfl)
  · exact (hs.2 b (Nat.ne_of_lt (Heap.lt_size ho))).trans ((Heap.get?_update_ne _ _ _ _ hb).trans (Heap.get?_push_of_some _ ho))

/-- a first attribute of such an exception -/
theorem store_first {bmE : List Value} {name : Str} {v : Value} {e t0 : Addr} {ow : Addr} {Q : Unit → Shared → Prop}
    (hC : s.heap.get? C = some (excClassObj nm q C N bs (.ref ow :: bmE) true sn sub ab col dd k0 k1 k2 k3 k5 newId)) (he : s.heap.get? e = some (excObj C t0 none))
    (hsa : Looks (model prog w) s.heap (typeLookup (.ref C) "__setattr__") (some (.builtin "object.__setattr__"))) (hna : Looks (model prog w) s.heap (typeLookup (.ref C) name) none)
    (hob : bmE.contains (.type "object") = true) (hpass : ∀ self : Value, refuseLoop self "__setattr__" bmE = pure ())
    (hq : ∀ dx h' tk', h'.get? e = some (excObj C t0 (some dx)) → (∀ b o, b ≠ e → s.heap.get? b = some o → h'.get? b = some o) → Q () { s with heap := h', toks := tk' }) :
    wpAny (model prog w) A (setAttr (.ref e) name v) Q E s := by
  have T0 : Looks (model prog w) s.heap (typeOf (.ref e)) (.ref C) := (Looks.ld (part := none) he).andThen .now
  refine wpAny_bind (wpAny_mkText (wpAny_bind (wpAny_bind (wpAny_bind (T0 _ _ _ _ (fun _ _ e => e) (hsa _ _ _ _ (fun _ _ e => e) (wpAny_holding ?_)))))))
  rw [PySem.F.store_object.slot.bind]
  refine wpAny_bind (wpAny_pure (wpAny_bind (wpAny_call (osaE (s := { s with toks := s.toks + 1 }) hC he hna hob hpass fun dx h' tk' x y => ?_))))
  exact wpAny_pure (wpAny_pure (hq dx h' tk' x y))
end
end Mine
end
section
open PySem PySem.W PySem.Spec PySem.Calls PyProof.Rows
set_option maxRecDepth 100000
set_option maxHeartbeats 4000000
namespace Mine

abbrev excMro : List Value := [.type "Exception", .type "BaseException", .type "object"]
abbrev rfCls (a b : Tok) : Obj := excClassObj (Str.ofString "RunFault") (Str.ofString "RunFault") RF 43 [.ref 31] (.ref 31 :: excMro) true [] [] false none none (some (.ref 35)) none (some (.str (Str.ofString "RunFault") a)) (some (.str (Str.ofString "RunFault") b)) (some (.bool true)) "Exception.__new__"
def initBody (p1 p2 p3 p4 p5 p6 p7 p8 p9 p10 : Pos) : List Stmt :=
  [.Expr (.Call (.Attribute (.Name (Str.ofString "Exception") p1) (Str.ofString "__init__") p2) [.Name (Str.ofString "self") p3, .Name (Str.ofString "text") p4] [] p5) p6,
   .Assign [.Attribute (.Name (Str.ofString "self") p7) (Str.ofString "text") p8] (.Name (Str.ofString "text") p9) p10]
/-- what raise RunFault(..) reads of the text -/
structure RFK (K : Frag) : Prop where
  cls : ∃ a b, K.lookup RF = some (rfCls a b)
  init : findIn K (.ref RF) (Str.ofString "__init__") = some (some (.ref 28))
  fn : typeIn K (.ref 28) = some (.type "function")
  sa : findIn K (.ref RF) (Str.ofString "__setattr__") = some (some (.builtin "object.__setattr__"))
  txt : findIn K (.ref RF) (Str.ofString "text") = some none
  glob : nsIn K mainGlobals (Str.ofString "Exception") = some none
  def_ : ∃ oc od osl name qual params scope dV kV doc pm an cdv ct p1 p2 p3 p4 p5 p6 p7 p8 p9 p10,
    K.lookup 28 = some ⟨oc, od, .func (fnOf name qual params (initBody p1 p2 p3 p4 p5 p6 p7 p8 p9 p10) scope dV kV doc pm an cdv ct), osl⟩ ∧ codeIn K cdv qual = true ∧
    (∀ u v : Value, bindArgs (fnOf name qual params (initBody p1 p2 p3 p4 p5 p6 p7 p8 p9 p10) scope dV kV doc pm an cdv ct) ⟨[u, v], []⟩ = pure [(Str.ofString "self", u), (Str.ofString "text", v)]) ∧
    scope.names = [(Str.ofString "self", .local), (Str.ofString "text", .local), (Str.ofString "Exception", .globalImplicit)] ∧ scope.isCoroutine = false ∧ scope.isGenerator = false ∧ scope.kind = .function ∧ (p2.endLine == p5.line) = true

section
variable {prog : Program} {w : World} {A : Around} {E : Value → Shared → Prop} {s : Shared}
theorem emptyIn (h : Heap) : Frag.In [] h := fun _ _ e => by cases e
theorem gm_exc {pl : Sem Bool} {Q : Value × List Value → Shared → Prop} (h : Q (.builtin "Exception.__init__", []) { s with toks := s.toks + 1 }) : wpAny (model prog w) A (getMethod (.type "Exception") (Str.ofString "__init__") pl) Q E s := by
  have X : Frag.In [] s.heap := emptyIn _
  have ht : typeOf (.type "Exception") = pure (.type "type") := by first | rfl | kernel_rfl
  have hs : Manifest.isStub "Exception" = false := by decide +kernel
  have e : findCls [] (.type "Exception") (.type "type") (Str.ofString "__init__") = some (.val (.builtin "Exception.__init__")) := by kernel_rfl
  have hh : handedIn (.builtin "Exception.__init__") = true := by decide +kernel
  have hstub : opaqueClassAbove (.type "Exception") = pure none := by unfold opaqueClassAbove; dsimp only; rw [hs]; rfl
  have L0 : Looks (model prog w) s.heap (typeOf (.type "Exception")) (.type "type") := Looks.of_pure ht
  have hg : findIn [] (.type "type") "__getattribute__" = some (some (.builtin "type.__getattribute__")) := type_tga
  unfold getMethod specialOf
  refine wpAny_bind (wpAny_bind (L0.here ((looks_findIn X hg).here ?_)))
  dsimp only
  rw [if_pos canon_tga]
  refine wpAny_bind (wpAny_mono (Q := fun v => Q (v, [])) (E := E) ?_ (fun _ _ z => wpAny_pure z) fun _ _ z => z)
  have LO : Looks (model prog w) s.heap (opaqueClassAbove (.type "Exception")) none := Looks.of_pure hstub
  refine cls_open X LO L0 hg (looks_hook X (r := none) (by rfl)) (by show subIn [] _ _ = _; rfl) e
    (wpAny_pure (by show wpAny _ _ (handedOut (.builtin "Exception.__init__")) _ _ _; rw [handedOut_of hh]; exact wpAny_pure h))

/-- the body of F77Error.__init__ on a new exception -/
theorem init_walk {env : Env} {e t0 : Addr} {m mg mb : Str → Option Value} {v : Value} {p1 p2 p3 p4 p5 p6 p7 p8 p9 p10 : Pos} {K : Frag} {Q : Flow → Shared → Prop}
    (hk : env.scope.kind = .function) (hnames : env.scope.names = [(Str.ofString "self", .local), (Str.ofString "text", .local), (Str.ofString "Exception", .globalImplicit)])
    (X : K.In s.heap) (RK : RFK K) (hne : e ≠ env.locals) (heK : ∀ o, K.lookup e = some o → False) (hln : s.heap.Ns env.locals m) (hself : m (Str.ofString "self") = some (.ref e)) (htext : m (Str.ofString "text") = some v)
    (hg : s.heap.Ns env.globals mg) (hgn : mg (Str.ofString "Exception") = none) (hb : s.heap.Ns env.builtins mb) (hbn : mb (Str.ofString "Exception") = some (.type "Exception"))
    (hge : e ≠ env.globals) (hbe : e ≠ env.builtins)
    (he : s.heap.get? e = some (excObj RF t0 none)) (hln' : (p2.endLine == p5.line) = true)
    (hq : ∀ t dx h' tk', h'.get? e = some (excObj RF t (some dx)) → (∀ b o, b ≠ e → s.heap.get? b = some o → h'.get? b = some o) → Q .next { s with heap := h', toks := tk' }) :
    wpAny (model prog w) A (execs (initBody p1 p2 p3 p4 p5 p6 p7 p8 p9 p10) env) Q E s := by
  obtain ⟨ta, tb, hC0⟩ := RK.cls
  have hC := X _ _ hC0
  have kself : env.kindOf (Str.ofString "self") = some .local := by unfold Env.kindOf; rw [hnames]; decide
  have ktext : env.kindOf (Str.ofString "text") = some .local := by unfold Env.kindOf; rw [hnames]; decide
  have kexc : env.kindOf (Str.ofString "Exception") = some .globalImplicit := by unfold Env.kindOf; rw [hnames]; decide
  have nself : (Str.ofString "self" == Str.ofString "__debug__") = false := by decide +kernel
  have ntext : (Str.ofString "text" == Str.ofString "__debug__") = false := by decide +kernel
  have nexc : (Str.ofString "Exception" == Str.ofString "__debug__") = false := by decide +kernel
  have nself' : ∀ {p : Pos} {s' : Shared} {m'} {Q' : Value → Shared → Prop} {E'}, s'.heap.Ns env.locals m' → m' (Str.ofString "self") = some (.ref e) → Q' (.ref e) s' → wpAny (model prog w) A (eval (.Name (Str.ofString "self") p) env) Q' E' s' := fun hn hm q => wpAny_Name (wpAny_loadName_local hk kself hn hm q) nself
  have ntext' : ∀ {p : Pos} {s' : Shared} {m'} {Q' : Value → Shared → Prop} {E'}, s'.heap.Ns env.locals m' → m' (Str.ofString "text") = some v → Q' v s' → wpAny (model prog w) A (eval (.Name (Str.ofString "text") p) env) Q' E' s' := fun hn hm q => wpAny_Name (wpAny_loadName_local hk ktext hn hm q) ntext
  unfold initBody
  refine wpAny_execs_cons (wpAny_Expr ?_ (by unfold interactive; rw [hk]; rfl) (by rfl))
  have hlog : methodCallPos true (.Name (Str.ofString "Exception") p1) env p2 p5 = pure p5 := by unfold methodCallPos; rw [hln']; rfl
  refine methodCall_KW (pl := do return (← importBound (.Name (Str.ofString "Exception") p1) env).getD true) (Calls.Name_function_global hk kexc (Calls.loadGlobal_builtin hg hgn hb hbn (gm_exc ?_)) nexc) ?_
  · refine Calls.callWith_builtin (by rfl) ?_
    refine Calls.evalArgs_plain (show wpAny (model prog w) A (spliced (backTo p5 (starEach [.Name (Str.ofString "self") p3, .Name (Str.ofString "text") p4] env))) _ _ _ from ?_)
    refine wpAny_items_cons ?_ rfl
    refine nself' (s' := { s with toks := s.toks + 1 }) hln hself ?_
    refine wpAny_items_cons ?_ rfl
    refine ntext' (s' := { s with toks := s.toks + 1 }) hln htext ?_
    refine wpAny_items_nil ?_
    refine base_init (s := { s with toks := s.toks + 1 }) PySem.F.excBase_Exception (by decide) hC he fun t h₁ he₁ k₁ => ?_
    have hC₁ : h₁.get? RF = _ := k₁ _ _ (fun q => heK _ (q ▸ hC0)) hC
    have X₁ : K.In h₁ := fun b o q => k₁ b o (fun z => heK o (z ▸ q)) (X b o q)
    have hn₁ : h₁.Ns env.locals m := let ⟨o, es, ep, ho, r⟩ := hln; ⟨o, es, ep, k₁ _ _ hne.symm ho, r⟩
    refine wpAny_execs_cons (plainObj_wpAny_Assign_Attribute (ntext' hn₁ htext (nself' hn₁ hself ?_)) (by rfl))
    refine store_first (s := { s with heap := h₁, toks := s.toks + 1 }) hC₁ he₁ (looks_findIn X₁ RK.sa) (looks_findIn X₁ RK.txt) (by decide) PySem.F.store_Exception.passes fun dx h₂ tk₂ he₂ k₂ => ?_
    exact wpAny_execs_nil (hq t dx h₂ tk₂ he₂ fun b o n q => k₂ b o n (k₁ b o n q))
  · rw [arm_eval_Call]
    unfold methodCall
    rw [show methodCallForm ([Expr.Name (Str.ofString "self") p3, Expr.Name (Str.ofString "text") p4].length + ([] : List Keyword).length) (backTo p5 (starEach [Expr.Name (Str.ofString "self") p3, Expr.Name (Str.ofString "text") p4] env)) (backToKw p5 (keywordEach [] env)) = true from rfl, hlog]
    rfl
end
end Mine
end
section
open PySem PySem.W PySem.Spec PySem.Calls PyProof.Rows
set_option maxRecDepth 100000
set_option maxHeartbeats 1000000
namespace Mine

section
variable {W : Wd} {c : Fm} {σ : Sg}
/-- raise RunFault('..') -/
theorem W1.raise_ {x a : Str} {kc : Nat} {np cp cpos pos : Pos} {P : Out → Prop} (RK : RFK W.K) (hx : nsIn W.K mainGlobals x = some (some (.ref RF))) (hkx : c.env.kindOf x = some .globalImplicit) (hd : (x == ("__debug__" : Str)) = false)
    (hck : 0 < c.k) (q : P .fresh) : W1 W c σ (.Raise (some (.Call (.Name x np) [.Constant (.str a) kc cp] [] cpos)) none pos) P := by
  intro s Q E i p
  obtain ⟨ta, tb, hC0⟩ := RK.cls
  have hC := i.run.stay _ _ (W.hK _ _ hC0)
  rw [arm_exec_Raise]
  have step : wpAny (Md W) c.A (eval (.Call (.Name x np) [.Constant (.str a) kc cp] [] cpos) c.env)
      (fun v s₁ => ∃ e t od h₁ h' tk, v = .ref e ∧ s₁ = { s with heap := h', toks := tk } ∧ Gr c.X s.heap h₁ ∧ h'.get? e = some (excObj RF t od) ∧ h₁.get? e = none ∧ (∀ b o, h₁.get? b = some o → h'.get? b = some o)) E s := by
    refine wpAny_Call_Name_kw (ev_global i hx hkx hd ?_)
    unfold callWith
    refine wpAny_bind (wpAny_holding ?_)
    refine args_ok (ds := [.str a]) i (by rfl) (EvL.cons (r := .ok (.str a)) (by rfl) EvE.str EvL.nil) fun vs h₁ t₁ g₁ da => ?_
    refine wpAny_bind (wpAny_standAt ?_)
    have i₁ := i.gr g₁
    have X₁ : W.K.In h₁ := fun b o q => i₁.run.stay _ _ (W.hK _ _ q)
    have hC₁ := X₁ _ _ hC0
    obtain ⟨u, r, rfl, du, dr⟩ := dall_cons da
    obtain rfl := dall_nil dr
    refine wpAny_bind (wpAny_keeperOf_exc hC₁ ?_)
    refine wpAny_bind ?_
    show wpAny _ _ (call (.ref RF) [u]) _ _ _
    refine call_own PySem.F.excBase_Exception (by decide) (by decide) (by decide) hC₁ (looks_findIn X₁ RK.init) (fun self => bind_fn X₁ self RK.fn) (fun h₂ e hm => ?_) (by size_fits)
    obtain ⟨oc, od, osl, name, qual, params, scope, dV, kV, doc, pm, an, cdv, ct, p1, p2, p3, p4, p5, p6, p7, p8, p9, p10, ho, hcd, hb, hnm, hco, hgen, hk, hln⟩ := RK.def_
    have X₂ : W.K.In h₂ := fun b o q => hm.keeps _ _ (X₁ b o q)
    have st₂ : W.base.StaysIn h₂ := fun b o q => hm.keeps _ _ (i₁.run.stay b o q)
    obtain ⟨t0, he2, _, _⟩ := hm.there
    refine wpAny_call ?_
    refine codeAny_call_def (fd := fnOf name qual params (initBody p1 p2 p3 p4 p5 p6 p7 p8 p9 p10) scope dV kV doc pm an cdv ct) (body := initBody p1 p2 p3 p4 p5 p6 p7 p8 p9 p10) (binds := [(Str.ofString "self", .ref e), (Str.ofString "text", u)])
      (by have := i.run.hd; show c.A.depth + 1 < _; omega) (X₂ _ _ ho) rfl (W.T.nolimit.keeps st₂) ((codeRec_of W.hK hcd).keeps st₂) rfl
      (BindsTo.of_eq (hb _ _)) (by rw [hnm]; decide) (by rw [hnm]; intro y hy; simp only [List.mem_cons, List.not_mem_nil, or_false] at hy; rcases hy with rfl | rfl <;> (dsimp only; decide)) (fun h₃ hns hk₃ => ?_) hco hgen hk
    have ne_of : ∀ {b : Addr} {o : Obj}, h₁.get? b = some o → e ≠ b := fun z q => by rw [← q, hm.new] at z; cases z
    have X₃ : W.K.In h₃ := fun b o q => hk₃ _ _ (X₂ b o q)
    have st₃ : W.base.StaysIn h₃ := fun b o q => hk₃ _ _ (st₂ b o q)
    have neG : e ≠ mainGlobals := by obtain ⟨o, _, _, q, _⟩ := W.T.g.keeps i₁.run.stay; exact ne_of q
    have neB : e ≠ builtinsNs := by obtain ⟨o, _, _, q, _⟩ := W.T.b.keeps i₁.run.stay; exact ne_of q
    refine init_walk (s := { s with heap := h₃, toks := t₁ + 2 }) (K := W.K) (e := e) (t0 := t0) (mg := W.mg) (mb := W.mb) (v := u) hk hnm X₃ RK (Nat.ne_of_lt (Heap.lt_size he2)) (fun o q => ne_of (X₁ _ _ q) rfl) hns rfl rfl
      (W.T.g.keeps st₃) (mg_none_of W.hK W.T.g RK.glob) (W.T.b.keeps st₃) ((W.T.builtins _ (by decide)).trans (by decide +kernel)) neG neB (hk₃ _ _ he2) hln fun t dx h₄ tk₄ he4 hk₄ => ?_
    refine ⟨rfl, ?_⟩
    refine wpAny_bind (wpAny_holding (wpAny_point (wpAny_pure ?_)))
    exact ⟨e, t, some dx, h₁, h₄, tk₄, rfl, rfl, g₁, he4, hm.new, fun b o q => hk₄ b o (ne_of q).symm (hk₃ _ _ (hm.keeps _ _ q))⟩
  simp only [evalOpt, Option.map]
  refine wpAny_bind (wpAny_standAt (raiseStmt_dict (nm := Str.ofString "RunFault") (q := Str.ofString "RunFault") (C := RF) (N := 43) (bs := [.ref 31]) (bm := .ref 31 :: excMro) (hdct := true) (sn := []) (sub := []) (ab := false) (col := none) (dd := none) (k0 := some (.ref 35)) (k1 := none) (k2 := some (.str (Str.ofString "RunFault") ta)) (k3 := some (.str (Str.ofString "RunFault") tb)) (k5 := some (.bool true)) (newId := "Exception.__new__") (by decide) i.run.hh (wpAny_bind (wpAny_mono step (fun v s₁ z => ?_) fun _ _ x => x))))
  obtain ⟨e, t, od, h₁, h', tk, rfl, rfl, g₁, he, hen, hk⟩ := z
  refine wpAny_bind (wpAny_standAt (wpAny_pure ⟨e, t, od, rfl, hk _ _ ((i.gr g₁).run.stay _ _ (W.hK _ _ hC0)), he, ?_⟩))
  have i₁ := i.gr g₁
  obtain ⟨envs, hf1, hf2, hf3⟩ := i₁.run.frames
  have hin : ∀ env ∈ envs, ∀ b, env.frame = some b → b ∈ envs.filterMap (·.frame) := fun env he b hb => List.mem_filterMap.mpr ⟨env, he, hb⟩
  refine p.fresh e h' tk q ⟨?_, hideAll h₁ (envs.filterMap (·.frame)), envs, .ref t, _, _, hf1, ?_, ?_, ?_, ?_, ?_, he, rfl, rfl, rfl, rfl⟩
  · exact (Sp.of_gr g₁).trans (Sp.of_gr (Gr.of_keeps hk))
  · exact fun b o q => hideAll_get _ (i₁.run.stay _ _ q) fun hm => base_off i₁.run q (hf3 _ hm)
  · exact fun b o q n => hideAll_get _ ((g₁ b o q).1 n) fun hm => n (hf3 _ hm)
  · exact fun b o q => hk _ _ (of_hideAll _ q)
  · cases z : (hideAll h₁ (envs.filterMap (·.frame))).get? e with
    | none => rfl
    | some o => have := of_hideAll _ z; rw [hen] at this; cases this
  · refine funFrames_re (funFrames_hide hf2 hin) fun b hb => ?_
    obtain ⟨o, ho, hn⟩ := i₁.run.own b (hf3 _ hb)
    exact ⟨o, hk _ _ ho, hn⟩
end
end Mine
end
section
open PySem PySem.W PySem.Spec PySem.Calls PyProof.Rows
open Builtin Builtin.ObjectAttr
set_option maxRecDepth 100000
set_option maxHeartbeats 1000000
namespace Mine

section
variable {prog : Program} {w : World} {A : Around} {E : Value → Shared → Prop} {s : Shared}
theorem set_lim {K : Frag} {C x dx : Addr} {name : Str} {v : Value} {m : Str → Option Value} {ns : List Str} {Q : Unit → Shared → Prop} (X : K.In s.heap) (hp : plainOver K C = true) (ht : takerIn K C name = some none) (hh : hasDictIn K C = true)
    (hs : findIn K (.ref C) "__setattr__" = some (some (.builtin "object.__setattr__"))) (hx : s.heap.get? x = some (instObj C dx)) (hdx : s.heap.Ns1 dx m) (hw : PySem.Within m ns) (hsz : ns.length + 1 ≤ 1000)
    (hq : ∀ h' tk, h'.Ns1 dx (fun y => if y = name then some v else m y) → Heap.SameBut dx s.heap h' → Q () { s with heap := h', toks := tk }) :
    wpAny (model prog w) A (setAttr (.ref x) name v) Q E s := by
  obtain ⟨od, es, ep, hod, hdd, hrest⟩ := id hdx
  have I : InstAt s.heap x (instObj C dx) C (some od) := ⟨hx, rfl, rfl, hod⟩
  obtain ⟨cd, hc, hd'⟩ := any_some hh
  refine set_plain X I hs (osa_open (s := { s with toks := s.toks + 1 }) X I hp ht fun b => ?_)
  refine wpAny_bind (wpAny_pure (wpAny_bind (wpAny_bind (wpAny_loadPart hx (wpAny_bind ((looks_clsIn X hc) _ _ _ _ (fun _ _ e => e) ?_))))))
  rw [hd']
  refine wpAny_pure (a := some dx) (wpAny_bind (wpAny_pure (wpAny_bind ?_)))
  refine wpAny_nsSet1 (s := { s with toks := s.toks + 1 }) hdx fun h' hn' hs' => ?_
  obtain ⟨oD, esD, epD, hoD, hdD, hcD⟩ := hn'.count (PySem.Within.cons name v hw)
  refine wpAny_bind (wpAny_lookBehind hoD (by rw [hdD]; exact pastItsLine_dict (Nat.le_trans hcD (by rw [List.length_cons, sizeLine_eq]; omega))) ?_)
  exact wpAny_pure (hq h' _ hn' hs')

abbrev LRow := Str × Pos × Pos × Pos × Pos
def asgOf (r : LRow) : Stmt := .Assign [.Attribute (.Name (Str.ofString "self") r.2.1) r.1 r.2.2.1] (.Name r.1 r.2.2.2.1) r.2.2.2.2

theorem lims_walk {K : Frag} {C x dx : Addr} {env : Env} {mL : Str → Option Value} (hk : env.scope.kind = .function) (hp : plainOver K C = true) (hh : hasDictIn K C = true)
    (hs : findIn K (.ref C) "__setattr__" = some (some (.builtin "object.__setattr__"))) (kself : env.kindOf (Str.ofString "self") = some .local) (hself : mL (Str.ofString "self") = some (.ref x)) (hxd : x ≠ dx) (hld : env.locals ≠ dx) (hKd : ∀ o, K.lookup dx = some o → False) :
    ∀ (rows : List LRow) (s : Shared) (m : Str → Option Value) (ns : List Str) (Q : Flow → Shared → Prop), (∀ r ∈ rows, takerIn K C r.1 = some none ∧ env.kindOf r.1 = some .local ∧ (∃ v, mL r.1 = some v) ∧ (r.1 == ("__debug__" : Str)) = false) →
      K.In s.heap → s.heap.Ns env.locals mL → s.heap.get? x = some (instObj C dx) → s.heap.Ns1 dx m → PySem.Within m ns → ns.length + rows.length ≤ 1000 →
      (∀ h' tk m', h'.Ns1 dx m' → (∀ y, m' y = if y ∈ rows.map (·.1) then mL y else m y) → (∀ b o, b ≠ dx → s.heap.get? b = some o → h'.get? b = some o) → Q .next { s with heap := h', toks := tk }) →
      wpAny (model prog w) A (execs (rows.map asgOf) env) Q E s
  | [], s, m, ns, Q, _, _, _, _, hdx, _, _, hq => wpAny_execs_nil (hq s.heap s.toks m hdx (fun y => by simp) (fun _ _ _ e => e))
  | r :: rows, s, m, ns, Q, hr, X, hn, hx, hdx, hw, hsz, hq => by
    obtain ⟨h1, h2, ⟨v, h3⟩, h4⟩ := hr r (.head _)
    have nself : (Str.ofString "self" == Str.ofString "__debug__") = false := by decide +kernel
    refine wpAny_execs_cons (plainObj_wpAny_Assign_Attribute (wpAny_Name (wpAny_loadName_local hk h2 hn h3 ?_) h4) (by rfl))
    refine wpAny_Name (wpAny_loadName_local hk kself hn hself ?_) nself
    refine set_lim X hp h1 hh hs hx hdx hw (by simp only [List.length_cons] at hsz; omega) fun h' tk hn' hsb => ?_
    have kk : ∀ b o, b ≠ dx → s.heap.get? b = some o → h'.get? b = some o := fun b o n e => (hsb.2 b n).trans e
    refine lims_walk hk hp hh hs kself hself hxd hld hKd rows { s with heap := h', toks := tk } _ (r.1 :: ns) Q (fun r' hr' => hr r' (.tail _ hr')) (fun b o e => kk b o (fun z => hKd o (z ▸ e)) (X b o e))
      (let ⟨o, es, ep, ho, q⟩ := hn; ⟨o, es, ep, kk _ _ hld ho, q⟩) (kk _ _ hxd hx) hn' (PySem.Within.cons r.1 v hw) (by simp only [List.length_cons] at hsz ⊢; omega) fun h₂ tk₂ m' hm1 hm2 hk2 => ?_
    refine hq h₂ tk₂ m' hm1 (fun y => ?_) fun b o n e => hk2 b o n (kk b o n e)
    rw [hm2 y]
    simp only [List.map_cons, List.mem_cons]
    by_cases q1 : y ∈ rows.map (·.1)
    · simp [q1]
    · by_cases q2 : y = r.1
      · subst q2; simp [q1, h3]
      · simp [q1, q2]
end

def limNames : List Str := [Str.ofString "width", Str.ofString "real_digits", Str.ofString "double_digits", Str.ofString "top_exponent", Str.ofString "steps", Str.ofString "continuations", Str.ofString "columns", Str.ofString "depth"]
/-- what Limits(a, b, c, d) reads of the text -/
structure LimK (K : Frag) : Prop where
  makes : makesIn K 201 = true
  keep : keepIn K (.ref 201) = true
  init : findIn K (.ref 201) "__init__" = some (some (.ref 198))
  fn : typeIn K (.ref 198) = some (.type "function")
  plain : plainOver K 201 = true
  hasD : hasDictIn K 201 = true
  sa : findIn K (.ref 201) "__setattr__" = some (some (.builtin "object.__setattr__"))
  takers : ∀ n ∈ limNames, takerIn K 201 n = some none
  def_ : ∃ oc od osl name qual params body scope dV kV doc pm an cdv ct v5 v6 v7 v8,
    K.lookup 198 = some ⟨oc, od, .func (fnOf name qual params body scope dV kV doc pm an cdv ct), osl⟩ ∧ codeIn K cdv qual = true ∧ (∃ rows : List LRow, body = List.map asgOf rows ∧ rows.map (·.1) = limNames) ∧
    (∀ (s : Shared) (x a b c d : Value), K.In s.heap → BindsTo s (fnOf name qual params body scope dV kV doc pm an cdv ct) ⟨[x, a, b, c, d], []⟩ ((Str.ofString "self" :: limNames).zip [x, a, b, c, d, v5, v6, v7, v8])) ∧
    scope.names = (Str.ofString "self" :: limNames).map (fun n => (n, NameKind.local)) ∧ scope.isCoroutine = false ∧ scope.isGenerator = false ∧ scope.kind = .function

section
variable {W : Wd} {c : Fm} {σ : Sg}
theorem EvE.limits {x : Str} {np pos : Pos} {e1 e2 e3 e4 : Expr} {i1 i2 i3 i4 : Int} (LK : LimK W.K) (hg : nsIn W.K mainGlobals x = some (some (.ref 201))) (hx : c.env.kindOf x = some .globalImplicit) (hd : (x == ("__debug__" : Str)) = false)
    (hs : ([e1, e2, e3, e4] : List Expr).all notStar = true) (ha : EvL W c σ [e1, e2, e3, e4] (some [.int i1, .int i2, .int i3, .int i4])) (hck : 1 < c.k) : EvE W c σ (.Call (.Name x np) [e1, e2, e3, e4] [] pos) (.ok (.lim i2 i4)) := by
  intro s Q E i p
  refine wpAny_Call_Name_kw (ev_global i hg hx hd ?_)
  refine callWith_of (P := W.K.In) (by show ((backTo pos (starEach [e1, e2, e3, e4] c.env)).any (·.1) || false) = false; rw [plain_args hs]; rfl) (keeps_K LK.keep) ?_
  refine args_ok i hs ha fun vs h₁ t₁ g₁ da => ⟨?_, ?_⟩
  · exact fun b o e => (i.gr g₁).run.stay _ _ (W.hK _ _ e)
  have i₁ := i.gr g₁
  have X₁ : W.K.In h₁ := fun b o q => i₁.run.stay _ _ (W.hK _ _ q)
  obtain ⟨u1, r1, rfl, d1, da⟩ := dall_cons da
  obtain ⟨u2, r2, rfl, d2, da⟩ := dall_cons da
  obtain ⟨u3, r3, rfl, d3, da⟩ := dall_cons da
  obtain ⟨u4, r4, rfl, d4, da⟩ := dall_cons da
  obtain rfl := dall_nil da
  obtain ⟨t2, rfl⟩ := int_inv d2
  obtain ⟨t4, rfl⟩ := int_inv d4
  refine wpAny_call ?_
  refine make_core (makes_of X₁ LK.makes) (looks_findIn X₁ LK.init) (fun self => bind_fn X₁ self LK.fn) (.inl rfl) ?_
  generalize hh₂ : (h₁.push emptyDict).push (instObj 201 h₁.objs.size) = h₂
  have k₂ : ∀ b o, h₁.get? b = some o → h₂.get? b = some o := fun b o e => by rw [← hh₂]; exact Heap.get?_push_of_some _ (Heap.get?_push_of_some _ e)
  have hx₂ : h₂.get? (h₁.objs.size + 1) = some (instObj 201 h₁.objs.size) := by rw [← hh₂]; heap_get
  have hdx₂ : h₂.get? h₁.objs.size = some emptyDict := by rw [← hh₂]; exact Heap.get?_push_of_some _ (Heap.get?_push_size _ rfl)
  have X₂ : W.K.In h₂ := fun b o q => k₂ _ _ (X₁ b o q)
  have st₂ : W.base.StaysIn h₂ := fun b o q => k₂ _ _ (i₁.run.stay b o q)
  obtain ⟨oc, od, osl, name, qual, params, _, scope, dV, kV, doc, pm, an, cdv, ct, v5, v6, v7, v8, ho, hcd, ⟨rows, rfl, hrows⟩, hb, hnm, hco, hgen, hk⟩ := LK.def_
  have hnl : ∀ n ∈ (Str.ofString "self" :: limNames), scope.names.lookup n = some .local := by rw [hnm]; decide +kernel
  refine codeAny_call_def (fd := fnOf name qual params (List.map asgOf rows) scope dV kV doc pm an cdv ct) (body := List.map asgOf rows) (s := { s with heap := h₂, toks := t₁ })
    (by have := i.run.hd; show c.A.depth + 1 < _; omega) (X₂ _ _ ho) rfl (W.T.nolimit.keeps st₂) ((codeRec_of W.hK hcd).keeps st₂) rfl
    (hb _ _ _ _ _ _ X₂) (by rw [hnm]; decide +kernel) (fun y hy => hnl _ (List.of_mem_zip hy).1) (fun h₃ hns hk₃ => ?_) hco hgen hk
  have ndx : ∀ {b : Addr} {o : Obj}, h₁.get? b = some o → b ≠ h₁.objs.size := fun e => Nat.ne_of_lt (Heap.lt_size e)
  refine lims_walk (K := W.K) (C := 201) (x := h₁.objs.size + 1) (dx := h₁.objs.size) (env := callEnv (fnOf name qual params (List.map asgOf rows) scope dV kV doc pm an cdv ct) h₂.objs.size 198) hk LK.plain LK.hasD LK.sa (hnl _ (.head _)) (by rfl) (Nat.succ_ne_self _)
    (Nat.ne_of_gt (Heap.lt_size hdx₂)) (fun o q => ndx (X₁ _ _ q) rfl) rows { s with heap := h₃, toks := _ } (fun _ => none) [] _ (fun r hr => ?_) (fun b o q => hk₃ _ _ (X₂ b o q)) hns (hk₃ _ _ hx₂) (Heap.Ns1.of_empty ⟨_, #[], _, hk₃ _ _ hdx₂, rfl, fun e he => absurd he (by simp), fun _ => rfl⟩) PySem.Within.nil ?_ fun h₄ tk₄ m' hm1 hm2 hk₄ => ?_
  · have hmem : r.1 ∈ limNames := by rw [← hrows]; exact List.mem_map_of_mem hr
    refine ⟨LK.takers _ hmem, hnl _ (.tail _ hmem), ?_, ?_⟩
    · revert hmem; generalize r.1 = n; intro hmem
      simp only [limNames, List.mem_cons, List.not_mem_nil, or_false] at hmem
      rcases hmem with rfl | rfl | rfl | rfl | rfl | rfl | rfl | rfl <;> exact ⟨_, rfl⟩
    · revert hmem; generalize r.1 = n; revert n; decide +kernel
  · have : rows.length = limNames.length := by rw [← hrows, List.length_map]
    rw [this]; decide
  · refine ⟨rfl, ?_⟩
    have kx : ∀ b o, h₁.get? b = some o → h₄.get? b = some o := fun b o e => hk₄ b o (ndx e) (hk₃ _ _ (k₂ _ _ e))
    have nX : ∀ b, h₁.get? b = none → ¬ c.X b := fun b e x => by
      obtain ⟨o, ho, _⟩ := i₁.run.own b x
      rw [e] at ho; cases ho
    refine p _ _ _ (g₁.trans (Gr.of_keeps kx)) (DIn.lim (u := t2) (v := t4) (nX _ (Heap.get?_none_of_le (Nat.le_succ _))) (nX _ (Heap.get?_none_of_le (Nat.le_refl _))) (hk₄ _ _ (Nat.succ_ne_self _) (hk₃ _ _ hx₂)) hm1.ns ?_ ?_)
    · rw [hm2, hrows, if_pos (by decide +kernel)]; rfl
    · rw [hm2, hrows, if_pos (by decide +kernel)]; rfl
end
end Mine
end
section
open PySem PySem.W PySem.Spec PySem.Calls PyProof.Rows
set_option maxRecDepth 100000
set_option maxHeartbeats 1000000
namespace Mine
theorem lookIn_of {name : Str} {o : Obj} {es : Array DictEntry} {ep : Nat} {v : Value} (hd : o.data = .dict es ep) (h : nsFind es name = some v) : lookIn name o = some (some v) := by
  unfold nsFind findBy at h
  unfold lookIn
  rw [hd]
  dsimp only
  rw [Array.find?_toList]
  obtain ⟨e, he, rfl⟩ := Option.map_eq_some_iff.mp h
  rw [he]

/-- what limits.real_digits reads of the text -/
structure GetK (K : Frag) (name : Str) : Prop where
  hg : plainGet K 201 name = true
  hh : hasDictIn K 201 = true
  ha : findIn K (.ref 201) name = some none

section
variable {W : Wd} {c : Fm} {σ : Sg}
theorem EvE.attr {x name : Str} {np pos : Pos} {d t r : Int} (GK : GetK W.K name) (h : EvE W c σ (.Name x np) (.ok (.lim d t))) (hr : (name = Str.ofString "real_digits" ∧ r = d) ∨ (name = Str.ofString "top_exponent" ∧ r = t)) :
    EvE W c σ (.Attribute (.Name x np) name pos) (.ok (.int r)) := by
  intro s Q E i p
  refine Attribute_name (h s _ E i fun v h₁ t₁ g₁ d₁ => ?_)
  have i₁ := i.gr g₁
  cases d₁ with
  | @lim a dx _ _ m u v' n1 n2 ho hn m1 m2 =>
    obtain ⟨od, es, ep, hod, hdd, hsk, hm⟩ := hn
    have I : InstAt h₁ a (limObj dx) 201 (some od) := ⟨ho, rfl, rfl, hod⟩
    have X₁ : W.K.In h₁ := fun b o q => i₁.run.stay _ _ (W.hK _ _ q)
    obtain ⟨tk, hv⟩ : ∃ tk, m name = some (.int r tk) := by
      rcases hr with ⟨rfl, rfl⟩ | ⟨rfl, rfl⟩
      · exact ⟨_, m1⟩
      · exact ⟨_, m2⟩
    refine get_value (s := { s with heap := h₁, toks := t₁ }) X₁ I (plainGet_of GK.hg).1 (findObj_own GK.hh GK.ha rfl (lookIn_of hdd ((hm name).trans hv))) (by rfl) (p _ h₁ _ g₁ (.int _ _))
end
end Mine
end
section
open PySem PySem.W PySem.Spec PySem.Calls PyProof.Rows
set_option maxRecDepth 100000
set_option maxHeartbeats 1000000
namespace Mine
mutual
def D.py : D → PyData
  | .none => .none
  | .bool b => .bool b
  | .int i => .int i
  | .str x => .str x
  | .tup ds => .tuple (D.pys ds)
  | .lst ds => .list (D.pys ds)
  | .lim _ _ => .none
def D.pys : List D → List PyData
  | [] => []
  | d :: r => D.py d :: D.pys r
end
mutual
def D.flat : D → Bool
  | .tup ds => D.flats ds
  | .lst ds => D.flats ds
  | .lim _ _ => false
  | _ => true
def D.flats : List D → Bool
  | [] => true
  | d :: r => D.flat d && D.flats r
end
theorem reads_of {X : Addr → Prop} {h : Heap} : (∀ {v d}, DIn X h v d → d.flat = true → ∃ as, Reads h v d.py as) := by
  intro v d x
  exact DIn.rec (motive_1 := fun v d _ => d.flat = true → ∃ as, Reads h v d.py as) (motive_2 := fun vs ds _ => D.flats ds = true → ∃ as, ReadsAll h vs (D.pys ds) as)
      (fun _ => ⟨_, by rw [D.py]; exact .none⟩) (fun b _ => ⟨_, by rw [D.py]; exact .bool b⟩) (fun i t _ => ⟨_, by rw [D.py]; exact .int i t⟩) (fun x t _ => ⟨_, by rw [D.py]; exact .str x t⟩)
      (fun hx ht _ ih f => by
        obtain ⟨as, r⟩ := ih (by rw [D.flat] at f; exact f)
        obtain ⟨o, ho, hc, n, hd⟩ := ht
        rw [D.py]
        exact ⟨_, .tuple ho hc hd (by simpa using r)⟩)
      (fun hx ht _ ih f => by
        obtain ⟨as, r⟩ := ih (by rw [D.flat] at f; exact f)
        obtain ⟨o, ho, hc, n, hd⟩ := ht
        rw [D.py]
        exact ⟨_, .list ho hc hd (by simpa using r)⟩)
      (fun _ _ _ _ _ _ f => by rw [D.flat] at f; cases f)
      (fun _ => ⟨_, by rw [D.pys]; exact .nil⟩)
      (fun _ _ i1 i2 f => by
        rw [D.flats, Bool.and_eq_true] at f
        obtain ⟨as, r⟩ := i1 f.1
        obtain ⟨bs, q⟩ := i2 f.2
        exact ⟨_, by rw [D.pys]; exact .cons r q⟩) x

section
variable {W : Wd} {c : Fm} {σ : Sg}
theorem run_room {X : Addr → Prop} {A : Around} {k : Nat} {h : Heap} (r : Run W X A k h) (hk : 1 < k) : A.units + 65 < cLine := by have := r.hu; omega
theorem CmpOK.eqD {a b : D} (ha : a.flat = true) (hb : b.flat = true) (sa : SeqAt.shaped a.py = true) (sb : SeqAt.shaped b.py = true) (hk : 1 < c.k) : CmpOK W c .Eq a b (PyData.eqv a.py b.py) := fun s u v Q E rn d₁ d₂ q => by
  obtain ⟨as, r1⟩ := reads_of d₁ ha
  obtain ⟨bs, r2⟩ := reads_of d₂ hb
  exact eq_dataH r1 r2 sa sb (by have := run_room rn hk; omega) (q s.heap s.toks (Gr.refl _ _))
theorem CmpOK.neD {a b : D} (ha : a.flat = true) (hb : b.flat = true) (sa : SeqAt.shaped a.py = true) (sb : SeqAt.shaped b.py = true) (hk : 1 < c.k) : CmpOK W c .NotEq a b (!PyData.eqv a.py b.py) := fun s u v Q E rn d₁ d₂ q => by
  obtain ⟨as, r1⟩ := reads_of d₁ ha
  obtain ⟨bs, r2⟩ := reads_of d₂ hb
  exact ne_dataH r1 r2 sa sb (by have := run_room rn hk; omega) (q s.heap s.toks (Gr.refl _ _))
theorem CmpOK.inD {a : D} {bs : List D} (ha : a.flat = true) (hb : D.flats bs = true) (sa : a.py.canLay0 = true) (sb : PyData.canLayAll0 (D.pys bs) = true) (hd : a.py.depth ≤ 60) (hk : 1 < c.k) : CmpOK W c .In a (.tup bs) ((D.pys bs).any fun y => PyData.eqv y a.py) := fun s u v Q E rn d₁ d₂ q => by
  obtain ⟨as, r1⟩ := reads_of d₁ ha
  obtain ⟨cs, r2⟩ := reads_of d₂ (by rw [D.flat]; exact hb)
  rw [D.py] at r2
  refine SeqAt.in_tuple_reads r2 r1 sb sa ?_ (q s.heap s.toks (Gr.refl _ _))
  have := run_room rn hk
  omega
end
end Mine
end
section
open PySem PySem.W PySem.Spec PySem.Calls PyProof.Rows
set_option maxRecDepth 100000
set_option maxHeartbeats 1000000
namespace Mine
section
variable {W : Wd} {c : Fm} {σ : Sg}

/-- a store of a local letter, all else the same -/
theorem store_loc {A' : Around} {x : Str} {v : Value} {d : D} {s : Shared} {Q : Unit → Shared → Prop} {E : Value → Shared → Prop} (hk : c.env.kindOf x = some .local) (i : Inv W c σ s.heap) (di : DIn c.X s.heap v d)
    (q : ∀ h' tk, Heap.SameBut c.env.locals s.heap h' → Inv W c ((x, d) :: σ) h' → Q () { s with heap := h', toks := tk }) : wpAny (Md W) A' (storeName c.env x v) Q E s := by
  obtain ⟨m, hn, hv⟩ := i.vars
  refine wpAny_storeName_local hk hn (fun h' hn' hs => ?_) (by rw [i.fk]; rfl)
  have dm : ∀ {v d}, DIn c.X s.heap v d → DIn c.X h' v d := fun y => y.mono fun b o n e => (hs.2 b fun z => n (z ▸ i.ownL)).trans e
  refine q h' _ hs ⟨i.run.same hs i.ownL (ns_not_fields hn'), i.fk, i.gl, i.bl, ⟨_, hn', fun y e h => ?_⟩, i.ownL, fun y b hm => ?_, i.apart⟩
  · rcases lookup_cons_eq h with ⟨rfl, rfl⟩ | ⟨ne, h⟩
    · exact .inl ⟨hk, v, if_pos rfl, dm di⟩
    · rcases hv y e h with ⟨k, u, hm, hd⟩ | ⟨k, b, u, hl, hc, hd⟩
      · exact .inl ⟨k, u, (if_neg ne).trans hm, dm hd⟩
      · exact .inr ⟨k, b, u, hl, hc.sameBut hs (i.ownC y b (mem_of_lookup hl)).2.1, dm hd⟩
  · obtain ⟨h1, h2, u, h3⟩ := i.ownC y b hm
    exact ⟨h1, h2, u, h3.sameBut hs h2⟩

theorem Inv.other {h h' : Heap} {a : Addr} (i : Inv W c σ h) (hs : Heap.SameBut a h h') (ha : c.X a) (hl : c.env.locals ≠ a) (hc : ∀ x b, (x, b) ∈ c.env.cells → b ≠ a) (hf : ∃ o, h'.get? a = some o ∧ ∀ vs, o.data ≠ .fields vs) : Inv W c σ h' := by
  have dm : ∀ {v d}, DIn c.X h v d → DIn c.X h' v d := fun y => y.mono fun b o n e => (hs.2 b fun z => n (z ▸ ha)).trans e
  refine ⟨i.run.same hs ha hf, i.fk, i.gl, i.bl, ?_, i.ownL, fun y b hm => ?_, i.apart⟩
  · obtain ⟨m, hn, hv⟩ := i.vars
    refine ⟨m, hn.sameBut hs hl, fun y e h => ?_⟩
    rcases hv y e h with ⟨k, u, hm, hd⟩ | ⟨k, b, u, hlb, hcb, hd⟩
    · exact .inl ⟨k, u, hm, dm hd⟩
    · exact .inr ⟨k, b, u, hlb, hcb.sameBut hs (hc y b (mem_of_lookup hlb)), dm hd⟩
  · obtain ⟨h1, h2, u, h3⟩ := i.ownC y b hm
    exact ⟨h1, h2, u, h3.sameBut hs (hc y b hm)⟩

/-- the frame of a comprehension inside a frame -/
structure CompFm (c c' : Fm) (scope : Scope) (cl : List (Str × Addr)) : Prop where
  A : c'.A = c.A
  k : c'.k = c.k
  env : ∃ C, c'.env = compEnvC scope cl C c.env

theorem dall_app {X : Addr → Prop} {h : Heap} : ∀ {ds : List D} {vs : List Value} {es : List D} {us : List Value}, DAll X h vs ds → DAll X h us es → DAll X h (vs ++ us) (ds ++ es)
  | [], _, _, _, x, y => by rw [dall_nil x]; exact y
  | d :: ds, _, _, _, x, y => by
    obtain ⟨v, r, rfl, a, b⟩ := dall_cons x
    exact .cons a (dall_app b y)
/-- what stays of a heap, but for an iterator -/
def Kp (X : Addr → Prop) (I : Addr) (h h' : Heap) : Prop := ∀ b o, h.get? b = some o → b ≠ I → (¬ X b → h'.get? b = some o) ∧ (X b → ∃ sl, h'.get? b = some { o with slots := sl })
theorem Kp.step {X : Addr → Prop} {I : Addr} {h h₁ h₂ : Heap} (x : Kp X I h h₁) (k : ∀ b o, h.get? b = some o → b ≠ I → ∀ o', h₁.get? b = some o' → h₂.get? b = some o') : Kp X I h h₂ := fun b o e n =>
  ⟨fun q => k b o e n _ ((x b o e n).1 q), fun q => let ⟨sl, z⟩ := (x b o e n).2 q; ⟨sl, k b o e n _ z⟩⟩

theorem comp_core {elt iter t : Expr} {x : Str} {px pos : Pos} {scope : Scope} {cl : List (Str × Addr)} {I : Addr} {fp : List Addr} {Pv : Nat → Value → Prop} {St : Nat → Heap → Prop} {ds : List D} {s : Shared} {RR : Value → Addr → Result → Shared → Prop}
    (σf : Sg) (p : D → Bool) (f : D → D) (WK : Walks W.prog W.w c.A I fp [I] ds.length Pv St) (hfp : ∀ b ∈ fp, ¬ c.X b ∧ b < s.heap.objs.size) (hbI : W.base.get? I = none) (hxI : ¬ c.X I)
    (hSt : ∀ j h, St j h → ∃ o vs, h.get? I = some o ∧ o.data = .fields vs) (hn : ds.length ≤ 1000) (i : Inv W c σ s.heap) (hst : St 0 s.heap) (hdat : ∀ (j : Nat) (v : Value) (d : D), Pv j v → ds[j]? = some d → DIn c.X s.heap v d)
    (hcl : ∀ y a, (y, a) ∈ cl → (y, a) ∈ c.env.cells) (hcl2 : cl.Pairwise fun y z => y.2 ≠ z.2) (hkind : scope.kind = .function) (hcell : ∀ y ∈ scope.names, y.2 ≠ .cell) (hx : scope.names.lookup x = some .local)
    (hσ : ∀ y d, σf.lookup y = some d → σ.lookup y = some d ∧ c.env.kindOf y = some .cell ∧ (relabel scope c.env).names.lookup y = some .cell ∧ ∃ a, cl.lookup y = some a ∧ c.env.cells.lookup y = some a)
    (ht : ∀ c', CompFm c c' scope cl → ∀ d ∈ ds, EvT W c' ((x, d) :: σf) t (p d)) (he : ∀ c', CompFm c c' scope cl → ∀ d ∈ ds, p d = true → EvE W c' ((x, d) :: σf) elt (.ok (f d)))
    (hRR : ∀ D C h' tk m, s.heap.get? D = none → s.heap.get? C = none → D ≠ C → h'.Ns C m → DIn (fun b => c.X b ∨ b = C) h' (.ref D) (.lst ((ds.filter p).map f)) → Kp c.X I s.heap h' → RR (.ref D) C (.ok .next) { s with heap := h', toks := tk }) {E : Value → Shared → Prop} :
    wpAny (Md W) c.A (newList []) (fun acc s₃ => wpAny (Md W) c.A (newFunctionEnv scope c.env.globals cl [] c.env.qual none .none (some c.env)) (fun cenv s₄ =>
      codeAny (Md W) c.A (.compStart (.ListComp elt [⟨.Name x px, iter, [t], 0⟩] scope pos) 0 (.ref I) acc { cenv with scope := relabel scope c.env }) (RR acc cenv.locals) s₄) E s₃) E s := by
  refine wpAny_newObj_type (wpAny_newFunctionEnv hcell (by intro y hy; simp at hy) (fun h₁ hns₁ hsb₁ => ?_) hkind)
  dsimp only at hns₁ hsb₁ ⊢
  generalize hH2 : s.heap.push { cls := .type "list", dict := none, data := .seq ([] : List Value).toArray } = H2 at hns₁ hsb₁ ⊢
  have hC : H2.objs.size = s.heap.objs.size + 1 := by rw [← hH2, Heap.size_push]
  generalize hCC : H2.objs.size = C at hns₁ hsb₁ hC ⊢
  generalize hDD : s.heap.objs.size = D at hC ⊢
  have nD : s.heap.get? D = none := by rw [← hDD]; exact none_of_size
  have nC : s.heap.get? C = none := by rw [hC, ← hDD]; exact Heap.get?_none_of_le (Nat.le_succ _)
  have hDC : D ≠ C := by rw [hC]; exact Nat.ne_of_lt (Nat.lt_succ_self _)
  have fD : ∀ b ∈ fp, b ≠ D := fun b hb => Nat.ne_of_lt (hDD ▸ (hfp b hb).2)
  have fC : ∀ b ∈ fp, b ≠ C := fun b hb => Nat.ne_of_lt (hC ▸ hDD ▸ Nat.lt_succ_of_lt (hfp b hb).2)
  have neC : ∀ {b o}, s.heap.get? b = some o → b ≠ C := fun e z => by rw [z, nC] at e; cases e
  have neD : ∀ {b o}, s.heap.get? b = some o → b ≠ D := fun e z => by rw [z, nD] at e; cases e
  have old : ∀ b o, s.heap.get? b = some o → h₁.get? b = some o := fun b o e => hsb₁.extBut b o (neC e) (Heap.get?_push_of_some _ (hH2 ▸ Heap.get?_push_of_some _ e))
  have hacc : h₁.IsList D (#[] : Array Value) := ⟨_, hsb₁.extBut _ _ hDC (Heap.get?_push_of_some _ (hH2 ▸ hDD ▸ Heap.get?_push_size _ rfl)), rfl, 0, rfl⟩
  let c' : Fm := ⟨fun b => c.X b ∨ b = C ∨ b = D, c.A, compEnvC scope cl C c.env, c.k⟩
  have CF : CompFm c c' scope cl := ⟨rfl, rfl, C, rfl⟩
  have nX' : ∀ {b o}, s.heap.get? b = some o → ¬ c.X b → ¬ c'.X b := fun e n q => q.elim n fun q => q.elim (neC e) (neD e)
  have bC : W.base.get? C = none := by cases q : W.base.get? C with | none => rfl | some o => exact absurd rfl (neC (i.run.stay _ _ q))
  have bD : W.base.get? D = none := by cases q : W.base.get? D with | none => rfl | some o => exact absurd rfl (neD (i.run.stay _ _ q))
  have hkx : c'.env.kindOf x = some .local := lookup_relabel_local hx
  have di₁ : ∀ {v d}, DIn c.X s.heap v d → DIn c'.X h₁ v d := fun y => ((dset (Y := c'.X) fun b o e n => nX' e n).1 y).mono fun b o _ e => old b o e
  have own₁ : ∀ b, c'.X b → ∃ o, h₁.get? b = some o ∧ ∀ vs, o.data ≠ .fields vs := fun b q => by
    rcases q with q | rfl | rfl
    · obtain ⟨o, h1, h2⟩ := i.run.own b q
      exact ⟨o, old _ _ h1, h2⟩
    · exact ns_not_fields hns₁
    · obtain ⟨o, ho, hc, n, hd⟩ := hacc
      exact ⟨o, ho, fun vs e => by rw [hd] at e; cases e⟩
  have iv₁ : Inv W c' σf h₁ := by
    refine ⟨⟨i.run.hh, i.run.hd, i.run.hu, ?_, fun b o e => old _ _ (i.run.stay b o e), own₁, fun b q => ?_⟩, ?_, i.gl, i.bl, ⟨_, hns₁, fun y d e => ?_⟩, .inr (.inl rfl), fun y a hm => ?_, hcl2⟩
    · obtain ⟨envs, h1, h2, h3⟩ := i.run.frames
      exact ⟨envs, h1, funFrames_re h2 fun b hb => own₁ b (.inl (h3 b hb)), fun b hb => .inl (h3 b hb)⟩
    · rcases q with q | rfl | rfl
      · exact i.run.off b q
      · exact bC
      · exact bD
    · show (relabel scope c.env).kind = _; exact hkind
    · obtain ⟨e1, e2, e3, a, e4, e5⟩ := hσ y d e
      obtain ⟨m, hm, hv⟩ := i.vars
      rcases hv y d e1 with ⟨k, _⟩ | ⟨k, a', v, hl, hc, hd⟩
      · rw [e2] at k; cases k
      · rw [e5] at hl; cases hl
        obtain ⟨o, ho, hod⟩ := hc
        exact .inr ⟨e3, a, v, e4, ⟨o, old _ _ ho, hod⟩, di₁ hd⟩
    · obtain ⟨h1, h2, v, o, ho, hod⟩ := i.ownC y a (hcl y a hm)
      exact ⟨.inl h1, neC ho, v, o, old _ _ ho, hod⟩
  have kp₁ : Kp c.X I s.heap h₁ := fun b o e _ => ⟨fun _ => old b o e, fun _ => ⟨o.slots, old b o e⟩⟩
  have hst₁ : St 0 h₁ := WK.frame _ _ _ hst fun b _ o e => old b o e
  have key : ∀ s₁ : Shared, s₁ = { s with heap := h₁, toks := s.toks + ([] : List (Str × Value)).length } → codeAny (Md W) c.A (.compLoop (.ListComp elt [⟨.Name x px, iter, [t], 0⟩] scope pos) 0 (.ref I) (.ref D) c'.env) (RR (.ref D) C) s₁ := by
    rintro s₁ rfl
    refine codeAny_compLoop_tests (fun n s' => ∃ h' tk j us, s' = { s with heap := h', toks := tk } ∧ j ≤ ds.length ∧ n = ds.length + 1 - j ∧ St j h' ∧ Inv W c' σf h' ∧ h'.IsList D (us : List Value).toArray ∧ DAll c'.X h' us (((ds.take j).filter p).map f) ∧
      Kp c.X I s.heap h' ∧ (∀ (j : Nat) (v : Value) (d : Mine.D), Pv j v → ds[j]? = some d → DIn c'.X h' v d)) ?_ (ds.length + 1) ⟨h₁, _, 0, [], rfl, Nat.zero_le _, rfl, hst₁, iv₁, hacc, by simpa using DAll.nil, kp₁, fun j v d a b => di₁ (hdat j v d a b)⟩
    rintro n s' ⟨h', tk, j, us, rfl, hj, rfl, st, iv, hl, da, kp, dat⟩
    have IneX : ¬ c'.X I := by
      obtain ⟨o, vs, ho, _⟩ := hSt _ _ hst
      exact nX' ho hxI
    have nxt : ∀ h'', (∀ b o, b ∉ [I] → h'.get? b = some o → h''.get? b = some o) → Inv W c' σf h'' ∧ h''.IsList D us.toArray ∧ DAll c'.X h'' us (((ds.take j).filter p).map f) ∧ Kp c.X I s.heap h'' ∧ (∀ (j : Nat) (v : Value) (d : Mine.D), Pv j v → ds[j]? = some d → DIn c'.X h'' v d) := fun h'' k => by
      have k' : ∀ b o, b ≠ I → h'.get? b = some o → h''.get? b = some o := fun b o n e => k b o (by simpa using n) e
      obtain ⟨oI, vI, hI1, hI2⟩ := hSt _ _ st
      have dm := dmonoF (X := c'.X) (h := h') (h' := h'') fun b o _ e nf => k' b o (fun z => by subst z; rw [hI1] at e; cases e; exact nf _ hI2) e
      refine ⟨iv.rec1 ⟨oI, vI, hI1, hI2⟩ hbI k', ?_, dm.2 da, kp.step fun b o e n o' e' => k' b o' n e', fun j v d a b => dm.1 (dat j v d a b)⟩
      obtain ⟨o, ho, hr⟩ := hl
      exact ⟨o, k' _ _ (fun z => IneX (z ▸ .inr (.inr rfl))) ho, hr⟩
    by_cases hlt : j < ds.length
    · refine WK.item j { s with heap := h', toks := tk } _ _ hlt st fun v h₂ t₂ hv st₂ k₂ => ?_
      obtain ⟨iv₂, hl₂, da₂, kp₂, dat₂⟩ := nxt h₂ k₂
      have hd : ds[j]? = some ds[j] := by simp [hlt]
      have hmem : ds[j] ∈ ds := List.getElem_mem hlt
      refine wpAny_assign_Name (store_loc (c := c') (s := { s with heap := h₂, toks := t₂ }) hkx iv₂ (dat₂ j v _ hv hd) fun h₃ t₃ sb₃ iv₃ => ?_)
      have dm₃ := dmono (X := c'.X) (h := h₂) (h' := h₃) fun b o n e => (sb₃.2 b fun z => n (z ▸ iv₂.ownL)).trans e
      have hl₃ : h₃.IsList D us.toArray := let ⟨o, ho, hr⟩ := hl₂; ⟨o, (sb₃.2 D hDC).trans ho, hr⟩
      have kp₃ : Kp c.X I s.heap h₃ := kp₂.step fun b o e _ o' e' => (sb₃.2 b (neC e)).trans e'
      have gst : ∀ {h h' : Heap}, Gr c'.X h h' → ∀ {j}, St j h → St j h' := fun g j q => WK.frame _ _ _ q fun b hb o e => (g b o e).1 fun z => by
        rcases z with z | z | z
        · exact (hfp b hb).1 z
        · exact fC b hb z
        · exact fD b hb z
      have kgr : ∀ {h h' : Heap}, Gr c'.X h h' → Kp c.X I s.heap h → Kp c.X I s.heap h' := fun g q b o e n => by
        refine ⟨fun w => (g b o ((q b o e n).1 w)).1 (nX' e w), fun w => ?_⟩
        obtain ⟨sl, z⟩ := (q b o e n).2 w
        exact (g b _ z).2 (.inl w)
      have lgr : ∀ {h h' : Heap} {its : Array Value}, Gr c'.X h h' → h.IsList D its → h'.IsList D its := fun g ⟨o, ho, hc, n, hd⟩ => let ⟨sl, z⟩ := g.any ho; ⟨_, z, hc, n, hd⟩
      have hne : ∀ y e, σf.lookup y = some e → y ≠ x := fun y e h z => by
        obtain ⟨_, _, e3, _⟩ := hσ y e h
        have : (relabel scope c.env).names.lookup x = some .local := hkx
        rw [z, this] at e3; cases e3
      have drop : ∀ {h : Heap} {d : Mine.D}, Inv W c' ((x, d) :: σf) h → Inv W c' σf h := fun q => q.sub fun y e h => by
        rw [List.lookup_cons, show (y == x) = false from beq_eq_false_iff_ne.mpr (hne y e h)]; exact h
      have tk1 : ds.take (j + 1) = ds.take j ++ [ds[j]] := by rw [List.take_add_one, hd]; rfl
      have st₃ : St (j + 1) h₃ := WK.frame _ _ _ st₂ fun b hb o e => (sb₃.2 b (fC b hb)).trans e
      refine wpAny_tests_one (ht c' CF _ hmem { s with heap := h₃, toks := t₃ } _ _ iv₃ fun h₄ t₄ g₄ => ?_)
      cases hp : p ds[j] with
      | false =>
        simp only [Bool.false_eq_true, if_false]
        refine ⟨ds.length + 1 - (j + 1), by omega, h₄, t₄, j + 1, us, rfl, hlt, rfl, gst g₄ st₃, drop (iv₃.gr g₄), lgr g₄ hl₃, ?_, kgr g₄ kp₃, fun j v d a b => (dm₃.1 (dat₂ j v d a b)).gr g₄⟩
        rw [tk1, List.filter_append]
        simpa [hp] using (dm₃.2 da₂).gr g₄
      | true =>
        simp only [if_true]
        refine he c' CF _ hmem hp { s with heap := h₄, toks := t₄ } _ _ (iv₃.gr g₄) fun y h₅ t₅ g₅ d₅ => ?_
        have iv₅ := (iv₃.gr g₄).gr g₅
        refine wpAny_list_append (s := { s with heap := h₅, toks := t₅ }) (lgr g₅ (lgr g₄ hl₃)) (fun h₆ hl₆ sb₆ => ?_) (by
          have h1 := dall_len da₂
          have h2 : (((ds.take j).filter p).map f).length ≤ j := by rw [List.length_map]; exact Nat.le_trans (List.length_filter_le _ _) (by rw [List.length_take]; exact Nat.min_le_left _ _)
          rw [List.size_toArray, sizeLine_eq]; omega)
        have dm₆ := dmono (X := c'.X) (h := h₅) (h' := h₆) fun b o n e => (sb₆.2 b fun z => n (.inr (.inr z))).trans e
        refine ⟨ds.length + 1 - (j + 1), by omega, h₆, t₅, j + 1, us ++ [y], rfl, hlt, rfl, ?_, drop (iv₅.other sb₆ (.inr (.inr rfl)) hDC.symm (fun z b hm => ?_) ?_), by simpa using hl₆, ?_, ?_, fun j v d a b => dm₆.1 (((dm₃.1 (dat₂ j v d a b)).gr g₄).gr g₅)⟩
        · exact WK.frame _ _ _ (gst g₅ (gst g₄ st₃)) fun b hb o e => (sb₆.2 b (fD b hb)).trans e
        · obtain ⟨_, _, _, o, ho, _⟩ := i.ownC z b (hcl z b hm)
          exact neD ho
        · obtain ⟨o, ho, hc, n, hd⟩ := hl₆
          exact ⟨o, ho, fun vs e => by rw [hd] at e; cases e⟩
        · have e1 : ((ds.take (j + 1)).filter p).map f = (((ds.take j).filter p).map f) ++ [f ds[j]] := by rw [tk1, List.filter_append]; simp [hp]
          rw [e1]
          exact dall_app (dm₆.2 ((((dm₃.2 da₂).gr g₄).gr g₅))) (.cons (dm₆.1 d₅) .nil)
        · exact (kgr g₅ (kgr g₄ kp₃)).step fun b o e _ o' e' => (sb₆.2 b (neD e)).trans e'
    · have hjn : j = ds.length := by omega
      subst hjn
      refine WK.done { s with heap := h', toks := tk } _ _ st fun h₂ t₂ k₂ => ?_
      obtain ⟨iv₂, hl₂, da₂, kp₂, dat₂⟩ := nxt h₂ k₂
      obtain ⟨m, hm, _⟩ := iv₂.vars
      rw [List.take_length] at da₂
      refine hRR D C h₂ t₂ m nD nC hDC hm ?_ kp₂
      refine .lst (fun z => z.elim (fun z => ?_) hDC) hl₂ ((dset (Y := fun b => c.X b ∨ b = C) fun b o _ n z => n (z.elim .inl fun z => .inr (.inl z))).2 da₂)
      obtain ⟨o, ho, _⟩ := i.run.own D z
      rw [nD] at ho; cases ho
  exact codeAny_compStart_list (key _ rfl) (WK.self 0 _ _ _ hst₁ (key _ rfl))
end
end Mine
end
section
open PySem PySem.W PySem.Spec PySem.Calls PyProof.Rows
set_option maxRecDepth 100000
set_option maxHeartbeats 1000000
namespace Mine
section
variable {W : Wd} {c : Fm} {σ : Sg}

theorem Inv.grow {h h' : Heap} {C : Addr} {m : Str → Option Value} (i : Inv W c σ h) (hC : h.get? C = none) (g : Gr c.X h h') (hn : h'.Ns C m) : Inv W ⟨fun b => c.X b ∨ b = C, c.A, c.env, c.k⟩ σ h' := by
  have ne : ∀ {b o}, h.get? b = some o → b ≠ C := fun e z => by rw [z, hC] at e; cases e
  have i' := i.gr g
  have own' : ∀ b, (c.X b ∨ b = C) → ∃ o, h'.get? b = some o ∧ ∀ vs, o.data ≠ .fields vs := fun b q => by
    rcases q with q | rfl
    · exact i'.run.own b q
    · exact ns_not_fields hn
  refine ⟨⟨i.run.hh, i.run.hd, i.run.hu, ?_, i'.run.stay, own', fun b q => ?_⟩, i.fk, i.gl, i.bl, ?_, .inl i.ownL, fun y a hm => ?_, i.apart⟩
  · obtain ⟨envs, h1, h2, h3⟩ := i'.run.frames
    exact ⟨envs, h1, h2, fun b hb => .inl (h3 b hb)⟩
  · rcases q with q | rfl
    · exact i.run.off b q
    · cases z : W.base.get? b with
      | none => rfl
      | some o => exact absurd rfl (ne (i.run.stay _ _ z))
  · have dm : ∀ {v d}, DIn c.X h v d → DIn (fun b => c.X b ∨ b = C) h' v d := fun y => ((dset (Y := fun b => c.X b ∨ b = C) fun b o e n q => q.elim n (ne e)).1 y).mono fun b o n e => (g b o e).1 fun z => n (.inl z)
    obtain ⟨m, hm, hv⟩ := i.vars
    refine ⟨m, g.ns hm, fun y e h => ?_⟩
    rcases hv y e h with ⟨k, u, hm, hd⟩ | ⟨k, b, u, hlb, hcb, hd⟩
    · exact .inl ⟨k, u, hm, dm hd⟩
    · exact .inr ⟨k, b, u, hlb, g.cell hcb, dm hd⟩
  · obtain ⟨h1, h2, h3⟩ := i'.ownC y a hm
    exact ⟨.inl h1, h2, h3⟩
theorem Inv.shrink {h h₀ h₄ : Heap} {C : Addr} (i : Inv W ⟨fun b => c.X b ∨ b = C, c.A, c.env, c.k⟩ σ h) {τ : Sg} (i0 : Inv W c τ h₀) (nC : h₀.get? C = none) (sb : Heap.SameBut C h h₄) : Inv W c σ h₄ := by
  have xC : ∀ {b}, c.X b → b ≠ C := fun q z => by
    obtain ⟨o, ho, _⟩ := i0.run.own _ q
    rw [z, nC] at ho; cases ho
  have own' : ∀ b, c.X b → ∃ o, h₄.get? b = some o ∧ ∀ vs, o.data ≠ .fields vs := fun b q => by
    obtain ⟨o, ho, hn⟩ := i.run.own b (.inl q)
    exact ⟨o, (sb.2 b (xC q)).trans ho, hn⟩
  refine ⟨⟨i.run.hh, i.run.hd, i.run.hu, ?_, fun b o e => (sb.2 b fun z => ?_).trans (i.run.stay b o e), own', fun b q => i.run.off b (.inl q)⟩, i.fk, i.gl, i.bl, ?_, i0.ownL, fun y a hm => ?_, i.apart⟩
  · obtain ⟨envs, h1, h2, h3⟩ := i.run.frames
    obtain ⟨envs', h1', _, h3'⟩ := i0.run.frames
    have : envs' = envs := Option.some.inj (h1'.symm.trans h1)
    subst this
    exact ⟨envs', h1, funFrames_re h2 fun b hb => own' b (h3' b hb), h3'⟩
  · have := i0.run.stay b o e
    rw [z, nC] at this; cases this
  · obtain ⟨m, hm, hv⟩ := i.vars
    refine ⟨m, hm.sameBut sb (xC i0.ownL), fun y e hl => ?_⟩
    have dm : ∀ {v d}, DIn (fun b => c.X b ∨ b = C) h v d → DIn c.X h₄ v d := fun y => (dset fun b o _ n z => n (.inl z)).1 (y.mono fun b o n e => (sb.2 b fun z => n (.inr z)).trans e)
    rcases hv y e hl with ⟨k, u, hm, hd⟩ | ⟨k, b, u, hlb, hcb, hd⟩
    · exact .inl ⟨k, u, hm, dm hd⟩
    · exact .inr ⟨k, b, u, hlb, hcb.sameBut sb (xC (i0.ownC y b (mem_of_lookup hlb)).1), dm hd⟩
  · obtain ⟨_, h2, v, h3⟩ := i.ownC y a hm
    exact ⟨(i0.ownC y a hm).1, h2, v, h3.sameBut sb (xC (i0.ownC y a hm).1)⟩

theorem Kp.gr {X : Addr → Prop} {I : Addr} {h h₂ h' : Heap} (g : Gr X h h₂) (hI : h.get? I = none) (k : Kp X I h₂ h') : Gr X h h' := fun b o e => by
  have n : b ≠ I := fun z => by rw [z, hI] at e; cases e
  refine ⟨fun q => (k b o ((g b o e).1 q) n).1 q, fun q => ?_⟩
  obtain ⟨sl, z⟩ := (g b o e).2 q
  exact (k b _ z n).2 q

/-- the value of a comprehension is handed on -/
theorem comp_none {s s₂ : Shared} {I D C : Addr} {h' : Heap} {tk : Nat} {m : Str → Option Value} {rs : List Mine.D} {Q E : Value → Shared → Prop} (p : Post W c.X c.A s (.ok (.lst rs)) Q E) (hs : ∃ h t, s₂ = { s with heap := h, toks := t }) (g : Gr c.X s.heap s₂.heap) (hI : s.heap.get? I = none)
    (nC : s.heap.get? C = none) (hn : h'.Ns C m) (d : DIn (fun b => c.X b ∨ b = C) h' (.ref D) (.lst rs)) (k : Kp c.X I s₂.heap h') : compPost (Md W) c.A E none Q (.ref D) C (.ok .next) { s₂ with heap := h', toks := tk } := by
  obtain ⟨hh, t, rfl⟩ := hs
  refine ⟨m, hn, fun h'' sb => p _ h'' tk (fun b o e => ?_) ?_⟩
  · have n : b ≠ C := fun z => by rw [z, nC] at e; cases e
    have z := k.gr g hI b o e
    exact ⟨fun q => (sb.2 b n).trans (z.1 q), fun q => let ⟨sl, y⟩ := z.2 q; ⟨sl, (sb.2 b n).trans y⟩⟩
  · exact (dset fun b o _ n z => n (.inl z)).1 (d.mono fun b o n e => (sb.2 b fun z => n (.inr z)).trans e)
/-- the value of a comprehension is stored -/
theorem comp_some {s s₂ : Shared} {I D C : Addr} {h' : Heap} {tk : Nat} {m : Str → Option Value} {rs : List Mine.D} {y : Str} {py : Pos} {P : Out → Prop} {Q : Flow → Shared → Prop} {E : Value → Shared → Prop} (i : Inv W c σ s.heap) (p : PostS W c s.heap P s Q E) (q : P (.next ((y, .lst rs) :: σ)))
    (hy : c.env.kindOf y = some .local) (hs : ∃ h t, s₂ = { s with heap := h, toks := t }) (g : Gr c.X s.heap s₂.heap) (hI : s.heap.get? I = none)
    (nC : s.heap.get? C = none) (hn : h'.Ns C m) (d : DIn (fun b => c.X b ∨ b = C) h' (.ref D) (.lst rs)) (k : Kp c.X I s₂.heap h') : compPost (Md W) c.A E (some (PySem.assign (.Name y py) c.env)) (fun _ s' => Q .next s') (.ref D) C (.ok .next) { s₂ with heap := h', toks := tk } := by
  obtain ⟨hh, t, rfl⟩ := hs
  have gr := k.gr g hI
  have i₂ := i.grow nC gr hn
  show wpAny (Md W) c.A (PySem.assign (.Name y py) c.env (.ref D)) _ _ _
  have neC : c.env.locals ≠ C := fun z => by
    obtain ⟨m, ⟨o, _, _, ho, _⟩, _⟩ := i.vars
    rw [z, nC] at ho; cases ho
  refine wpAny_assign_Name (store_loc (c := ⟨fun b => c.X b ∨ b = C, c.A, c.env, c.k⟩) hy i₂ d fun h₃ t₃ sb₃ i₃ => ?_)
  refine ⟨m, hn.sameBut sb₃ neC.symm, fun h₄ sb₄ => ?_⟩
  have i₄ := i₃.shrink i nC sb₄
  refine p.next _ h₄ t₃ q (fun b o e n => ?_) i₄
  have n1 : b ≠ C := fun z => by rw [z, nC] at e; cases e
  have n2 : b ≠ c.env.locals := fun z => n (.inl z)
  have z := gr b o e
  exact ⟨fun q => (sb₄.2 b n1).trans ((sb₃.2 b n2).trans (z.1 q)), fun q => let ⟨sl, y⟩ := z.2 q; ⟨sl, (sb₄.2 b n1).trans ((sb₃.2 b n2).trans y)⟩⟩
end
end Mine
end
section
open PySem PySem.W PySem.Spec PySem.Calls PyProof.Rows
set_option maxRecDepth 100000
set_option maxHeartbeats 1000000
namespace Mine

def frees (l : List (Str × NameKind)) : List Str := (l.filter fun x => x.2 == .free).map (·.1)
def relab (l : List (Str × NameKind)) : List (Str × NameKind) := l.map fun (n, k) => if k == .free then (n, .cell) else (n, k)
def clOf (env : Env) (l : List (Str × NameKind)) : List (Str × Addr) := (frees l).reverse.map fun n => (n, (env.cells.lookup n).getD 0)
theorem mem_frees {l : List (Str × NameKind)} {y : Str} : y ∈ frees l ↔ (y, NameKind.free) ∈ l := by
  unfold frees
  simp only [List.mem_map, List.mem_filter, beq_iff_eq]
  exact ⟨fun ⟨⟨n, k⟩, ⟨h1, h2⟩, h3⟩ => by cases h2; cases h3; exact h1, fun h => ⟨_, ⟨h, rfl⟩, rfl⟩⟩
theorem closure_go {env : Env} : ∀ (l : List (Str × NameKind)) (cs : List (Str × Addr)), (∀ y ∈ frees l, ∃ a, env.cells.lookup y = some a) →
    (forIn l cs fun (x : Str × NameKind) (cs : List (Str × Addr)) => do
      let (name, kind) := x
      if kind == .free then
        let a ← cellOf env name
        pure (ForInStep.yield ((name, a) :: cs))
      else pure (ForInStep.yield cs) : Sem (List (Str × Addr))) = pure (clOf env l ++ cs)
  | [], cs, _ => rfl
  | (n, k) :: r, cs, h => by
    rw [List.forIn_cons]
    cases hk : (k == NameKind.free) with
    | true =>
      have hk' : k = .free := beq_iff_eq.mp hk
      subst hk'
      obtain ⟨a, ha⟩ := h n (mem_frees.mpr (.head _))
      have e1 : cellOf env n = pure a := by unfold cellOf; rw [ha]
      have ih := closure_go r ((n, a) :: cs) fun y hy => h y (mem_frees.mpr (.tail _ (mem_frees.mp hy)))
      simp only [hk, if_true, e1]
      show (forIn r ((n, a) :: cs) _ : Sem _) = _
      rw [ih]
      have : clOf env ((n, NameKind.free) :: r) = clOf env r ++ [(n, a)] := by unfold clOf frees; simp [ha]
      rw [this, List.append_assoc]; rfl
    | false =>
      have ih := closure_go r cs fun y hy => h y (mem_frees.mpr (.tail _ (mem_frees.mp hy)))
      simp only [hk, Bool.false_eq_true, if_false]
      show (forIn r cs _ : Sem _) = _
      rw [ih]
      have : clOf env ((n, k) :: r) = clOf env r := by unfold clOf frees; simp [hk]
      rw [this]
theorem closure_of {env : Env} {scope : Scope} (h : ∀ y ∈ frees scope.names, ∃ a, env.cells.lookup y = some a) : closureFor scope env = pure (clOf env scope.names) := by
  have e := closure_go scope.names [] h
  rw [List.append_nil] at e
  unfold closureFor
  rw [← e]
  simp only [bind_pure]

theorem lookup_map_key {l : List Str} {g : Str → Addr} {y : Str} (h : y ∈ l) : (l.map fun n => (n, g n)).lookup y = some (g y) := by
  induction l with
  | nil => cases h
  | cons n r ih =>
    rw [List.map_cons, List.lookup_cons]
    cases q : y == n with
    | true => rw [beq_iff_eq.mp q]
    | false =>
      exact ih ((List.mem_cons.mp h).resolve_left fun z => by rw [z] at q; simp at q)
theorem relab_free {l : List (Str × NameKind)} {y : Str} (hd : (frees l).Nodup) : True := trivial

section
variable {W : Wd} {c : Fm} {σ : Sg}
/-- what a comprehension's own scope asks -/
structure CompOK (c : Fm) (scope : Scope) (σ σf : Sg) (x : Str) : Prop where
  kind : scope.kind = .function
  cell : ∀ y ∈ scope.names, y.2 ≠ .cell
  names : ∀ y ∈ scope.names, y.2 = .local → scope.names.lookup y.1 = some .local
  hx : scope.names.lookup x = some .local
  free : ∀ y ∈ frees scope.names, c.env.kindOf y = some .cell ∧ ∃ a, c.env.cells.lookup y = some a
  dist : (frees scope.names).Pairwise (· ≠ ·)
  look : ∀ y ∈ frees scope.names, (relab scope.names).lookup y = some .cell
  σf : ∀ y d, σf.lookup y = some d → σ.lookup y = some d ∧ y ∈ frees scope.names
theorem relabel_names {scope : Scope} (fk : c.env.scope.kind = .function) (h : ∀ y ∈ frees scope.names, c.env.kindOf y = some .cell) : (relabel scope c.env).names = relab scope.names := by
  unfold relabel relab
  refine List.map_congr_left fun p hp => ?_
  obtain ⟨n, k⟩ := p
  dsimp only
  cases hk : (k == NameKind.free) with
  | true =>
    have hk' : k = .free := beq_iff_eq.mp hk
    subst hk'
    rw [fk, h n (mem_frees.mpr hp)]
    rfl
  | false => simp
theorem CompOK.use {scope : Scope} {σf : Sg} {x : Str} (K : CompOK c scope σ σf x) {h : Heap} (i : Inv W c σ h) :
    closureFor scope c.env = pure (clOf c.env scope.names) ∧ (∀ y a, (y, a) ∈ clOf c.env scope.names → (y, a) ∈ c.env.cells) ∧ ((clOf c.env scope.names).Pairwise fun y z => y.2 ≠ z.2) ∧
    (∀ y d, σf.lookup y = some d → σ.lookup y = some d ∧ c.env.kindOf y = some .cell ∧ (relabel scope c.env).names.lookup y = some .cell ∧ ∃ a, (clOf c.env scope.names).lookup y = some a ∧ c.env.cells.lookup y = some a) := by
  have hg : ∀ y ∈ frees scope.names, (y, (c.env.cells.lookup y).getD 0) ∈ c.env.cells := fun y hy => by
    obtain ⟨_, a, ha⟩ := K.free y hy
    rw [ha]; exact mem_of_lookup ha
  refine ⟨closure_of fun y hy => (K.free y hy).2, fun y a hm => ?_, ?_, fun y d e => ?_⟩
  · obtain ⟨n, hn, e⟩ := List.mem_map.mp hm
    cases e
    exact hg _ (List.mem_reverse.mp hn)
  · unfold clOf
    rw [List.pairwise_map]
    have hd := List.pairwise_reverse.mpr (K.dist.imp fun h => Ne.symm h)
    exact hd.imp_of_mem fun {y z} hy hz ne q => by
      dsimp only at q
      have h1 := hg y (List.mem_reverse.mp hy)
      have h2 := hg z (List.mem_reverse.mp hz)
      rw [q] at h1
      exact ne (name_of_addr i.apart h1 h2)
  · obtain ⟨e1, e2⟩ := K.σf y d e
    obtain ⟨e3, a, ha⟩ := K.free y e2
    refine ⟨e1, e3, ?_, a, ?_, ha⟩
    · rw [relabel_names i.fk fun z hz => (K.free z hz).1]
      exact K.look y e2
    · have := lookup_map_key (g := fun n => (c.env.cells.lookup n).getD 0) (List.mem_reverse.mpr e2)
      rw [ha] at this
      exact this

/-- the frame inside a comprehension, as its test and its item see it -/
structure InComp (c c' : Fm) (scope : Scope) : Prop where
  k : c'.k = c.k
  kindOf : ∀ y, c'.env.kindOf y = (relab scope.names).lookup y
theorem InComp.of {c' : Fm} {scope : Scope} {σf : Sg} {x : Str} (K : CompOK c scope σ σf x) {h : Heap} (i : Inv W c σ h) {cl : List (Str × Addr)} (F : CompFm c c' scope cl) : InComp c c' scope := by
  refine ⟨F.k, fun y => ?_⟩
  obtain ⟨C, e⟩ := F.env
  rw [e]
  show (relabel scope c.env).names.lookup y = _
  rw [relabel_names i.fk fun z hz => (K.free z hz).1]

/-- [elt for x in e if t], e a list -/
theorem EvE.comp {elt iter t : Expr} {x : Str} {px pos : Pos} {scope : Scope} {ds : List D} (σf : Sg) (p : D → Bool) (f : D → D) (K : CompOK c scope σ σf x) (hi : EvE W c σ iter (.ok (.lst ds))) (hs : notSet iter = true) (hn : ds.length ≤ 1000)
    (ht : ∀ c', InComp c c' scope → ∀ d ∈ ds, EvT W c' ((x, d) :: σf) t (p d)) (he : ∀ c', InComp c c' scope → ∀ d ∈ ds, p d = true → EvE W c' ((x, d) :: σf) elt (.ok (f d))) :
    EvE W c σ (.ListComp elt [⟨.Name x px, iter, [t], 0⟩] scope pos) (.ok (.lst ((ds.filter p).map f))) := by
  intro s Q E i pq
  obtain ⟨u1, u2, u3, u4⟩ := K.use i
  rw [eval_ListComp]
  refine wpAny_comprehension_free (use := none) rfl (folded_none hs) u1 K.kind K.names (hi s _ E i fun v h₁ t₁ g₁ d₁ => ?_)
  obtain ⟨a, vs, rfl, hxa, hl, dl⟩ := lst_inv d₁
  have i₁ := i.gr g₁
  refine wpAny_pyIter_list (s := { s with heap := h₁, toks := t₁ }) hl ?_
  have gp := Gr.push (X := c.X) h₁ { cls := .type "list_iterator", data := .fields #[.ref a, .int 0 0] }
  have hal : a ≠ h₁.objs.size := let ⟨o, ho, _⟩ := hl; Nat.ne_of_lt (Heap.lt_size ho)
  have hlen : vs.toArray.size = ds.length := by rw [List.size_toArray]; exact dall_len dl
  have WK := Walks.list (prog := W.prog) (w := W.w) i.run.hh h₁.objs.size a hal vs.toArray
  rw [hlen] at WK
  refine comp_core (s := { s with heap := h₁.push _, toks := t₁ }) σf p f WK (fun b hb => ?_) (new_off i₁.run) (own_size i₁.run) (fun j h st => ?_) hn (i₁.gr gp) ⟨⟨_, Heap.get?_push_size _ rfl, rfl, rfl⟩, let ⟨o, ho, r⟩ := hl; ⟨o, Heap.get?_push_of_some _ ho, r⟩⟩ (fun j v d hv hd => ?_) u2 u3 K.kind K.cell K.hx u4
    (fun c' F => ht c' (.of K i F)) (fun c' F => he c' (.of K i F)) (fun D C h' tk m n1 n2 n3 n4 n5 n6 => comp_none (s := s) pq ⟨_, _, rfl⟩ (g₁.trans gp) (none_before g₁) ?_ n4 n5 n6)
  · simp only [List.mem_cons, List.not_mem_nil, or_false] at hb
    rcases hb with rfl | rfl
    · exact ⟨own_size i₁.run, by rw [Heap.size_push]; exact Nat.lt_succ_self _⟩
    · exact ⟨hxa, by obtain ⟨o, ho, _⟩ := hl; rw [Heap.size_push]; exact Nat.lt_succ_of_lt (Heap.lt_size ho)⟩
  · obtain ⟨⟨o, ho, hc, hd⟩, _⟩ := st
    exact ⟨o, _, ho, hd⟩
  · obtain ⟨u, hu, du⟩ := dall_get dl hd
    have : vs.toArray[j]? = some v := hv
    simp only [List.getElem?_toArray] at this
    rw [hu] at this; cases this
    exact du.gr gp
  · cases z : s.heap.get? C with
    | none => rfl
    | some o =>
      obtain ⟨sl, y⟩ := (g₁.trans gp).any z
      rw [n2] at y; cases y

/-- y = [elt for x in e if t], e a list -/
theorem W1.assignComp {elt iter t : Expr} {x y : Str} {px py pos spos : Pos} {scope : Scope} {ds : List D} {P : Out → Prop} (σf : Sg) (p : D → Bool) (f : D → D) (K : CompOK c scope σ σf x) (hi : EvE W c σ iter (.ok (.lst ds))) (hs : notSet iter = true) (hn : ds.length ≤ 1000)
    (hy : c.env.kindOf y = some .local) (hline : (py.line == pos.line) = true) (hny : (scope.names.any fun (n, k) => n == y && (k == .local || k == .cell)) = false)
    (ht : ∀ c', InComp c c' scope → ∀ d ∈ ds, EvT W c' ((x, d) :: σf) t (p d)) (he : ∀ c', InComp c c' scope → ∀ d ∈ ds, p d = true → EvE W c' ((x, d) :: σf) elt (.ok (f d)))
    (q : P (.next ((y, .lst ((ds.filter p).map f)) :: σ))) : W1 W c σ (.Assign [.Name y py] (.ListComp elt [⟨.Name x px, iter, [t], 0⟩] scope pos) spos) P := by
  intro s Q E i pq
  obtain ⟨u1, u2, u3, u4⟩ := K.use i
  have hsw : swapsWith (.ListComp elt [⟨.Name x px, iter, [t], 0⟩] scope pos) (some (.Name y py)) spos.line c.env = pure true := by
    unfold swapsWith
    dsimp only
    rw [hy, hny]
    have : c.env.blockKind = .function := by unfold Env.blockKind; rw [i.fk]; rfl
    rw [this, show (Expr.ListComp elt [⟨.Name x px, iter, [t], 0⟩] scope pos).pos = pos from rfl, hline]
    rfl
  rw [exec_Assign_Name_used _ _ _ _ hsw]
  refine wpAny_bind (wpAny_standAt (wpAny_bind ?_))
  show wpAny _ _ (do let _ ← comprehension (.ListComp elt [⟨.Name x px, iter, [t], 0⟩] scope pos) scope c.env _ (newList []) false (eval iter c.env) (some (PySem.assign (.Name y py) c.env))) _ _ s
  refine wpAny_bind (wpAny_mono (wpAny_comprehension_free (use := some (PySem.assign (.Name y py) c.env)) (Q := fun _ s' => Q .next s') rfl (folded_none hs) u1 K.kind K.names
    (hi s _ E i fun v h₁ t₁ g₁ d₁ => ?_)) (fun _ s' hq => wpAny_pure (wpAny_pure hq)) fun _ _ e => e)
  obtain ⟨a, vs, rfl, hxa, hl, dl⟩ := lst_inv d₁
  have i₁ := i.gr g₁
  refine wpAny_pyIter_list (s := { s with heap := h₁, toks := t₁ }) hl ?_
  have gp := Gr.push (X := c.X) h₁ { cls := .type "list_iterator", data := .fields #[.ref a, .int 0 0] }
  have hal : a ≠ h₁.objs.size := let ⟨o, ho, _⟩ := hl; Nat.ne_of_lt (Heap.lt_size ho)
  have hlen : vs.toArray.size = ds.length := by rw [List.size_toArray]; exact dall_len dl
  have WK := Walks.list (prog := W.prog) (w := W.w) i.run.hh h₁.objs.size a hal vs.toArray
  rw [hlen] at WK
  refine comp_core (s := { s with heap := h₁.push _, toks := t₁ }) σf p f WK (fun b hb => ?_) (new_off i₁.run) (own_size i₁.run) (fun j h st => ?_) hn (i₁.gr gp) ⟨⟨_, Heap.get?_push_size _ rfl, rfl, rfl⟩, let ⟨o, ho, r⟩ := hl; ⟨o, Heap.get?_push_of_some _ ho, r⟩⟩ (fun j v d hv hd => ?_) u2 u3 K.kind K.cell K.hx u4
    (fun c' F => ht c' (.of K i F)) (fun c' F => he c' (.of K i F)) (fun D C h' tk m n1 n2 n3 n4 n5 n6 => comp_some (s := s) i pq q hy ⟨_, _, rfl⟩ (g₁.trans gp) (none_before g₁) ?_ n4 n5 n6)
  · simp only [List.mem_cons, List.not_mem_nil, or_false] at hb
    rcases hb with rfl | rfl
    · exact ⟨own_size i₁.run, by rw [Heap.size_push]; exact Nat.lt_succ_self _⟩
    · exact ⟨hxa, by obtain ⟨o, ho, _⟩ := hl; rw [Heap.size_push]; exact Nat.lt_succ_of_lt (Heap.lt_size ho)⟩
  · obtain ⟨⟨o, ho, hc, hd⟩, _⟩ := st
    exact ⟨o, _, ho, hd⟩
  · obtain ⟨u, hu, du⟩ := dall_get dl hd
    have : vs.toArray[j]? = some v := hv
    simp only [List.getElem?_toArray] at this
    rw [hu] at this; cases this
    exact du.gr gp
  · cases z : s.heap.get? C with
    | none => rfl
    | some o =>
      obtain ⟨sl, y⟩ := (g₁.trans gp).any z
      rw [n2] at y; cases y
end
end Mine
end
section
open PySem PySem.W PySem.Spec PySem.Calls PyProof.Rows
set_option maxRecDepth 100000
set_option maxHeartbeats 1000000
namespace Mine

section
variable {prog : Program} {w : World} {A : Around} {E : Value → Shared → Prop} {s : Shared}
def min4 (a b c d : Int) : Int := let m := if b < a then b else a; let m := if c < m then c else m; if d < m then d else m
theorem call_min_four {a b c d : Int} {t u x y : Tok} {Q : Value → Shared → Prop} (hh : A.handled = none)
    (h : ∀ tk h' tk', (∀ e o, s.heap.get? e = some o → h'.get? e = some o) → Q (.int (min4 a b c d) tk) { s with heap := h', toks := tk' }) :
    wpAny (model prog w) A (call (.builtin "min") [.int a t, .int b u, .int c x, .int d y]) Q E s := by
  have hname : (toString "min" ++ toString ".loop" : String) = "min.loop" := by decide
  refine call_function_tree F.kind_min F.plain_min F.entry_min (by unfold argsOk; kernel_rfl) ?_
  show wpAny _ A.in1 (Builtin.Builtins.bindParams "min" ["key", "default"] 0 ⟨[], []⟩ >>= _) _ _ s
  refine wpAny_bind (wpAny_of_eq (show Builtin.Builtins.bindParams "min" ["key", "default"] 0 ⟨[], []⟩ = pure [none, none] from rfl) ?_)
  show wpAny _ A.in1 (newTuple [.int a t, .int b u, .int c x, .int d y] >>= _) _ _ s
  refine wpAny_bind (wpAny_newObj_type ?_)
  let xs : Array (Int × Tok) := #[(a, t), (b, u), (c, x), (d, y)]
  have hT : (s.heap.push { cls := .type "tuple", data := .seq #[.int a t, .int b u, .int c x, .int d y] }).IsTuple s.heap.objs.size (intItems xs) := ⟨_, Heap.get?_push_size _ rfl, rfl, 0, by simp [intItems, xs]⟩
  have hsz : (s.heap.push { cls := .type "tuple", data := .seq #[.int a t, .int b u, .int c x, .int d y] }).objs.size = s.heap.objs.size + 1 := Heap.size_push ..
  refine wpAny_bind (wpAny_pyIter_tuple hT ?_)
  have W := Walks.tuple (prog := prog) (w := w) (A := A.in1) hh (s.heap.push { cls := .type "tuple", data := .seq #[.int a t, .int b u, .int c x, .int d y] }).objs.size s.heap.objs.size (by rw [hsz]; exact Nat.ne_of_lt (Nat.lt_succ_self _)) (intItems xs)
  refine wpAny_bind (wpAny_newObj_type ?_)
  rw [hname]
  refine wpAny_pure ⟨plainId_quiet F.plain_min_loop _, codeAny_min_loop_first W _ (CmpOf.ints_lt (numAt xs) fun _ _ => intItems_at) _ ?_ (by simp [intItems, xs]) (W.frame _ _ _ ⟨⟨_, Heap.get?_push_size _ rfl, rfl, rfl⟩, hT.push _⟩ fun b _ o e => Heap.get?_push_of_some _ e) (Heap.get?_push_size _ rfl) fun v h' tk hP hk => ?_⟩
  · intro hm
    simp only [List.mem_cons, List.not_mem_nil, or_false] at hm
    rw [Heap.size_push, hsz] at hm
    rcases hm with hm | hm
    · exact Nat.succ_ne_self _ hm
    · exact absurd hm (Nat.ne_of_gt (Nat.lt_succ_of_lt (Nat.lt_succ_self _)))
  · have hold : ∀ e o, s.heap.get? e = some o → h'.get? e = some o := fun e o q => by
      have hlt := Heap.lt_size q
      refine hk e o (fun hm => ?_) (Nat.ne_of_lt ?_) (Heap.get?_push_of_some _ (Heap.get?_push_of_some _ (Heap.get?_push_of_some _ q)))
      · simp only [List.mem_cons, List.not_mem_nil, or_false] at hm
        rw [hm, hsz] at hlt; exact Nat.lt_irrefl _ (Nat.lt_of_succ_lt hlt)
      · rw [Heap.size_push, hsz]; exact Nat.lt_succ_of_lt (Nat.lt_succ_of_lt hlt)
    have hv : ∃ tk, v = Value.int (min4 a b c d) tk := by
      have hsz2 : (intItems xs).size - 1 = 3 := by simp [intItems, xs]
      have hP' : (intItems xs)[argBest (fun i j => decide (numAt xs i < numAt xs j)) 3]? = some v := by rw [← hsz2]; exact hP
      unfold min4
      by_cases h1 : b < a
      · by_cases h2 : c < b
        · by_cases h3 : d < c
          · have e : argBest (fun i j => decide (numAt xs i < numAt xs j)) 3 = 3 := by simp [argBest, numAt, xs, h1, h2, h3]
            rw [e] at hP'; simp [intItems, xs] at hP'; exact ⟨_, by simp [h1, h2, h3]; exact hP'.symm⟩
          · have e : argBest (fun i j => decide (numAt xs i < numAt xs j)) 3 = 2 := by simp [argBest, numAt, xs, h1, h2, h3]
            rw [e] at hP'; simp [intItems, xs] at hP'; exact ⟨_, by simp [h1, h2, h3]; exact hP'.symm⟩
        · by_cases h3 : d < b
          · have e : argBest (fun i j => decide (numAt xs i < numAt xs j)) 3 = 3 := by simp [argBest, numAt, xs, h1, h2, h3]
            rw [e] at hP'; simp [intItems, xs] at hP'; exact ⟨_, by simp [h1, h2, h3]; exact hP'.symm⟩
          · have e : argBest (fun i j => decide (numAt xs i < numAt xs j)) 3 = 1 := by simp [argBest, numAt, xs, h1, h2, h3]
            rw [e] at hP'; simp [intItems, xs] at hP'; exact ⟨_, by simp [h1, h2, h3]; exact hP'.symm⟩
      · by_cases h2 : c < a
        · by_cases h3 : d < c
          · have e : argBest (fun i j => decide (numAt xs i < numAt xs j)) 3 = 3 := by simp [argBest, numAt, xs, h1, h2, h3]
            rw [e] at hP'; simp [intItems, xs] at hP'; exact ⟨_, by simp [h1, h2, h3]; exact hP'.symm⟩
          · have e : argBest (fun i j => decide (numAt xs i < numAt xs j)) 3 = 2 := by simp [argBest, numAt, xs, h1, h2, h3]
            rw [e] at hP'; simp [intItems, xs] at hP'; exact ⟨_, by simp [h1, h2, h3]; exact hP'.symm⟩
        · by_cases h3 : d < a
          · have e : argBest (fun i j => decide (numAt xs i < numAt xs j)) 3 = 3 := by simp [argBest, numAt, xs, h1, h2, h3]
            rw [e] at hP'; simp [intItems, xs] at hP'; exact ⟨_, by simp [h1, h2, h3]; exact hP'.symm⟩
          · have e : argBest (fun i j => decide (numAt xs i < numAt xs j)) 3 = 0 := by simp [argBest, numAt, xs, h1, h2, h3]
            rw [e] at hP'; simp [intItems, xs] at hP'; exact ⟨_, by simp [h1, h2, h3]; exact hP'.symm⟩
    obtain ⟨tk', rfl⟩ := hv
    exact h tk' h' tk hold
end

section
variable {W : Wd} {c : Fm} {σ : Sg}
theorem call_min4 {a b c d : Int} : CallOK W 0 (.builtin "min") [.int a, .int b, .int c, .int d] (.ok (.int (min4 a b c d))) := by
  intro X A s vs Q E rn da p
  obtain ⟨v1, r, rfl, d1, da⟩ := dall_cons da
  obtain ⟨v2, r, rfl, d2, da⟩ := dall_cons da
  obtain ⟨v3, r, rfl, d3, da⟩ := dall_cons da
  obtain ⟨v4, r, rfl, d4, da⟩ := dall_cons da
  obtain rfl := dall_nil da
  obtain ⟨t1, rfl⟩ := int_inv d1
  obtain ⟨t2, rfl⟩ := int_inv d2
  obtain ⟨t3, rfl⟩ := int_inv d3
  obtain ⟨t4, rfl⟩ := int_inv d4
  exact call_min_four rn.hh fun tk h' tk' hk => p _ h' tk' (Gr.of_keeps hk) (.int _ _)

/-- a op b op' c -/
theorem EvT.chain2 {l m r : Expr} {op op' : CmpOp} {pos : Pos} {a b d : D} {x y : Bool} (hl : EvE W c σ l (.ok a)) (hm : EvE W c σ m (.ok b)) (hr : EvE W c σ r (.ok d)) (ho : CmpOK W c op a b x) (ho' : CmpOK W c op' b d y)
    (hmk : lastMarks [op, op'] [m, r] = false) : EvT W c σ (.Compare l [op, op'] [m, r] pos) (x && y) := by
  intro s Q E i p
  refine isTrue_chain (hl s _ E i fun u h₁ t₁ g₁ d₁ => test_link (hm _ _ E (i.gr g₁) fun v h₂ t₂ g₂ d₂ => ?_)) hmk
  have i₂ := (i.gr g₁).gr g₂
  refine ho _ u v _ E i₂.run (d₁.gr g₂) d₂ fun h₃ t₃ g₃ => wpAny_truthy_bool ?_
  cases x with
  | false => exact p h₃ t₃ ((g₁.trans g₂).trans g₃)
  | true =>
    refine test_last (hr _ _ E (i₂.gr g₃) fun z h₄ t₄ g₄ d₄ => ?_)
    refine ho' _ v z _ E ((i₂.gr g₃).gr g₄).run ((d₂.gr g₃).gr g₄) d₄ fun h₅ t₅ g₅ => wpAny_truthy_bool ?_
    exact p h₅ t₅ ((((g₁.trans g₂).trans g₃).trans g₄).trans g₅)

theorem EvE.bool {b : Bool} {k : Nat} {pos : Pos} : EvE W c σ (.Constant (.bool b) k pos) (.ok (.bool b)) := by
  intro s Q E i p
  exact wpAny_pure (p _ s.heap s.toks (Gr.refl _ _) (.bool _))

/-- l[:k] -/
theorem EvE.upto {v : Expr} {k : Nat} {kc : Nat} {pc ps pos : Pos} {ds : List D} (hv : EvE W c σ v (.ok (.lst ds))) (hn : ds.length ≤ 1000) (ht : ∀ (o r : Value), letTemporaryGo v o r = pure ()) : EvE W c σ (.Subscript v (.Slice none (some (.Constant (.int k) kc pc)) none ps) pos) (.ok (.lst (ds.take k))) := by
  intro s Q E i p
  refine wpAny_Subscript_Slice slot_list_getitem.lookup (hv s _ E i fun u h₁ t₁ g₁ d₁ => ?_) ht
  obtain ⟨a, vs, rfl, hx, hl, dl⟩ := lst_inv d₁
  refine wpAny_Slice ?_
  rw [evalPart_none, evalPart_some]
  refine wpAny_pure (wpAny_Constant_int (wpAny_pure ?_))
  have g2 := Gr.push (X := c.X) h₁ { cls := .type "slice", data := .fields #[.none, .int k t₁, .none] }
  have i₂ := (i.gr g₁).gr g2
  refine ⟨Heap.IsList.typeIs (s := { s with heap := h₁.push _, toks := t₁ + 1 }) (hl.push _), ?_⟩
  refine wpAny_getItem_list_slice (s := { s with heap := h₁.push { cls := .type "slice", data := .fields #[.none, .int k t₁, .none] }, toks := t₁ + 1 }) (hl.push _) (Heap.IsSliceOf.new ..) .none (.int k t₁) .none (by simp) ?_ (by rw [List.size_toArray, dall_len dl, sizeLine_eq]; omega)
  rw [slicePick_upto']
  have g3 := Gr.push (X := c.X) (h₁.push { cls := .type "slice", data := .fields #[.none, .int k t₁, .none] }) { cls := .type "list", data := .seq (vs.toArray.toList.take k).toArray }
  refine p _ _ _ ((g₁.trans g2).trans g3) (.lst (own_size i₂.run) ⟨_, Heap.get?_push_size _ rfl, rfl, 0, rfl⟩ ?_)
  have : ∀ {vs : List Value} {ds : List D} {h : Heap} (k : Nat), DAll c.X h vs ds → DAll c.X h (vs.take k) (ds.take k) := fun {vs ds h} k => by
    induction k generalizing vs ds with
    | zero => intro _; simpa using DAll.nil
    | succ n ih =>
      intro x
      cases x with
      | nil => exact .nil
      | cons a b => exact .cons a (ih b)
  exact this k ((dl.gr g2).gr g3)

theorem foldl_app {α : Type} (n : Nat) (its : Array α) (acc : Array α) : (List.foldl (fun x1 x2 => x1 ++ x2) acc (List.replicate n its)).toList = acc.toList ++ (List.replicate n its.toList).flatten := by
  induction n generalizing acc with
  | zero => simp
  | succ n ih => simp only [List.replicate_succ, List.foldl_cons, ih, Array.toList_append, List.flatten_cons, List.append_assoc]
theorem dall_rep {X : Addr → Prop} {h : Heap} {vs : List Value} {ds : List D} (x : DAll X h vs ds) : ∀ n : Nat, DAll X h (List.replicate n vs).flatten (List.replicate n ds).flatten
  | 0 => .nil
  | n + 1 => by simp only [List.replicate_succ, List.flatten_cons]; exact dall_app x (dall_rep x n)
theorem mul_at {prog : Program} {w : World} {A : Around} {E : Value → Shared → Prop} {s : Shared} {l : Addr} {items : Array Value} {k : Nat} {x : Int} {u : Tok} {Q : Value → Shared → Prop}
    (hl : s.heap.get? l = some { cls := .type "list", dict := none, data := .seq items k, slots := #[] })
    (hlo : -(2 ^ 63 : Int) ≤ x) (hhi : x < 2 ^ 63) (hsz : items.size * x.toNat ≤ 2 ^ 24)
    (h : Q (.ref s.heap.objs.size) { s with heap := s.heap.push { cls := .type "list", data := .seq (List.foldl (fun x1 x2 => x1 ++ x2) #[] (List.replicate (if items.isEmpty = true then 0 else x.toNat) items)) } }) :
    wpAny (model prog w) A (binaryOp .Mult (.ref l) (.int x u)) Q E s :=
  wpAny_binaryOp_repeat_ref (T := "list") (U := "int") (by decide) ⟨_, hl, rfl⟩ (fun s' => typeIs_int s' x u) noFill_list_mul F.fills_int_mul F.slot_int_rmul repeat_list F.slot_int_index.lookup
    (call_meets F.slot_int_rmul (typeIs_int s x u) F.entry_int_rmul (F.args_int_rmul_2 _ _) (int___rmul___int_list x u l items k)
      ⟨hl, rfl, ⟨_, hl, rfl⟩, call_meets F.slot_list_mul ⟨_, hl, rfl⟩ F.entry_list_mul (F.args_list_mul_2 _ _)
        (AutoListH.list___mul___list_int_3 l items k x u (by simp [Builtin.List.listFitsIndex]; omega) (by omega) (by simp [Builtin.List.listTooLong, sizeLine]; omega))
        ⟨hl, h⟩⟩)
/-- [..] * k -/
theorem EvE.rep {e : Expr} {es : List Expr} {kc k : Nat} {pl pc pos : Pos} {ds : List D} (ha : EvL W c σ (e :: es) (some ds)) (hn : (e :: es).length ≤ 100) (hk : k ≤ 100) (hlen : ds.length = (e :: es).length) :
    EvE W c σ (.BinOp (.List (e :: es) pl) .Mult (.Constant (.int k) kc pc) pos) (.ok (.lst (List.replicate k ds).flatten)) := by
  intro s Q E i p
  refine wpAny_BinOp (wpAny_List (ha s pl _ E i fun vs h₁ t₁ hl g₁ d₁ => ?_))
  have i₁ := i.gr g₁
  refine ⟨by rw [hl, sizeLine_eq]; simp only [List.length_cons] at hn ⊢; omega, ?_⟩
  refine wpAny_Constant_int ?_
  have g2 := Gr.push (X := c.X) h₁ { cls := .type "list", data := .seq vs.toArray }
  have i₂ := i₁.gr g2
  have ho : (h₁.push { cls := .type "list", data := .seq vs.toArray }).get? h₁.objs.size = some { cls := .type "list", dict := none, data := .seq vs.toArray 0, slots := #[] } := Heap.get?_push_size _ rfl
  generalize h₁.push { cls := .type "list", data := .seq vs.toArray } = h₂ at ho g2 i₂ ⊢
  have hsz : vs.toArray.size * (k : Int).toNat ≤ 2 ^ 24 := by
    rw [List.size_toArray, hl, Int.toNat_natCast]
    exact Nat.le_trans (Nat.mul_le_mul hn hk) (by decide)
  refine mul_at (s := { s with heap := h₂, toks := t₁ + 1 }) ho (by omega) (by omega) hsz ?_
  have g3 := Gr.push (X := c.X) h₂ { cls := .type "list", data := .seq (List.foldl (fun x1 x2 => x1 ++ x2) #[] (List.replicate (if vs.toArray.isEmpty = true then 0 else (k : Int).toNat) vs.toArray)) }
  refine p _ _ _ ((g₁.trans g2).trans g3) (.lst (vs := (List.replicate k vs).flatten) (own_size i₂.run) ⟨_, Heap.get?_push_size _ rfl, rfl, 0, ?_⟩ ((dall_rep d₁ k).gr (g2.trans g3)))
  have hne : vs.toArray.isEmpty = false := by
    cases vs with
    | nil => simp at hl
    | cons _ _ => rfl
  rw [hne, Int.toNat_natCast]
  have e : (List.foldl (fun x1 x2 => x1 ++ x2) #[] (List.replicate (if false = true then 0 else k) vs.toArray)) = (List.replicate k vs).flatten.toArray := Array.toList_inj.mp (by rw [foldl_app]; simp)
  show Data.seq _ _ = Data.seq _ _
  rw [e]
end
end Mine
end
section
open PySem PySem.W PySem.Spec PySem.Calls PyProof.Rows
set_option maxRecDepth 100000
set_option maxHeartbeats 1000000
namespace Mine
section
variable {W : Wd} {c : Fm} {σ : Sg}
/-- [elt for x in range(n) if t] -/
theorem EvE.compRange {elt e t : Expr} {x : Str} {px np rp pos : Pos} {scope : Scope} {n : Int} (σf : Sg) (p : D → Bool) (f : D → D) (K : CompOK c scope σ σf x) (hi : EvE W c σ e (.ok (.int n))) (hs : notStar e = true) (hg : nsIn W.K mainGlobals (Str.ofString "range") = some none) (hr : c.env.kindOf (Str.ofString "range") = some .globalImplicit) (hn : n.toNat ≤ 1000) (hn' : n.natAbs < 2 ^ 61)
    (ht : ∀ c', InComp c c' scope → ∀ d ∈ rangeD n, EvT W c' ((x, d) :: σf) t (p d)) (he : ∀ c', InComp c c' scope → ∀ d ∈ rangeD n, p d = true → EvE W c' ((x, d) :: σf) elt (.ok (f d))) :
    EvE W c σ (.ListComp elt [⟨.Name x px, .Call (.Name (Str.ofString "range") np) [e] [] rp, [t], 0⟩] scope pos) (.ok (.lst (((rangeD n).filter p).map f))) := by
  intro s Q E i pq
  obtain ⟨u1, u2, u3, u4⟩ := K.use i
  rw [eval_ListComp]
  refine wpAny_comprehension_free (use := none) rfl (folded_none rfl) u1 K.kind K.names (ev_range i hg hr hs hi fun h₁ t₁ r tt uu vv g₁ hR => ?_)
  have i₁ := i.gr g₁
  refine wpAny_pyIter_range (s := { s with heap := h₁, toks := t₁ }) hR (small_one (by omega) (by omega) (by omega) (by omega)) ?_
  have gp := Gr.push (X := c.X) h₁ { cls := .type "range_iterator", data := .fields #[rawInt 0, rawInt (Builtin.Range.rangeSize 0 n 1), rawInt 1] }
  have hlen : (rangeD n).length = n.toNat := by simp [rangeD]
  have WK := Walks.range (prog := W.prog) (w := W.w) i.run.hh h₁.objs.size 0 1 n.toNat
  rw [← hlen] at WK
  have hget : ∀ (j : Nat) (d : D), (rangeD n)[j]? = some d → j < n.toNat ∧ d = .int j := fun j d h => by
    have hj := getElem_lt h
    rw [hlen] at hj
    simp [rangeD, hj] at h
    exact ⟨hj, h.symm⟩
  refine comp_core (s := { s with heap := h₁.push _, toks := t₁ }) σf p f WK (fun b hb => ?_) (new_off i₁.run) (own_size i₁.run) (fun j h st => ⟨_, _, st, rfl⟩) (by rw [hlen]; exact hn) (i₁.gr gp) ?_ (fun j v d hv hd => ?_) u2 u3 K.kind K.cell K.hx u4
    (fun c' F => ht c' (.of K i F)) (fun c' F => he c' (.of K i F)) (fun D C h' tk m n1 n2 n3 n4 n5 n6 => comp_none (s := s) pq ⟨_, _, rfl⟩ (g₁.trans gp) (none_before g₁) ?_ n4 n5 n6)
  · simp only [List.mem_cons, List.not_mem_nil, or_false] at hb
    subst hb
    exact ⟨own_size i₁.run, by rw [Heap.size_push]; exact Nat.lt_succ_self _⟩
  · show IsRangeIter _ _ (0 + ((0 : Nat) : Int) * 1) (((rangeD n).length : Int) - ((0 : Nat) : Int)) 1
    have e1 : Builtin.Range.rangeSize 0 n 1 = (((rangeD n).length : Int) - ((0 : Nat) : Int)) := by rw [rangeSize_one, hlen]; split <;> omega
    rw [← e1]
    exact Heap.get?_push_size _ rfl
  · obtain ⟨t, rfl⟩ := hv
    obtain ⟨_, rfl⟩ := hget j d hd
    rw [show (0 : Int) + (j : Int) * 1 = j by omega]
    exact .int _ _
  · cases z : s.heap.get? C with
    | none => rfl
    | some o =>
      obtain ⟨sl, y⟩ := (g₁.trans gp).any z
      rw [n2] at y; cases y
end
end Mine
end
section
open PySem PySem.W PySem.Spec PySem.Calls PyProof.Rows
set_option maxRecDepth 100000
set_option maxHeartbeats 1000000
namespace Mine
theorem lk_hd {x : Str} {d : D} {σ : Sg} : ((x, d) :: σ : Sg).lookup x = some d := by simp
theorem lk_tl {x y : Str} {d e : D} {σ : Sg} (h : (y == x) = false) (t : σ.lookup y = some d) : ((x, e) :: σ : Sg).lookup y = some d := by rw [List.lookup_cons, h]; exact t
theorem boot_abs : bootBuiltins (Str.ofString "abs") = some (.builtin "abs") := by decide +kernel
theorem boot_max : bootBuiltins (Str.ofString "max") = some (.builtin "max") := by decide +kernel
theorem boot_min : bootBuiltins (Str.ofString "min") = some (.builtin "min") := by decide +kernel
theorem boot_len : bootBuiltins (Str.ofString "len") = some (.builtin "len") := by decide +kernel
theorem boot_divmod : bootBuiltins (Str.ofString "divmod") = some (.builtin "divmod") := by decide +kernel
theorem boot_str : bootBuiltins (Str.ofString "str") = some (.type "str") := by decide +kernel
theorem len1 {vs : List Value} (h : vs.length = 1) : ∃ v1, vs = [v1] := by
  match vs, h with
  | [v1], _ => exact ⟨v1, rfl⟩
theorem len2 {vs : List Value} (h : vs.length = 2) : ∃ v1 v2, vs = [v1, v2] := by
  match vs, h with
  | [v1, v2], _ => exact ⟨v1, v2, rfl⟩
theorem len3 {vs : List Value} (h : vs.length = 3) : ∃ v1 v2 v3, vs = [v1, v2, v3] := by
  match vs, h with
  | [v1, v2, v3], _ => exact ⟨v1, v2, v3, rfl⟩
theorem len4 {vs : List Value} (h : vs.length = 4) : ∃ v1 v2 v3 v4, vs = [v1, v2, v3, v4] := by
  match vs, h with
  | [v1, v2, v3, v4], _ => exact ⟨v1, v2, v3, v4, rfl⟩
theorem len5 {vs : List Value} (h : vs.length = 5) : ∃ v1 v2 v3 v4 v5, vs = [v1, v2, v3, v4, v5] := by
  match vs, h with
  | [v1, v2, v3, v4, v5], _ => exact ⟨v1, v2, v3, v4, v5, rfl⟩
theorem len6 {vs : List Value} (h : vs.length = 6) : ∃ v1 v2 v3 v4 v5 v6, vs = [v1, v2, v3, v4, v5, v6] := by
  match vs, h with
  | [v1, v2, v3, v4, v5, v6], _ => exact ⟨v1, v2, v3, v4, v5, v6, rfl⟩
theorem len7 {vs : List Value} (h : vs.length = 7) : ∃ v1 v2 v3 v4 v5 v6 v7, vs = [v1, v2, v3, v4, v5, v6, v7] := by
  match vs, h with
  | [v1, v2, v3, v4, v5, v6, v7], _ => exact ⟨v1, v2, v3, v4, v5, v6, v7, rfl⟩
section
variable {W : Wd} {c : Fm} {σ : Sg}
theorem EvL.ok {e : Expr} {es : List Expr} {d : D} {ds : List D} (hs : notStar e = true) (h : EvE W c σ e (.ok d)) (hl : EvL W c σ es (some ds)) : EvL W c σ (e :: es) (some (d :: ds)) := EvL.cons hs h hl
theorem EvE.tup {es : List Expr} {k : Nat} {pos : Pos} {ds : List D} (h : EvL W c σ es (some ds)) (hn : es.length ≤ 1000) : EvE W c σ (.Tuple es k pos) (.ok (.tup ds)) := EvE.tuple h hn
theorem EvE.lst {es : List Expr} {pos : Pos} {ds : List D} (h : EvL W c σ es (some ds)) (hn : es.length ≤ 1000) : EvE W c σ (.List es pos) (.ok (.lst ds)) := EvE.list h hn
theorem EvE.to {e : Expr} {r r' : R} (h : EvE W c σ e r) (q : r = r') : EvE W c σ e r' := q ▸ h
theorem EvT.to {e : Expr} {b b' : Bool} (h : EvT W c σ e b) (q : b = b') : EvT W c σ e b' := q ▸ h
theorem W1.set {x : Str} {p1 pos : Pos} {e : Expr} {d : D} {P : Out → Prop} (h : EvE W c σ e (.ok d)) (hc : notComp e = true) (hx : Stores c x) (k : P (.next ((x, d) :: σ))) : W1 W c σ (.Assign [.Name x p1] e pos) P := W1.assign h hc hx k
theorem W1.done {e : Expr} {pos : Pos} {d : D} {P : Out → Prop} (h : EvE W c σ e (.ok d)) (k : P (.ret d)) : W1 W c σ (.Return (some e) pos) P := W1.ret h k
theorem WS.end1 {st : Stmt} {rest : List Stmt} {P : Out → Prop} (h : W1 W c σ st (Seq (fun _ => False) P)) : WS W c σ (st :: rest) P := WS.cons h fun _ q => q.elim
theorem callOK_fn {f : Addr} {name qual : Str} {params : Arguments} {body : List Stmt} {scope : Scope} {dV kV doc pm cdv ct oc : Value} {an od : Option Addr} {osl : Array (Option Value)} {ds : List D} {r : R} {k : Nat} (xs : List Str) (σ : Sg)
    (ho : W.K.lookup f = some ⟨oc, od, .func (fnOf name qual params body scope dV kV doc pm an cdv ct), osl⟩) (hcd : codeIn W.K cdv qual = true) (hlen : xs.length = ds.length)
    (hb : ∀ vs : List Value, vs.length = xs.length → bindArgs (fnOf name qual params body scope dV kV doc pm an cdv ct) ⟨vs, []⟩ = pure (xs.zip vs))
    (hxs : ∀ x ∈ xs, scope.names.lookup x = some .local) (hcell : ∀ x ∈ scope.names, x.2 ≠ .cell) (hq : (scope.isCoroutine = false ∧ scope.isGenerator = false) ∧ scope.kind = .function) (hσ : (xs.zip ds).reverse = σ)
    (h : ∀ c : Fm, FrOK c scope k → WS W c σ body (EndP r)) : CallOK W (k + 1) (.ref f) ds r :=
  callOK_def xs ho hcd hlen hb hxs hcell hq.1.1 hq.1.2 hq.2 (hσ ▸ h)
/-- the letters τ hold in σ -/
def Cov (τ σ : Sg) : Prop := ∀ x d, τ.lookup x = some d → σ.lookup x = some d
theorem cov_nil : Cov [] σ := fun _ _ h => by simp at h
theorem cov_cons {x : Str} {d : D} {τ : Sg} (h : σ.lookup x = some d) (t : Cov τ σ) : Cov ((x, d) :: τ) σ := fun y e q => by
  rcases lookup_cons_eq q with ⟨rfl, rfl⟩ | ⟨_, q⟩
  · exact h
  · exact t y e q
theorem cov_push {x : Str} {d : D} {τ : Sg} (t : Cov τ σ) : Cov ((x, d) :: τ) ((x, d) :: σ) := fun y e q => by
  rcases lookup_cons_eq q with ⟨rfl, rfl⟩ | ⟨n, q⟩
  · exact lk_hd
  · exact lk_tl (beq_eq_false_iff_ne.mpr n) (t y e q)
/-- while over states -/
theorem W1.loop {α : Type} {t : Expr} {body : List Stmt} {pos : Pos} {P : Out → Prop} (L : α → Sg) (I : α → Prop) (b : α → Bool) (μ : α → Nat)
    (ht : ∀ a, I a → EvT W c (L a) t (b a)) (hb : ∀ a, I a → b a = true → WS W c (L a) body (fun o => match o with | .next τ => ∃ a', I a' ∧ μ a' < μ a ∧ Cov (L a') τ | _ => False))
    (he : ∀ a, I a → b a = false → P (.next (L a))) (a : α) (h0 : I a) (hc : Cov (L a) σ) : W1 W c σ (.While t body [] pos) P := by
  intro s Q E i p
  refine wpAny_While ?_
  refine codeAny_whileLoop (fun n s' => ∃ h' tk a, s' = { s with heap := h', toks := tk } ∧ I a ∧ n = μ a ∧ Inv W c (L a) h' ∧ Sp c s.heap h') ?_ (μ a) ⟨s.heap, s.toks, a, rfl, h0, rfl, i.sub hc, Sp.refl _ _⟩
  rintro n s' ⟨h', tk, a, rfl, hI, rfl, iv, sp⟩
  refine ht a hI { s with heap := h', toks := tk } _ _ iv fun h₁ t₁ g₁ => ?_
  cases hbb : b a with
  | false =>
    refine wpAny_execs_nil ?_
    exact p.next _ h₁ t₁ (he a hI hbb) (sp.trans (.of_gr g₁)) (iv.gr g₁)
  | true =>
    refine hb a hI hbb { s with heap := h₁, toks := t₁ } _ _ (iv.gr g₁) ⟨fun τ' h'' tk' x y z => ?_, fun _ _ _ _ x => x.elim, fun _ _ _ x => x.elim, fun _ _ _ x => x.elim, fun _ _ _ _ _ x => x.elim, fun _ _ _ x => x.elim⟩
    obtain ⟨a', hI', hm, hcv⟩ := x
    exact ⟨μ a', hm, h'', tk', a', rfl, hI', rfl, z.sub hcv, (sp.trans (.of_gr g₁)).trans y⟩
/-- for x in range(n) over states -/
theorem W1.turns {α : Type} {x : Str} {px np rp pos : Pos} {e : Expr} {body : List Stmt} {n : Int} {P : Out → Prop} (he : EvE W c σ e (.ok (.int n))) (hs : notStar e = true) (hg : nsIn W.K mainGlobals (Str.ofString "range") = some none) (hr : c.env.kindOf (Str.ofString "range") = some .globalImplicit)
    (hx : Stores c x) (hn : n.natAbs < 2 ^ 61) (L : α → Sg) (f : Nat → α) (h0 : Cov (L (f 0)) σ)
    (hb : ∀ j : Nat, j < n.toNat → WS W c ((x, .int j) :: L (f j)) body (fun o => match o with | .next τ' => Cov (L (f (j + 1))) τ' | _ => False)) (hend : ∀ τ, Cov (L (f n.toNat)) τ → P (.next τ)) :
    W1 W c σ (.For (.Name x px) (.Call (.Name (Str.ofString "range") np) [e] [] rp) body [] pos) P :=
  W1.forRange he hs hg hr hx hn (fun j τ => Cov (L (f j)) τ) h0 (fun j τ hj hJ => ((hb j hj).mono fun o q => by
    cases o with
    | next τ' => exact q
    | ret d => exact q.elim
    | brk _ => exact q
    | cont _ => exact q
    | raise _ => exact q
    | fresh => exact q).sub (cov_push hJ)) hend
/-- the letters σ are forgotten down to τ -/
theorem WS.keep {ss : List Stmt} {τ : Sg} {P : Out → Prop} (hc : Cov τ σ) (h : WS W c τ ss P) : WS W c σ ss P := h.sub hc
theorem WS.thenSub {st : Stmt} {rest : List Stmt} {τ : Sg} {P : Out → Prop} (h : W1 W c σ st (Seq (Cov τ) P)) (k : WS W c τ rest P) : WS W c σ (st :: rest) P :=
  WS.cons h fun _ q => k.sub q
theorem CallOK.to {k : Nat} {f : Value} {ds : List D} {r r' : R} (h : CallOK W k f ds r) (q : r = r') : CallOK W k f ds r' := q ▸ h
theorem call_absN {i : Int} : CallOK W 0 (.builtin "abs") [.int i] (.ok (.int i.natAbs)) := call_abs.to (by congr 2; split <;> omega)
theorem call_maxI {i j : Int} : CallOK W 0 (.builtin "max") [.int i, .int j] (.ok (.int (max i j))) := call_max.to (by congr 2; rw [Int.max_def]; split <;> split <;> omega)
theorem call_minI {i j : Int} : CallOK W 0 (.builtin "min") [.int i, .int j] (.ok (.int (min i j))) := call_min.to (by congr 2; rw [Int.min_def]; split <;> split <;> omega)
theorem call_min4I {a b d e : Int} : CallOK W 0 (.builtin "min") [.int a, .int b, .int d, .int e] (.ok (.int (min (min (min a b) d) e))) := call_min4.to (by congr 2; unfold min4; simp only [Int.min_def]; split <;> split <;> split <;> (repeat' split) <;> omega)
theorem call_divmodP {a b : Int} (hb : 0 < b) (hp : b.natAbs < 2 ^ 9000) : CallOK W 0 (.builtin "divmod") [.int a, .int b] (.ok (.tup [.int (a / b), .int (a % b)])) :=
  (call_divmod (by omega) hp).to (by rw [Int.fdiv_eq_ediv_of_nonneg _ (by omega), Int.fmod_eq_emod_of_nonneg _ (by omega)])
theorem EvE.divP {l r : Expr} {pos : Pos} {a b : Int} (hl : EvE W c σ l (.ok (.int a))) (hr : EvE W c σ r (.ok (.int b))) (hb : 0 < b) (hp : b.natAbs < 2 ^ 9000) : EvE W c σ (.BinOp l .FloorDiv r pos) (.ok (.int (a / b))) :=
  (EvE.fdiv hl hr (by omega) hp).to (by rw [Int.fdiv_eq_ediv_of_nonneg _ (by omega)])
theorem EvE.modP {l r : Expr} {pos : Pos} {a b : Int} (hl : EvE W c σ l (.ok (.int a))) (hr : EvE W c σ r (.ok (.int b))) (hb : 0 < b) : EvE W c σ (.BinOp l .Mod r pos) (.ok (.int (a % b))) :=
  (EvE.mod hl hr (by omega)).to (by rw [Int.fmod_eq_emod_of_nonneg _ (by omega)])
theorem W1.augDivP {x : Str} {p1 pos : Pos} {e : Expr} {a b : Int} {P : Out → Prop} (hx : σ.lookup x = some (.int a)) (h : EvE W c σ e (.ok (.int b))) (hs : Stores c x) (hb : 0 < b) (hp : b.natAbs < 2 ^ 9000) (k : P (.next ((x, .int (a / b)) :: σ))) :
    W1 W c σ (.AugAssign (.Name x p1) .FloorDiv e pos) P := W1.augDiv hx h hs (by omega) hp (by rw [Int.fdiv_eq_ediv_of_nonneg _ (by omega)]; exact k)
theorem W1.iteT {t : Expr} {body orelse : List Stmt} {pos : Pos} {b : Bool} {P : Out → Prop} (ht : EvT W c σ t b) (q : b = true) (h : WS W c σ body P) : W1 W c σ (.If t body orelse pos) P := W1.ite (ht.to q) (fun _ => h) (fun z => by cases z)
theorem W1.iteF {t : Expr} {body orelse : List Stmt} {pos : Pos} {b : Bool} {P : Out → Prop} (ht : EvT W c σ t b) (q : b = false) (h : WS W c σ orelse P) : W1 W c σ (.If t body orelse pos) P := W1.ite (ht.to q) (fun z => by cases z) (fun _ => h)
/-- an if that is passed by, or that ends the block -/
theorem WS.skip {t : Expr} {body : List Stmt} {pos : Pos} {rest : List Stmt} {b : Bool} {P : Out → Prop} (ht : EvT W c σ t b) (q : b = false) (k : WS W c σ rest P) : WS W c σ (.If t body [] pos :: rest) P := WS.one (W1.iteF ht q (WS.nil rfl)) k
theorem WS.into {t : Expr} {body orelse : List Stmt} {pos : Pos} {rest : List Stmt} {b : Bool} {P : Out → Prop} (ht : EvT W c σ t b) (q : b = true) (h : WS W c σ body (Seq (fun _ => False) P)) : WS W c σ (.If t body orelse pos :: rest) P := WS.end1 (W1.iteT ht q h)
/-- an if whose body goes on -/
theorem WS.thru {t : Expr} {body orelse : List Stmt} {pos : Pos} {rest : List Stmt} {b : Bool} {P : Out → Prop} (τ : Sg) (ht : EvT W c σ t b) (q : b = true) (h : WS W c σ body (Seq (Cov τ) P)) (k : WS W c τ rest P) : WS W c σ (.If t body orelse pos :: rest) P := WS.thenSub (W1.iteT ht q h) k
theorem WS.thruE {t : Expr} {body orelse : List Stmt} {pos : Pos} {rest : List Stmt} {b : Bool} {P : Out → Prop} (τ : Sg) (ht : EvT W c σ t b) (q : b = false) (h : WS W c σ orelse (Seq (Cov τ) P)) (k : WS W c τ rest P) : WS W c σ (.If t body orelse pos :: rest) P := WS.thenSub (W1.iteF ht q h) k
theorem WS.done {e : Expr} {pos : Pos} {rest : List Stmt} {r : R} {d : D} (h : EvE W c σ e (.ok d)) (q : r = .ok d) : WS W c σ (.Return (some e) pos :: rest) (EndP r) := WS.end1 (W1.done h q)
theorem WS.doneS {e : Expr} {pos : Pos} {rest : List Stmt} {r : R} {F : Sg → Prop} {d : D} (h : EvE W c σ e (.ok d)) (q : r = .ok d) : WS W c σ (.Return (some e) pos :: rest) (Seq F (EndP r)) := WS.end1 (W1.done h q)
/-- return of a call that may raise -/
theorem WS.give {e : Expr} {pos : Pos} {rest : List Stmt} {r : R} (h : EvE W c σ e r) : WS W c σ (.Return (some e) pos :: rest) (EndP r) := WS.end1 (W1.ret h (by cases r <;> rfl))
theorem EvE.ifD {t b o : Expr} {pos : Pos} {p : Prop} {_ : Decidable p} {m n : Int} (ht : EvT W c σ t (decide p)) (hb : p → EvE W c σ b (.ok (.int m))) (ho : ¬ p → EvE W c σ o (.ok (.int n))) : EvE W c σ (.IfExp t b o pos) (.ok (.int (if p then m else n))) :=
  (EvE.ifexpInt ht (fun h => hb (of_decide_eq_true h)) (fun h => ho (of_decide_eq_false h))).to (by simp only [decide_eq_true_eq])
theorem beqD (a b : Int) : (a == b) = decide (a = b) := by rw [Bool.eq_iff_iff, beq_iff_eq, decide_eq_true_eq]
theorem marks_eq (r : Expr) : behindInMarks .Eq r = false := by cases r <;> first | rfl | (show (_ && (false || false) && _) = false; simp)
theorem marks_ne (r : Expr) : behindInMarks .NotEq r = false := by cases r <;> first | rfl | (show (_ && (false || false) && _) = false; simp)
theorem EvT.intD {x : Str} {pos : Pos} {a : Int} (h : EvE W c σ (.Name x pos) (.ok (.int a))) : EvT W c σ (.Name x pos) (decide (a ≠ 0)) := (EvT.int h).to (by rw [bne, beqD, decide_not])
theorem EvT.eqD {l r : Expr} {pos : Pos} {a b : Int} (hl : EvE W c σ l (.ok (.int a))) (hr : EvE W c σ r (.ok (.int b))) : EvT W c σ (.Compare l [.Eq] [r] pos) (decide (a = b)) := (EvT.cmp hl hr CmpOK.eq (marks_eq r)).to (beqD a b)
theorem EvT.neD {l r : Expr} {pos : Pos} {a b : Int} (hl : EvE W c σ l (.ok (.int a))) (hr : EvE W c σ r (.ok (.int b))) : EvT W c σ (.Compare l [.NotEq] [r] pos) (decide (a ≠ b)) := (EvT.cmp hl hr CmpOK.ne (marks_ne r)).to (by rw [bne, beqD, decide_not])
theorem EvT.andD {x y : Expr} {pos : Pos} {p q : Prop} {_ : Decidable p} {_ : Decidable q} (hx : EvT W c σ x (decide p)) (hy : p → EvT W c σ y (decide q)) : EvT W c σ (.BoolOp .And [x, y] pos) (decide (p ∧ q)) := (EvT.and2 hx fun h => hy (of_decide_eq_true h)).to (by rw [Bool.decide_and])
theorem EvT.orD {x y : Expr} {pos : Pos} {p q : Prop} {_ : Decidable p} {_ : Decidable q} (hx : EvT W c σ x (decide p)) (hy : ¬ p → EvT W c σ y (decide q)) : EvT W c σ (.BoolOp .Or [x, y] pos) (decide (p ∨ q)) := (EvT.or2 hx fun h => hy (of_decide_eq_false h)).to (by rw [Bool.decide_or])
def oR {α : Type} (f : α → D) : Option α → R
  | some x => .ok (f x)
  | none => .raise
theorem EvE.t0 {v : Expr} {kc : Nat} {pc pos : Pos} {d : D} {ds : List D} (hv : EvE W c σ v (.ok (.tup (d :: ds)))) : EvE W c σ (.Subscript v (.Constant (.int 0) kc pc) pos) (.ok d) := EvE.itemT hv EvE.int rfl (by decide) (by decide) rfl
theorem EvE.t1 {v : Expr} {kc : Nat} {pc pos : Pos} {d e : D} {ds : List D} (hv : EvE W c σ v (.ok (.tup (e :: d :: ds)))) : EvE W c σ (.Subscript v (.Constant (.int 1) kc pc) pos) (.ok d) := EvE.itemT hv EvE.int rfl (by decide) (by decide) rfl
theorem EvE.l0 {v : Expr} {kc : Nat} {pc pos : Pos} {d : D} {ds : List D} (hv : EvE W c σ v (.ok (.lst (d :: ds)))) : EvE W c σ (.Subscript v (.Constant (.int 0) kc pc) pos) (.ok d) := EvE.itemL hv EvE.int rfl (by decide) (by decide) rfl
theorem EvE.l1 {v : Expr} {kc : Nat} {pc pos : Pos} {d e : D} {ds : List D} (hv : EvE W c σ v (.ok (.lst (e :: d :: ds)))) : EvE W c σ (.Subscript v (.Constant (.int 1) kc pc) pos) (.ok d) := EvE.itemL hv EvE.int rfl (by decide) (by decide) rfl
theorem EvE.ifT {t b o : Expr} {pos : Pos} {x : Bool} {r : R} (ht : EvT W c σ t x) (q : x = true) (hb : EvE W c σ b r) : EvE W c σ (.IfExp t b o pos) r :=
  (EvE.ifexp (r' := r) (ht.to q) (fun _ => hb) (fun h => by cases h)).to (if_pos rfl)
theorem EvE.ifF {t b o : Expr} {pos : Pos} {x : Bool} {r : R} (ht : EvT W c σ t x) (q : x = false) (ho : EvE W c σ o r) : EvE W c σ (.IfExp t b o pos) r :=
  (EvE.ifexp (r := r) (ht.to q) (fun h => by cases h) (fun _ => ho)).to (if_neg (by decide))
end
end Mine
end
section
set_option maxRecDepth 100000
set_option maxHeartbeats 2000000
namespace Mine
open PySem PySem.W PySem.Spec PySem.Calls PyProof.Rows
/-- a statement of the row's text, and what a def there holds -/
noncomputable def topS (i : Nat) : Option Stmt := PySem.Challenge.rw_pf0118_01.prog.main.body[i]?
noncomputable def inS (i j : Nat) : Option Stmt := match topS i with
  | some (.ClassDef _ _ _ b ..) => b[j]?
  | _ => none
noncomputable def fnP : Option Stmt → Arguments
  | some (.FunctionDef _ a ..) => a
  | _ => { posonlyargs := [], args := [], vararg := none, kwonlyargs := [], kw_defaults := [], kwarg := none, defaults := [] }
noncomputable def fnB : Option Stmt → List Stmt
  | some (.FunctionDef _ _ b ..) => b
  | _ => []
noncomputable def fnS : Option Stmt → Scope
  | some (.FunctionDef _ _ _ _ _ _ s ..) => s
  | _ => { kind := ScopeKind.function, names := [], isGenerator := false, isCoroutine := false }
/-- what the text's own statements leave in the heap -/
noncomputable def H : Params → Frag := fun P =>
  (nat_lit 2, { cls := Value.none, data := Data.dict #[{ hash := PyData.keyHash P (Str.ofString "type.__subclasses__.Exception.0"), key := Value.str (Str.ofString "type.__subclasses__.Exception.0") 214, val := Value.int 31 0 }, { hash := PyData.keyHash P (Str.ofString "type.__subclasses__.Exception.n"), key := Value.str (Str.ofString "type.__subclasses__.Exception.n") 215, val := Value.int 1 0 }] 2 }) ::
  (nat_lit 3, { cls := Value.type "dict", data := Data.dict #[{ hash := PyData.keyHash P (Str.ofString "__name__"), key := Value.str (Str.ofString "__name__") 165, val := Value.str (Str.ofString "law_pf0118_01") 498 }, { hash := PyData.keyHash P (Str.ofString "__doc__"), key := Value.str (Str.ofString "__doc__") 166, val := Value.none }, { hash := PyData.keyHash P (Str.ofString "__package__"), key := Value.str (Str.ofString "__package__") 167, val := Value.none }, { hash := PyData.keyHash P (Str.ofString "__loader__"), key := Value.str (Str.ofString "__loader__") 168, val := Value.builtin "__main__.__loader__#opaque" }, { hash := PyData.keyHash P (Str.ofString "__spec__"), key := Value.str (Str.ofString "__spec__") 169, val := Value.none }, { hash := PyData.keyHash P (Str.ofString "__annotations__"), key := Value.str (Str.ofString "__annotations__") 170, val := Value.ref 6 }, { hash := PyData.keyHash P (Str.ofString "__builtins__"), key := Value.str (Str.ofString "__builtins__") 171, val := Value.ref 4 }, { hash := PyData.keyHash P (Str.ofString "__file__"), key := Value.str (Str.ofString "__file__") 173, val := Value.str (Str.ofString "/claim/cut.py") 172 }, { hash := PyData.keyHash P (Str.ofString "__cached__"), key := Value.str (Str.ofString "__cached__") 174, val := Value.none }, { hash := PyData.keyHash P (Str.ofString "F77Error"), key := Value.str (Str.ofString "F77Error") 217, val := Value.ref 31 }, { hash := PyData.keyHash P (Str.ofString "RunFault"), key := Value.str (Str.ofString "RunFault") 233, val := Value.ref 44 }, { hash := PyData.keyHash P (Str.ofString "NOUGHT"), key := Value.str (Str.ofString "NOUGHT") 238, val := Value.ref 47 }, { hash := PyData.keyHash P (Str.ofString "GUARD"), key := Value.str (Str.ofString "GUARD") 240, val := Value.int 8 239 }, { hash := PyData.keyHash P (Str.ofString "count_digits"), key := Value.str (Str.ofString "count_digits") 248, val := Value.ref 54 }, { hash := PyData.keyHash P (Str.ofString "strip_zeros"), key := Value.str (Str.ofString "strip_zeros") 256, val := Value.ref 61 }, { hash := PyData.keyHash P (Str.ofString "round_digits"), key := Value.str (Str.ofString "round_digits") 269, val := Value.ref 68 }, { hash := PyData.keyHash P (Str.ofString "round_real"), key := Value.str (Str.ofString "round_real") 280, val := Value.ref 75 }, { hash := PyData.keyHash P (Str.ofString "exact_add"), key := Value.str (Str.ofString "exact_add") 289, val := Value.ref 82 }, { hash := PyData.keyHash P (Str.ofString "exact_mul"), key := Value.str (Str.ofString "exact_mul") 297, val := Value.ref 89 }, { hash := PyData.keyHash P (Str.ofString "real_neg"), key := Value.str (Str.ofString "real_neg") 304, val := Value.ref 96 }, { hash := PyData.keyHash P (Str.ofString "quotient"), key := Value.str (Str.ofString "quotient") 318, val := Value.ref 103 }, { hash := PyData.keyHash P (Str.ofString "ONE"), key := Value.str (Str.ofString "ONE") 325, val := Value.ref 106 }, { hash := PyData.keyHash P (Str.ofString "EXACT_COMPLEX_POWER"), key := Value.str (Str.ofString "EXACT_COMPLEX_POWER") 327, val := Value.int 16 326 }, { hash := PyData.keyHash P (Str.ofString "round_parts"), key := Value.str (Str.ofString "round_parts") 336, val := Value.ref 113 }, { hash := PyData.keyHash P (Str.ofString "complex_add"), key := Value.str (Str.ofString "complex_add") 346, val := Value.ref 120 }, { hash := PyData.keyHash P (Str.ofString "complex_neg"), key := Value.str (Str.ofString "complex_neg") 353, val := Value.ref 127 }, { hash := PyData.keyHash P (Str.ofString "complex_sub"), key := Value.str (Str.ofString "complex_sub") 363, val := Value.ref 134 }, { hash := PyData.keyHash P (Str.ofString "exact_product"), key := Value.str (Str.ofString "exact_product") 372, val := Value.ref 141 }, { hash := PyData.keyHash P (Str.ofString "complex_mul"), key := Value.str (Str.ofString "complex_mul") 382, val := Value.ref 148 }, { hash := PyData.keyHash P (Str.ofString "complex_div"), key := Value.str (Str.ofString "complex_div") 396, val := Value.ref 155 }, { hash := PyData.keyHash P (Str.ofString "guarded_product"), key := Value.str (Str.ofString "guarded_product") 407, val := Value.ref 162 }, { hash := PyData.keyHash P (Str.ofString "complex_raised"), key := Value.str (Str.ofString "complex_raised") 418, val := Value.ref 169 }, { hash := PyData.keyHash P (Str.ofString "complex_power"), key := Value.str (Str.ofString "complex_power") 429, val := Value.ref 176 }, { hash := PyData.keyHash P (Str.ofString "complex_binary"), key := Value.str (Str.ofString "complex_binary") 442, val := Value.ref 183 }, { hash := PyData.keyHash P (Str.ofString "COMPLEX"), key := Value.str (Str.ofString "COMPLEX") 444, val := Value.int 3 443 }, { hash := PyData.keyHash P (Str.ofString "Limits"), key := Value.str (Str.ofString "Limits") 497, val := Value.ref 201 }, { hash := PyData.keyHash P (Str.ofString "_law_at"), key := Value.str (Str.ofString "_law_at") 507, val := Value.ref 212 }, { hash := PyData.keyHash P (Str.ofString "_law_decimal"), key := Value.str (Str.ofString "_law_decimal") 516, val := Value.ref 219 }, { hash := PyData.keyHash P (Str.ofString "_law_heard"), key := Value.str (Str.ofString "_law_heard") 528, val := Value.ref 226 }, { hash := PyData.keyHash P (Str.ofString "_law_lead"), key := Value.str (Str.ofString "_law_lead") 537, val := Value.ref 233 }, { hash := PyData.keyHash P (Str.ofString "_law_near"), key := Value.str (Str.ofString "_law_near") 552, val := Value.ref 240 }, { hash := PyData.keyHash P (Str.ofString "_law_power"), key := Value.str (Str.ofString "_law_power") 564, val := Value.ref 247 }, { hash := PyData.keyHash P (Str.ofString "_law_part_right"), key := Value.str (Str.ofString "_law_part_right") 576, val := Value.ref 254 }, { hash := PyData.keyHash P (Str.ofString "law"), key := Value.str (Str.ofString "law") 582, val := Value.ref 259 }] 44 }) ::
  (nat_lit 15, { cls := Value.type "tuple", data := Data.seq #[Value.type "Exception"] }) ::
  (nat_lit 22, { cls := Value.type "tuple", data := Data.seq #[] }) ::
  (nat_lit 24, { cls := Value.type "tuple", data := Data.seq #[Value.str (Str.ofString "self") 204, Value.str (Str.ofString "text") 205] }) ::
  (nat_lit 25, { cls := Value.type "tuple", data := Data.seq #[] }) ::
  (nat_lit 27, { cls := Value.type "code", data := Data.fields #[Value.str (Str.ofString "__init__") 201, Value.str (Str.ofString "F77Error.__init__") 202, Value.str (Str.ofString "/claim/cut.py") 203, Value.int 4 0, Value.int 2 0, Value.int 0 0, Value.int 0 0, Value.int 3 0, Value.ref 22, Value.bool true, Value.int 181 0, Value.ref 23, Value.none, Value.ref 24, Value.ref 25, Value.ref 26, Value.int 206 0, Value.int 4 0, Value.str (Str.ofString "/claim/cut.py") 207] }) ::
  (nat_lit 28, ⟨Value.type "function", none, .func ⟨(Str.ofString "__init__"), (Str.ofString "F77Error.__init__"), fnP (inS 1 0), .stmts (fnB (inS 1 0)), fnS (inS 1 0), (3), ([]), (Value.none), (Value.none), (Value.none), (Value.str (Str.ofString "f77.errors") 187), (none), (Value.ref 27), (Value.none), (0)⟩, #[]⟩) ::
  (nat_lit 29, { cls := Value.type "tuple", data := Data.seq #[Value.str (Str.ofString "text") 209] }) ::
  (nat_lit 30, { cls := Value.type "dict", data := Data.dict #[{ hash := PyData.keyHash P (Str.ofString "__module__"), key := Value.str (Str.ofString "__module__") 196, val := Value.str (Str.ofString "f77.errors") 187 }, { hash := PyData.keyHash P (Str.ofString "__firstlineno__"), key := Value.str (Str.ofString "__firstlineno__") 200, val := Value.int 2 199 }, { hash := PyData.keyHash P (Str.ofString "__init__"), key := Value.str (Str.ofString "__init__") 208, val := Value.ref 28 }, { hash := PyData.keyHash P (Str.ofString "__static_attributes__"), key := Value.str (Str.ofString "__static_attributes__") 210, val := Value.ref 29 }, { hash := PyData.keyHash P (Str.ofString "__weakref__"), key := Value.str (Str.ofString "__weakref__") 212, val := Value.ref 32 }, { hash := PyData.keyHash P (Str.ofString "__doc__"), key := Value.str (Str.ofString "__doc__") 213, val := Value.none }] 3 }) ::
  (nat_lit 31, { cls := Value.type "type", data := Data.cls { name := Str.ofString "F77Error", bases := [Value.type "Exception"], mro := [Value.ref 31, Value.type "Exception", Value.type "BaseException", Value.type "object"], ns := 30, qualname := Str.ofString "F77Error", subclasses := [Value.ref 44] }, slots := #[some (Value.ref 15), none, some (Value.str (Str.ofString "F77Error") 189), some (Value.str (Str.ofString "F77Error") 197), some (Value.builtin "Exception.__new__"), some (Value.bool true)] }) ::
  (nat_lit 32, { cls := Value.type "getset_descriptor", data := Data.fields #[Value.str (Str.ofString "__weakref__") 211, Value.ref 31, Value.builtin "ExceptionGroup.__weakref__", Value.none] }) ::
  (nat_lit 35, { cls := Value.type "tuple", data := Data.seq #[Value.ref 31] }) ::
  (nat_lit 42, { cls := Value.type "tuple", data := Data.seq #[] }) ::
  (nat_lit 43, { cls := Value.type "dict", data := Data.dict #[{ hash := PyData.keyHash P (Str.ofString "__module__"), key := Value.str (Str.ofString "__module__") 225, val := Value.str (Str.ofString "f77.errors") 187 }, { hash := PyData.keyHash P (Str.ofString "__firstlineno__"), key := Value.str (Str.ofString "__firstlineno__") 229, val := Value.int 7 228 }, { hash := PyData.keyHash P (Str.ofString "__static_attributes__"), key := Value.str (Str.ofString "__static_attributes__") 230, val := Value.ref 42 }, { hash := PyData.keyHash P (Str.ofString "__doc__"), key := Value.str (Str.ofString "__doc__") 231, val := Value.none }] 2 }) ::
  (nat_lit 44, { cls := Value.type "type", data := Data.cls { name := Str.ofString "RunFault", bases := [Value.ref 31], mro := [Value.ref 44, Value.ref 31, Value.type "Exception", Value.type "BaseException", Value.type "object"], ns := 43, qualname := Str.ofString "RunFault" }, slots := #[some (Value.ref 35), none, some (Value.str (Str.ofString "RunFault") 218), some (Value.str (Str.ofString "RunFault") 226), some (Value.builtin "Exception.__new__"), some (Value.bool true)] }) ::
  (nat_lit 47, { cls := Value.type "tuple", data := Data.seq #[Value.int 0 236, Value.int 0 237] }) ::
  (nat_lit 48, { cls := Value.type "tuple", data := Data.seq #[] }) ::
  (nat_lit 50, { cls := Value.type "tuple", data := Data.seq #[Value.str (Str.ofString "n") 244, Value.str (Str.ofString "count") 245] }) ::
  (nat_lit 51, { cls := Value.type "tuple", data := Data.seq #[] }) ::
  (nat_lit 53, { cls := Value.type "code", data := Data.fields #[Value.str (Str.ofString "count_digits") 241, Value.str (Str.ofString "count_digits") 242, Value.str (Str.ofString "/claim/cut.py") 243, Value.int 12 0, Value.int 1 0, Value.int 0 0, Value.int 0 0, Value.int 3 0, Value.ref 48, Value.bool true, Value.int 181 0, Value.ref 49, Value.none, Value.ref 50, Value.ref 51, Value.ref 52, Value.int 246 0, Value.int 12 0, Value.str (Str.ofString "/claim/cut.py") 247] }) ::
  (nat_lit 54, ⟨Value.type "function", none, .func ⟨(Str.ofString "count_digits"), (Str.ofString "count_digits"), fnP (topS 6), .stmts (fnB (topS 6)), fnS (topS 6), (3), ([]), (Value.none), (Value.none), (Value.none), (Value.str (Str.ofString "f77.reals") 234), (none), (Value.ref 53), (Value.none), (0)⟩, #[]⟩) ::
  (nat_lit 55, { cls := Value.type "tuple", data := Data.seq #[] }) ::
  (nat_lit 57, { cls := Value.type "tuple", data := Data.seq #[Value.str (Str.ofString "m") 252, Value.str (Str.ofString "e") 253] }) ::
  (nat_lit 58, { cls := Value.type "tuple", data := Data.seq #[] }) ::
  (nat_lit 60, { cls := Value.type "code", data := Data.fields #[Value.str (Str.ofString "strip_zeros") 249, Value.str (Str.ofString "strip_zeros") 250, Value.str (Str.ofString "/claim/cut.py") 251, Value.int 22 0, Value.int 2 0, Value.int 0 0, Value.int 0 0, Value.int 3 0, Value.ref 55, Value.bool true, Value.int 181 0, Value.ref 56, Value.none, Value.ref 57, Value.ref 58, Value.ref 59, Value.int 254 0, Value.int 22 0, Value.str (Str.ofString "/claim/cut.py") 255] }) ::
  (nat_lit 61, ⟨Value.type "function", none, .func ⟨(Str.ofString "strip_zeros"), (Str.ofString "strip_zeros"), fnP (topS 7), .stmts (fnB (topS 7)), fnS (topS 7), (3), ([]), (Value.none), (Value.none), (Value.none), (Value.str (Str.ofString "f77.reals") 234), (none), (Value.ref 60), (Value.none), (0)⟩, #[]⟩) ::
  (nat_lit 62, { cls := Value.type "tuple", data := Data.seq #[] }) ::
  (nat_lit 64, { cls := Value.type "tuple", data := Data.seq #[Value.str (Str.ofString "m") 260, Value.str (Str.ofString "e") 261, Value.str (Str.ofString "digits") 262, Value.str (Str.ofString "drop") 263, Value.str (Str.ofString "power") 264, Value.str (Str.ofString "kept") 265, Value.str (Str.ofString "rest") 266] }) ::
  (nat_lit 65, { cls := Value.type "tuple", data := Data.seq #[] }) ::
  (nat_lit 67, { cls := Value.type "code", data := Data.fields #[Value.str (Str.ofString "round_digits") 257, Value.str (Str.ofString "round_digits") 258, Value.str (Str.ofString "/claim/cut.py") 259, Value.int 29 0, Value.int 3 0, Value.int 0 0, Value.int 0 0, Value.int 3 0, Value.ref 62, Value.bool true, Value.int 181 0, Value.ref 63, Value.none, Value.ref 64, Value.ref 65, Value.ref 66, Value.int 267 0, Value.int 29 0, Value.str (Str.ofString "/claim/cut.py") 268] }) ::
  (nat_lit 68, ⟨Value.type "function", none, .func ⟨(Str.ofString "round_digits"), (Str.ofString "round_digits"), fnP (topS 8), .stmts (fnB (topS 8)), fnS (topS 8), (3), ([]), (Value.none), (Value.none), (Value.none), (Value.str (Str.ofString "f77.reals") 234), (none), (Value.ref 67), (Value.none), (0)⟩, #[]⟩) ::
  (nat_lit 69, { cls := Value.type "tuple", data := Data.seq #[] }) ::
  (nat_lit 71, { cls := Value.type "tuple", data := Data.seq #[Value.str (Str.ofString "m") 273, Value.str (Str.ofString "e") 274, Value.str (Str.ofString "digits") 275, Value.str (Str.ofString "top") 276, Value.str (Str.ofString "lead") 277] }) ::
  (nat_lit 72, { cls := Value.type "tuple", data := Data.seq #[] }) ::
  (nat_lit 74, { cls := Value.type "code", data := Data.fields #[Value.str (Str.ofString "round_real") 270, Value.str (Str.ofString "round_real") 271, Value.str (Str.ofString "/claim/cut.py") 272, Value.int 39 0, Value.int 4 0, Value.int 0 0, Value.int 0 0, Value.int 3 0, Value.ref 69, Value.bool true, Value.int 181 0, Value.ref 70, Value.none, Value.ref 71, Value.ref 72, Value.ref 73, Value.int 278 0, Value.int 39 0, Value.str (Str.ofString "/claim/cut.py") 279] }) ::
  (nat_lit 75, ⟨Value.type "function", none, .func ⟨(Str.ofString "round_real"), (Str.ofString "round_real"), fnP (topS 9), .stmts (fnB (topS 9)), fnS (topS 9), (3), ([]), (Value.none), (Value.none), (Value.none), (Value.str (Str.ofString "f77.reals") 234), (none), (Value.ref 74), (Value.none), (0)⟩, #[]⟩) ::
  (nat_lit 76, { cls := Value.type "tuple", data := Data.seq #[] }) ::
  (nat_lit 78, { cls := Value.type "tuple", data := Data.seq #[Value.str (Str.ofString "x") 284, Value.str (Str.ofString "y") 285, Value.str (Str.ofString "low") 286] }) ::
  (nat_lit 79, { cls := Value.type "tuple", data := Data.seq #[] }) ::
  (nat_lit 81, { cls := Value.type "code", data := Data.fields #[Value.str (Str.ofString "exact_add") 281, Value.str (Str.ofString "exact_add") 282, Value.str (Str.ofString "/claim/cut.py") 283, Value.int 47 0, Value.int 2 0, Value.int 0 0, Value.int 0 0, Value.int 3 0, Value.ref 76, Value.bool true, Value.int 181 0, Value.ref 77, Value.none, Value.ref 78, Value.ref 79, Value.ref 80, Value.int 287 0, Value.int 47 0, Value.str (Str.ofString "/claim/cut.py") 288] }) ::
  (nat_lit 82, ⟨Value.type "function", none, .func ⟨(Str.ofString "exact_add"), (Str.ofString "exact_add"), fnP (topS 10), .stmts (fnB (topS 10)), fnS (topS 10), (3), ([]), (Value.none), (Value.none), (Value.none), (Value.str (Str.ofString "f77.reals") 234), (none), (Value.ref 81), (Value.none), (0)⟩, #[]⟩) ::
  (nat_lit 83, { cls := Value.type "tuple", data := Data.seq #[] }) ::
  (nat_lit 85, { cls := Value.type "tuple", data := Data.seq #[Value.str (Str.ofString "x") 293, Value.str (Str.ofString "y") 294] }) ::
  (nat_lit 86, { cls := Value.type "tuple", data := Data.seq #[] }) ::
  (nat_lit 88, { cls := Value.type "code", data := Data.fields #[Value.str (Str.ofString "exact_mul") 290, Value.str (Str.ofString "exact_mul") 291, Value.str (Str.ofString "/claim/cut.py") 292, Value.int 54 0, Value.int 2 0, Value.int 0 0, Value.int 0 0, Value.int 3 0, Value.ref 83, Value.bool true, Value.int 181 0, Value.ref 84, Value.none, Value.ref 85, Value.ref 86, Value.ref 87, Value.int 295 0, Value.int 54 0, Value.str (Str.ofString "/claim/cut.py") 296] }) ::
  (nat_lit 89, ⟨Value.type "function", none, .func ⟨(Str.ofString "exact_mul"), (Str.ofString "exact_mul"), fnP (topS 11), .stmts (fnB (topS 11)), fnS (topS 11), (3), ([]), (Value.none), (Value.none), (Value.none), (Value.str (Str.ofString "f77.reals") 234), (none), (Value.ref 88), (Value.none), (0)⟩, #[]⟩) ::
  (nat_lit 90, { cls := Value.type "tuple", data := Data.seq #[] }) ::
  (nat_lit 92, { cls := Value.type "tuple", data := Data.seq #[Value.str (Str.ofString "x") 301] }) ::
  (nat_lit 93, { cls := Value.type "tuple", data := Data.seq #[] }) ::
  (nat_lit 95, { cls := Value.type "code", data := Data.fields #[Value.str (Str.ofString "real_neg") 298, Value.str (Str.ofString "real_neg") 299, Value.str (Str.ofString "/claim/cut.py") 300, Value.int 56 0, Value.int 1 0, Value.int 0 0, Value.int 0 0, Value.int 3 0, Value.ref 90, Value.bool true, Value.int 181 0, Value.ref 91, Value.none, Value.ref 92, Value.ref 93, Value.ref 94, Value.int 302 0, Value.int 56 0, Value.str (Str.ofString "/claim/cut.py") 303] }) ::
  (nat_lit 96, ⟨Value.type "function", none, .func ⟨(Str.ofString "real_neg"), (Str.ofString "real_neg"), fnP (topS 12), .stmts (fnB (topS 12)), fnS (topS 12), (3), ([]), (Value.none), (Value.none), (Value.none), (Value.str (Str.ofString "f77.reals") 234), (none), (Value.ref 95), (Value.none), (0)⟩, #[]⟩) ::
  (nat_lit 97, { cls := Value.type "tuple", data := Data.seq #[] }) ::
  (nat_lit 99, { cls := Value.type "tuple", data := Data.seq #[Value.str (Str.ofString "over") 308, Value.str (Str.ofString "under") 309, Value.str (Str.ofString "e") 310, Value.str (Str.ofString "digits") 311, Value.str (Str.ofString "shift") 312, Value.str (Str.ofString "kept") 313, Value.str (Str.ofString "rest") 314, Value.str (Str.ofString "m") 315] }) ::
  (nat_lit 100, { cls := Value.type "tuple", data := Data.seq #[] }) ::
  (nat_lit 102, { cls := Value.type "code", data := Data.fields #[Value.str (Str.ofString "quotient") 305, Value.str (Str.ofString "quotient") 306, Value.str (Str.ofString "/claim/cut.py") 307, Value.int 58 0, Value.int 4 0, Value.int 0 0, Value.int 0 0, Value.int 3 0, Value.ref 97, Value.bool true, Value.int 181 0, Value.ref 98, Value.none, Value.ref 99, Value.ref 100, Value.ref 101, Value.int 316 0, Value.int 58 0, Value.str (Str.ofString "/claim/cut.py") 317] }) ::
  (nat_lit 103, ⟨Value.type "function", none, .func ⟨(Str.ofString "quotient"), (Str.ofString "quotient"), fnP (topS 13), .stmts (fnB (topS 13)), fnS (topS 13), (3), ([]), (Value.none), (Value.none), (Value.none), (Value.str (Str.ofString "f77.reals") 234), (none), (Value.ref 102), (Value.none), (0)⟩, #[]⟩) ::
  (nat_lit 104, { cls := Value.type "tuple", data := Data.seq #[Value.int 1 321, Value.int 0 322] }) ::
  (nat_lit 105, { cls := Value.type "tuple", data := Data.seq #[Value.int 0 323, Value.int 0 324] }) ::
  (nat_lit 106, { cls := Value.type "tuple", data := Data.seq #[Value.ref 104, Value.ref 105] }) ::
  (nat_lit 107, { cls := Value.type "tuple", data := Data.seq #[] }) ::
  (nat_lit 109, { cls := Value.type "tuple", data := Data.seq #[Value.str (Str.ofString "x") 331, Value.str (Str.ofString "digits") 332, Value.str (Str.ofString "top") 333] }) ::
  (nat_lit 110, { cls := Value.type "tuple", data := Data.seq #[] }) ::
  (nat_lit 112, { cls := Value.type "code", data := Data.fields #[Value.str (Str.ofString "round_parts") 328, Value.str (Str.ofString "round_parts") 329, Value.str (Str.ofString "/claim/cut.py") 330, Value.int 68 0, Value.int 3 0, Value.int 0 0, Value.int 0 0, Value.int 3 0, Value.ref 107, Value.bool true, Value.int 181 0, Value.ref 108, Value.none, Value.ref 109, Value.ref 110, Value.ref 111, Value.int 334 0, Value.int 68 0, Value.str (Str.ofString "/claim/cut.py") 335] }) ::
  (nat_lit 113, ⟨Value.type "function", none, .func ⟨(Str.ofString "round_parts"), (Str.ofString "round_parts"), fnP (topS 17), .stmts (fnB (topS 17)), fnS (topS 17), (3), ([]), (Value.none), (Value.none), (Value.none), (Value.str (Str.ofString "f77.complexes") 319), (none), (Value.ref 112), (Value.none), (0)⟩, #[]⟩) ::
  (nat_lit 114, { cls := Value.type "tuple", data := Data.seq #[] }) ::
  (nat_lit 116, { cls := Value.type "tuple", data := Data.seq #[Value.str (Str.ofString "x") 340, Value.str (Str.ofString "y") 341, Value.str (Str.ofString "digits") 342, Value.str (Str.ofString "top") 343] }) ::
  (nat_lit 117, { cls := Value.type "tuple", data := Data.seq #[] }) ::
  (nat_lit 119, { cls := Value.type "code", data := Data.fields #[Value.str (Str.ofString "complex_add") 337, Value.str (Str.ofString "complex_add") 338, Value.str (Str.ofString "/claim/cut.py") 339, Value.int 70 0, Value.int 4 0, Value.int 0 0, Value.int 0 0, Value.int 3 0, Value.ref 114, Value.bool true, Value.int 181 0, Value.ref 115, Value.none, Value.ref 116, Value.ref 117, Value.ref 118, Value.int 344 0, Value.int 70 0, Value.str (Str.ofString "/claim/cut.py") 345] }) ::
  (nat_lit 120, ⟨Value.type "function", none, .func ⟨(Str.ofString "complex_add"), (Str.ofString "complex_add"), fnP (topS 18), .stmts (fnB (topS 18)), fnS (topS 18), (3), ([]), (Value.none), (Value.none), (Value.none), (Value.str (Str.ofString "f77.complexes") 319), (none), (Value.ref 119), (Value.none), (0)⟩, #[]⟩) ::
  (nat_lit 121, { cls := Value.type "tuple", data := Data.seq #[] }) ::
  (nat_lit 123, { cls := Value.type "tuple", data := Data.seq #[Value.str (Str.ofString "x") 350] }) ::
  (nat_lit 124, { cls := Value.type "tuple", data := Data.seq #[] }) ::
  (nat_lit 126, { cls := Value.type "code", data := Data.fields #[Value.str (Str.ofString "complex_neg") 347, Value.str (Str.ofString "complex_neg") 348, Value.str (Str.ofString "/claim/cut.py") 349, Value.int 72 0, Value.int 1 0, Value.int 0 0, Value.int 0 0, Value.int 3 0, Value.ref 121, Value.bool true, Value.int 181 0, Value.ref 122, Value.none, Value.ref 123, Value.ref 124, Value.ref 125, Value.int 351 0, Value.int 72 0, Value.str (Str.ofString "/claim/cut.py") 352] }) ::
  (nat_lit 127, ⟨Value.type "function", none, .func ⟨(Str.ofString "complex_neg"), (Str.ofString "complex_neg"), fnP (topS 19), .stmts (fnB (topS 19)), fnS (topS 19), (3), ([]), (Value.none), (Value.none), (Value.none), (Value.str (Str.ofString "f77.complexes") 319), (none), (Value.ref 126), (Value.none), (0)⟩, #[]⟩) ::
  (nat_lit 128, { cls := Value.type "tuple", data := Data.seq #[] }) ::
  (nat_lit 130, { cls := Value.type "tuple", data := Data.seq #[Value.str (Str.ofString "x") 357, Value.str (Str.ofString "y") 358, Value.str (Str.ofString "digits") 359, Value.str (Str.ofString "top") 360] }) ::
  (nat_lit 131, { cls := Value.type "tuple", data := Data.seq #[] }) ::
  (nat_lit 133, { cls := Value.type "code", data := Data.fields #[Value.str (Str.ofString "complex_sub") 354, Value.str (Str.ofString "complex_sub") 355, Value.str (Str.ofString "/claim/cut.py") 356, Value.int 74 0, Value.int 4 0, Value.int 0 0, Value.int 0 0, Value.int 3 0, Value.ref 128, Value.bool true, Value.int 181 0, Value.ref 129, Value.none, Value.ref 130, Value.ref 131, Value.ref 132, Value.int 361 0, Value.int 74 0, Value.str (Str.ofString "/claim/cut.py") 362] }) ::
  (nat_lit 134, ⟨Value.type "function", none, .func ⟨(Str.ofString "complex_sub"), (Str.ofString "complex_sub"), fnP (topS 20), .stmts (fnB (topS 20)), fnS (topS 20), (3), ([]), (Value.none), (Value.none), (Value.none), (Value.str (Str.ofString "f77.complexes") 319), (none), (Value.ref 133), (Value.none), (0)⟩, #[]⟩) ::
  (nat_lit 135, { cls := Value.type "tuple", data := Data.seq #[] }) ::
  (nat_lit 137, { cls := Value.type "tuple", data := Data.seq #[Value.str (Str.ofString "x") 367, Value.str (Str.ofString "y") 368, Value.str (Str.ofString "across") 369] }) ::
  (nat_lit 138, { cls := Value.type "tuple", data := Data.seq #[] }) ::
  (nat_lit 140, { cls := Value.type "code", data := Data.fields #[Value.str (Str.ofString "exact_product") 364, Value.str (Str.ofString "exact_product") 365, Value.str (Str.ofString "/claim/cut.py") 366, Value.int 76 0, Value.int 2 0, Value.int 0 0, Value.int 0 0, Value.int 3 0, Value.ref 135, Value.bool true, Value.int 181 0, Value.ref 136, Value.none, Value.ref 137, Value.ref 138, Value.ref 139, Value.int 370 0, Value.int 76 0, Value.str (Str.ofString "/claim/cut.py") 371] }) ::
  (nat_lit 141, ⟨Value.type "function", none, .func ⟨(Str.ofString "exact_product"), (Str.ofString "exact_product"), fnP (topS 21), .stmts (fnB (topS 21)), fnS (topS 21), (3), ([]), (Value.none), (Value.none), (Value.none), (Value.str (Str.ofString "f77.complexes") 319), (none), (Value.ref 140), (Value.none), (0)⟩, #[]⟩) ::
  (nat_lit 142, { cls := Value.type "tuple", data := Data.seq #[] }) ::
  (nat_lit 144, { cls := Value.type "tuple", data := Data.seq #[Value.str (Str.ofString "x") 376, Value.str (Str.ofString "y") 377, Value.str (Str.ofString "digits") 378, Value.str (Str.ofString "top") 379] }) ::
  (nat_lit 145, { cls := Value.type "tuple", data := Data.seq #[] }) ::
  (nat_lit 147, { cls := Value.type "code", data := Data.fields #[Value.str (Str.ofString "complex_mul") 373, Value.str (Str.ofString "complex_mul") 374, Value.str (Str.ofString "/claim/cut.py") 375, Value.int 79 0, Value.int 4 0, Value.int 0 0, Value.int 0 0, Value.int 3 0, Value.ref 142, Value.bool true, Value.int 181 0, Value.ref 143, Value.none, Value.ref 144, Value.ref 145, Value.ref 146, Value.int 380 0, Value.int 79 0, Value.str (Str.ofString "/claim/cut.py") 381] }) ::
  (nat_lit 148, ⟨Value.type "function", none, .func ⟨(Str.ofString "complex_mul"), (Str.ofString "complex_mul"), fnP (topS 22), .stmts (fnB (topS 22)), fnS (topS 22), (3), ([]), (Value.none), (Value.none), (Value.none), (Value.str (Str.ofString "f77.complexes") 319), (none), (Value.ref 147), (Value.none), (0)⟩, #[]⟩) ::
  (nat_lit 149, { cls := Value.type "tuple", data := Data.seq #[] }) ::
  (nat_lit 151, { cls := Value.type "tuple", data := Data.seq #[Value.str (Str.ofString "x") 386, Value.str (Str.ofString "y") 387, Value.str (Str.ofString "digits") 388, Value.str (Str.ofString "top") 389, Value.str (Str.ofString "size") 390, Value.str (Str.ofString "whole") 391, Value.str (Str.ofString "across") 392, Value.str (Str.ofString "upward") 393] }) ::
  (nat_lit 152, { cls := Value.type "tuple", data := Data.seq #[] }) ::
  (nat_lit 154, { cls := Value.type "code", data := Data.fields #[Value.str (Str.ofString "complex_div") 383, Value.str (Str.ofString "complex_div") 384, Value.str (Str.ofString "/claim/cut.py") 385, Value.int 81 0, Value.int 4 0, Value.int 0 0, Value.int 0 0, Value.int 3 0, Value.ref 149, Value.bool true, Value.int 181 0, Value.ref 150, Value.none, Value.ref 151, Value.ref 152, Value.ref 153, Value.int 394 0, Value.int 81 0, Value.str (Str.ofString "/claim/cut.py") 395] }) ::
  (nat_lit 155, ⟨Value.type "function", none, .func ⟨(Str.ofString "complex_div"), (Str.ofString "complex_div"), fnP (topS 23), .stmts (fnB (topS 23)), fnS (topS 23), (3), ([]), (Value.none), (Value.none), (Value.none), (Value.str (Str.ofString "f77.complexes") 319), (none), (Value.ref 154), (Value.none), (0)⟩, #[]⟩) ::
  (nat_lit 156, { cls := Value.type "tuple", data := Data.seq #[] }) ::
  (nat_lit 158, { cls := Value.type "tuple", data := Data.seq #[Value.str (Str.ofString "x") 400, Value.str (Str.ofString "y") 401, Value.str (Str.ofString "digits") 402, Value.str (Str.ofString "found") 403, Value.str (Str.ofString "more") 404] }) ::
  (nat_lit 159, { cls := Value.type "tuple", data := Data.seq #[] }) ::
  (nat_lit 161, { cls := Value.type "code", data := Data.fields #[Value.str (Str.ofString "guarded_product") 397, Value.str (Str.ofString "guarded_product") 398, Value.str (Str.ofString "/claim/cut.py") 399, Value.int 89 0, Value.int 3 0, Value.int 0 0, Value.int 0 0, Value.int 3 0, Value.ref 156, Value.bool true, Value.int 181 0, Value.ref 157, Value.none, Value.ref 158, Value.ref 159, Value.ref 160, Value.int 405 0, Value.int 89 0, Value.str (Str.ofString "/claim/cut.py") 406] }) ::
  (nat_lit 162, ⟨Value.type "function", none, .func ⟨(Str.ofString "guarded_product"), (Str.ofString "guarded_product"), fnP (topS 24), .stmts (fnB (topS 24)), fnS (topS 24), (3), ([]), (Value.none), (Value.none), (Value.none), (Value.str (Str.ofString "f77.complexes") 319), (none), (Value.ref 161), (Value.none), (0)⟩, #[]⟩) ::
  (nat_lit 163, { cls := Value.type "tuple", data := Data.seq #[] }) ::
  (nat_lit 165, { cls := Value.type "tuple", data := Data.seq #[Value.str (Str.ofString "x") 411, Value.str (Str.ofString "n") 412, Value.str (Str.ofString "digits") 413, Value.str (Str.ofString "found") 414, Value.str (Str.ofString "turn") 415] }) ::
  (nat_lit 166, { cls := Value.type "tuple", data := Data.seq #[] }) ::
  (nat_lit 168, { cls := Value.type "code", data := Data.fields #[Value.str (Str.ofString "complex_raised") 408, Value.str (Str.ofString "complex_raised") 409, Value.str (Str.ofString "/claim/cut.py") 410, Value.int 93 0, Value.int 3 0, Value.int 0 0, Value.int 0 0, Value.int 3 0, Value.ref 163, Value.bool true, Value.int 181 0, Value.ref 164, Value.none, Value.ref 165, Value.ref 166, Value.ref 167, Value.int 416 0, Value.int 93 0, Value.str (Str.ofString "/claim/cut.py") 417] }) ::
  (nat_lit 169, ⟨Value.type "function", none, .func ⟨(Str.ofString "complex_raised"), (Str.ofString "complex_raised"), fnP (topS 25), .stmts (fnB (topS 25)), fnS (topS 25), (3), ([]), (Value.none), (Value.none), (Value.none), (Value.str (Str.ofString "f77.complexes") 319), (none), (Value.ref 168), (Value.none), (0)⟩, #[]⟩) ::
  (nat_lit 170, { cls := Value.type "tuple", data := Data.seq #[] }) ::
  (nat_lit 172, { cls := Value.type "tuple", data := Data.seq #[Value.str (Str.ofString "x") 422, Value.str (Str.ofString "n") 423, Value.str (Str.ofString "digits") 424, Value.str (Str.ofString "top") 425, Value.str (Str.ofString "found") 426] }) ::
  (nat_lit 173, { cls := Value.type "tuple", data := Data.seq #[] }) ::
  (nat_lit 175, { cls := Value.type "code", data := Data.fields #[Value.str (Str.ofString "complex_power") 419, Value.str (Str.ofString "complex_power") 420, Value.str (Str.ofString "/claim/cut.py") 421, Value.int 105 0, Value.int 4 0, Value.int 0 0, Value.int 0 0, Value.int 3 0, Value.ref 170, Value.bool true, Value.int 181 0, Value.ref 171, Value.none, Value.ref 172, Value.ref 173, Value.ref 174, Value.int 427 0, Value.int 105 0, Value.str (Str.ofString "/claim/cut.py") 428] }) ::
  (nat_lit 176, ⟨Value.type "function", none, .func ⟨(Str.ofString "complex_power"), (Str.ofString "complex_power"), fnP (topS 26), .stmts (fnB (topS 26)), fnS (topS 26), (3), ([]), (Value.none), (Value.none), (Value.none), (Value.str (Str.ofString "f77.complexes") 319), (none), (Value.ref 175), (Value.none), (0)⟩, #[]⟩) ::
  (nat_lit 177, { cls := Value.type "tuple", data := Data.seq #[] }) ::
  (nat_lit 179, { cls := Value.type "tuple", data := Data.seq #[Value.str (Str.ofString "op") 433, Value.str (Str.ofString "kind") 434, Value.str (Str.ofString "x") 435, Value.str (Str.ofString "y") 436, Value.str (Str.ofString "limits") 437, Value.str (Str.ofString "digits") 438, Value.str (Str.ofString "top") 439] }) ::
  (nat_lit 180, { cls := Value.type "tuple", data := Data.seq #[] }) ::
  (nat_lit 182, { cls := Value.type "code", data := Data.fields #[Value.str (Str.ofString "complex_binary") 430, Value.str (Str.ofString "complex_binary") 431, Value.str (Str.ofString "/claim/cut.py") 432, Value.int 110 0, Value.int 5 0, Value.int 0 0, Value.int 0 0, Value.int 3 0, Value.ref 177, Value.bool true, Value.int 181 0, Value.ref 178, Value.none, Value.ref 179, Value.ref 180, Value.ref 181, Value.int 440 0, Value.int 110 0, Value.str (Str.ofString "/claim/cut.py") 441] }) ::
  (nat_lit 183, ⟨Value.type "function", none, .func ⟨(Str.ofString "complex_binary"), (Str.ofString "complex_binary"), fnP (topS 27), .stmts (fnB (topS 27)), fnS (topS 27), (3), ([]), (Value.none), (Value.none), (Value.none), (Value.str (Str.ofString "f77.complexes") 319), (none), (Value.ref 182), (Value.none), (0)⟩, #[]⟩) ::
  (nat_lit 191, { cls := Value.type "tuple", data := Data.seq #[Value.int 32 459, Value.int 7 460, Value.int 15 461, Value.int 38 462, Value.int 1000000 463, Value.int 19 464, Value.int 72 465, Value.int 40 466] }) ::
  (nat_lit 192, { cls := Value.type "tuple", data := Data.seq #[] }) ::
  (nat_lit 194, { cls := Value.type "tuple", data := Data.seq #[Value.str (Str.ofString "self") 470, Value.str (Str.ofString "width") 471, Value.str (Str.ofString "real_digits") 472, Value.str (Str.ofString "double_digits") 473, Value.str (Str.ofString "top_exponent") 474, Value.str (Str.ofString "steps") 475, Value.str (Str.ofString "continuations") 476, Value.str (Str.ofString "columns") 477, Value.str (Str.ofString "depth") 478] }) ::
  (nat_lit 195, { cls := Value.type "tuple", data := Data.seq #[] }) ::
  (nat_lit 197, { cls := Value.type "code", data := Data.fields #[Value.str (Str.ofString "__init__") 467, Value.str (Str.ofString "Limits.__init__") 468, Value.str (Str.ofString "/claim/cut.py") 469, Value.int 132 0, Value.int 9 0, Value.int 0 0, Value.int 0 0, Value.int 3 0, Value.ref 192, Value.bool true, Value.int 181 0, Value.ref 193, Value.none, Value.ref 194, Value.ref 195, Value.ref 196, Value.int 479 0, Value.int 132 0, Value.str (Str.ofString "/claim/cut.py") 480] }) ::
  (nat_lit 198, ⟨Value.type "function", none, .func ⟨(Str.ofString "__init__"), (Str.ofString "Limits.__init__"), fnP (inS 30 0), .stmts (fnB (inS 30 0)), fnS (inS 30 0), (3), ([]), (Value.ref 191), (Value.none), (Value.none), (Value.str (Str.ofString "f77.limits") 445), (none), (Value.ref 197), (Value.none), (0)⟩, #[]⟩) ::
  (nat_lit 199, { cls := Value.type "tuple", data := Data.seq #[Value.str (Str.ofString "columns") 482, Value.str (Str.ofString "continuations") 483, Value.str (Str.ofString "depth") 484, Value.str (Str.ofString "double_digits") 485, Value.str (Str.ofString "real_digits") 486, Value.str (Str.ofString "steps") 487, Value.str (Str.ofString "top_exponent") 488, Value.str (Str.ofString "width") 489] }) ::
  (nat_lit 200, { cls := Value.type "dict", data := Data.dict #[{ hash := PyData.keyHash P (Str.ofString "__module__"), key := Value.str (Str.ofString "__module__") 454, val := Value.str (Str.ofString "f77.limits") 445 }, { hash := PyData.keyHash P (Str.ofString "__firstlineno__"), key := Value.str (Str.ofString "__firstlineno__") 458, val := Value.int 130 457 }, { hash := PyData.keyHash P (Str.ofString "__init__"), key := Value.str (Str.ofString "__init__") 481, val := Value.ref 198 }, { hash := PyData.keyHash P (Str.ofString "__static_attributes__"), key := Value.str (Str.ofString "__static_attributes__") 490, val := Value.ref 199 }, { hash := PyData.keyHash P (Str.ofString "__dict__"), key := Value.str (Str.ofString "__dict__") 492, val := Value.ref 202 }, { hash := PyData.keyHash P (Str.ofString "__weakref__"), key := Value.str (Str.ofString "__weakref__") 494, val := Value.ref 203 }, { hash := PyData.keyHash P (Str.ofString "__doc__"), key := Value.str (Str.ofString "__doc__") 495, val := Value.none }] 4 }) ::
  (nat_lit 201, { cls := Value.type "type", data := Data.cls { name := Str.ofString "Limits", bases := [Value.type "object"], mro := [Value.ref 201, Value.type "object"], ns := 200, qualname := Str.ofString "Limits" }, slots := #[none, none, some (Value.str (Str.ofString "Limits") 447), some (Value.str (Str.ofString "Limits") 455), some (Value.builtin "object.__new__"), some (Value.bool true)] }) ::
  (nat_lit 202, { cls := Value.type "getset_descriptor", data := Data.fields #[Value.str (Str.ofString "__dict__") 491, Value.ref 201, Value.builtin "function.__dict__", Value.builtin "function.__dict__#set"] }) ::
  (nat_lit 203, { cls := Value.type "getset_descriptor", data := Data.fields #[Value.str (Str.ofString "__weakref__") 493, Value.ref 201, Value.builtin "ExceptionGroup.__weakref__", Value.none] }) ::
  (nat_lit 206, { cls := Value.type "tuple", data := Data.seq #[] }) ::
  (nat_lit 208, { cls := Value.type "tuple", data := Data.seq #[Value.str (Str.ofString "nums") 503, Value.str (Str.ofString "place") 504] }) ::
  (nat_lit 209, { cls := Value.type "tuple", data := Data.seq #[] }) ::
  (nat_lit 211, { cls := Value.type "code", data := Data.fields #[Value.str (Str.ofString "_law_at") 500, Value.str (Str.ofString "_law_at") 501, Value.str (Str.ofString "/claim/cut.py") 502, Value.int 142 0, Value.int 2 0, Value.int 0 0, Value.int 0 0, Value.int 3 0, Value.ref 206, Value.bool true, Value.int 181 0, Value.ref 207, Value.none, Value.ref 208, Value.ref 209, Value.ref 210, Value.int 505 0, Value.int 142 0, Value.str (Str.ofString "/claim/cut.py") 506] }) ::
  (nat_lit 212, ⟨Value.type "function", none, .func ⟨(Str.ofString "_law_at"), (Str.ofString "_law_at"), fnP (topS 32), .stmts (fnB (topS 32)), fnS (topS 32), (3), ([]), (Value.none), (Value.none), (Value.none), (Value.str (Str.ofString "law_pf0118_01") 498), (none), (Value.ref 211), (Value.none), (0)⟩, #[]⟩) ::
  (nat_lit 213, { cls := Value.type "tuple", data := Data.seq #[] }) ::
  (nat_lit 215, { cls := Value.type "tuple", data := Data.seq #[Value.str (Str.ofString "m") 511, Value.str (Str.ofString "places") 512, Value.str (Str.ofString "e") 513] }) ::
  (nat_lit 216, { cls := Value.type "tuple", data := Data.seq #[] }) ::
  (nat_lit 218, { cls := Value.type "code", data := Data.fields #[Value.str (Str.ofString "_law_decimal") 508, Value.str (Str.ofString "_law_decimal") 509, Value.str (Str.ofString "/claim/cut.py") 510, Value.int 144 0, Value.int 2 0, Value.int 0 0, Value.int 0 0, Value.int 3 0, Value.ref 213, Value.bool true, Value.int 181 0, Value.ref 214, Value.none, Value.ref 215, Value.ref 216, Value.ref 217, Value.int 514 0, Value.int 144 0, Value.str (Str.ofString "/claim/cut.py") 515] }) ::
  (nat_lit 219, ⟨Value.type "function", none, .func ⟨(Str.ofString "_law_decimal"), (Str.ofString "_law_decimal"), fnP (topS 33), .stmts (fnB (topS 33)), fnS (topS 33), (3), ([]), (Value.none), (Value.none), (Value.none), (Value.str (Str.ofString "law_pf0118_01") 498), (none), (Value.ref 218), (Value.none), (0)⟩, #[]⟩) ::
  (nat_lit 220, { cls := Value.type "tuple", data := Data.seq #[] }) ::
  (nat_lit 222, { cls := Value.type "tuple", data := Data.seq #[Value.str (Str.ofString "x") 520, Value.str (Str.ofString "n") 521, Value.str (Str.ofString "digits") 522, Value.str (Str.ofString "top") 523, Value.str (Str.ofString "found") 524, Value.str (Str.ofString "other") 525] }) ::
  (nat_lit 223, { cls := Value.type "tuple", data := Data.seq #[] }) ::
  (nat_lit 225, { cls := Value.type "code", data := Data.fields #[Value.str (Str.ofString "_law_heard") 517, Value.str (Str.ofString "_law_heard") 518, Value.str (Str.ofString "/claim/cut.py") 519, Value.int 150 0, Value.int 4 0, Value.int 0 0, Value.int 0 0, Value.int 3 0, Value.ref 220, Value.bool true, Value.int 181 0, Value.ref 221, Value.none, Value.ref 222, Value.ref 223, Value.ref 224, Value.int 526 0, Value.int 150 0, Value.str (Str.ofString "/claim/cut.py") 527] }) ::
  (nat_lit 226, ⟨Value.type "function", none, .func ⟨(Str.ofString "_law_heard"), (Str.ofString "_law_heard"), fnP (topS 34), .stmts (fnB (topS 34)), fnS (topS 34), (3), ([]), (Value.none), (Value.none), (Value.none), (Value.str (Str.ofString "law_pf0118_01") 498), (none), (Value.ref 225), (Value.none), (0)⟩, #[]⟩) ::
  (nat_lit 227, { cls := Value.type "tuple", data := Data.seq #[] }) ::
  (nat_lit 229, { cls := Value.type "tuple", data := Data.seq #[Value.str (Str.ofString "num") 532, Value.str (Str.ofString "den") 533, Value.str (Str.ofString "lead") 534] }) ::
  (nat_lit 230, { cls := Value.type "tuple", data := Data.seq #[] }) ::
  (nat_lit 232, { cls := Value.type "code", data := Data.fields #[Value.str (Str.ofString "_law_lead") 529, Value.str (Str.ofString "_law_lead") 530, Value.str (Str.ofString "/claim/cut.py") 531, Value.int 160 0, Value.int 2 0, Value.int 0 0, Value.int 0 0, Value.int 3 0, Value.ref 227, Value.bool true, Value.int 181 0, Value.ref 228, Value.none, Value.ref 229, Value.ref 230, Value.ref 231, Value.int 535 0, Value.int 160 0, Value.str (Str.ofString "/claim/cut.py") 536] }) ::
  (nat_lit 233, ⟨Value.type "function", none, .func ⟨(Str.ofString "_law_lead"), (Str.ofString "_law_lead"), fnP (topS 35), .stmts (fnB (topS 35)), fnS (topS 35), (3), ([]), (Value.none), (Value.none), (Value.none), (Value.str (Str.ofString "law_pf0118_01") 498), (none), (Value.ref 232), (Value.none), (0)⟩, #[]⟩) ::
  (nat_lit 234, { cls := Value.type "tuple", data := Data.seq #[] }) ::
  (nat_lit 236, { cls := Value.type "tuple", data := Data.seq #[Value.str (Str.ofString "pair") 541, Value.str (Str.ofString "num") 542, Value.str (Str.ofString "den") 543, Value.str (Str.ofString "size") 544, Value.str (Str.ofString "digits") 545, Value.str (Str.ofString "nearby") 546, Value.str (Str.ofString "unit") 547, Value.str (Str.ofString "low") 548, Value.str (Str.ofString "far") 549] }) ::
  (nat_lit 237, { cls := Value.type "tuple", data := Data.seq #[] }) ::
  (nat_lit 239, { cls := Value.type "code", data := Data.fields #[Value.str (Str.ofString "_law_near") 538, Value.str (Str.ofString "_law_near") 539, Value.str (Str.ofString "/claim/cut.py") 540, Value.int 165 0, Value.int 5 0, Value.int 0 0, Value.int 0 0, Value.int 3 0, Value.ref 234, Value.bool true, Value.int 181 0, Value.ref 235, Value.none, Value.ref 236, Value.ref 237, Value.ref 238, Value.int 550 0, Value.int 165 0, Value.str (Str.ofString "/claim/cut.py") 551] }) ::
  (nat_lit 240, ⟨Value.type "function", none, .func ⟨(Str.ofString "_law_near"), (Str.ofString "_law_near"), fnP (topS 36), .stmts (fnB (topS 36)), fnS (topS 36), (3), ([]), (Value.none), (Value.none), (Value.none), (Value.str (Str.ofString "law_pf0118_01") 498), (none), (Value.ref 239), (Value.none), (0)⟩, #[]⟩) ::
  (nat_lit 241, { cls := Value.type "tuple", data := Data.seq #[] }) ::
  (nat_lit 243, { cls := Value.type "tuple", data := Data.seq #[Value.str (Str.ofString "a") 556, Value.str (Str.ofString "b") 557, Value.str (Str.ofString "n") 558, Value.str (Str.ofString "x") 559, Value.str (Str.ofString "y") 560, Value.str (Str.ofString "turn") 561] }) ::
  (nat_lit 244, { cls := Value.type "tuple", data := Data.seq #[] }) ::
  (nat_lit 246, { cls := Value.type "code", data := Data.fields #[Value.str (Str.ofString "_law_power") 553, Value.str (Str.ofString "_law_power") 554, Value.str (Str.ofString "/claim/cut.py") 555, Value.int 171 0, Value.int 3 0, Value.int 0 0, Value.int 0 0, Value.int 3 0, Value.ref 241, Value.bool true, Value.int 181 0, Value.ref 242, Value.none, Value.ref 243, Value.ref 244, Value.ref 245, Value.int 562 0, Value.int 171 0, Value.str (Str.ofString "/claim/cut.py") 563] }) ::
  (nat_lit 247, ⟨Value.type "function", none, .func ⟨(Str.ofString "_law_power"), (Str.ofString "_law_power"), fnP (topS 37), .stmts (fnB (topS 37)), fnS (topS 37), (3), ([]), (Value.none), (Value.none), (Value.none), (Value.str (Str.ofString "law_pf0118_01") 498), (none), (Value.ref 246), (Value.none), (0)⟩, #[]⟩) ::
  (nat_lit 248, { cls := Value.type "tuple", data := Data.seq #[] }) ::
  (nat_lit 250, { cls := Value.type "tuple", data := Data.seq #[Value.str (Str.ofString "pair") 568, Value.str (Str.ofString "num") 569, Value.str (Str.ofString "den") 570, Value.str (Str.ofString "size") 571, Value.str (Str.ofString "digits") 572, Value.str (Str.ofString "top") 573] }) ::
  (nat_lit 251, { cls := Value.type "tuple", data := Data.seq #[] }) ::
  (nat_lit 253, { cls := Value.type "code", data := Data.fields #[Value.str (Str.ofString "_law_part_right") 565, Value.str (Str.ofString "_law_part_right") 566, Value.str (Str.ofString "/claim/cut.py") 567, Value.int 176 0, Value.int 6 0, Value.int 0 0, Value.int 0 0, Value.int 3 0, Value.ref 248, Value.bool true, Value.int 181 0, Value.ref 249, Value.none, Value.ref 250, Value.ref 251, Value.ref 252, Value.int 574 0, Value.int 176 0, Value.str (Str.ofString "/claim/cut.py") 575] }) ::
  (nat_lit 254, ⟨Value.type "function", none, .func ⟨(Str.ofString "_law_part_right"), (Str.ofString "_law_part_right"), fnP (topS 38), .stmts (fnB (topS 38)), fnS (topS 38), (3), ([]), (Value.none), (Value.none), (Value.none), (Value.str (Str.ofString "law_pf0118_01") 498), (none), (Value.ref 253), (Value.none), (0)⟩, #[]⟩) ::
  (nat_lit 255, { cls := Value.type "tuple", data := Data.seq #[] }) ::
  (nat_lit 258, { cls := Value.type "code", data := Data.fields #[Value.str (Str.ofString "law") 577, Value.str (Str.ofString "law") 578, Value.str (Str.ofString "/claim/cut.py") 579, Value.int 180 0, Value.int 1 0, Value.int 0 0, Value.int 0 0, Value.int 3 0, Value.ref 255, Value.bool true, Value.int 181 0, Value.ref 256, Value.none, Value.none, Value.none, Value.ref 257, Value.int 580 0, Value.int 180 0, Value.str (Str.ofString "/claim/cut.py") 581] }) ::
  (nat_lit 259, ⟨Value.type "function", none, .func ⟨(Str.ofString "law"), (Str.ofString "law"), fnP (topS 39), .stmts (fnB (topS 39)), fnS (topS 39), (3), ([]), (Value.none), (Value.none), (Value.none), (Value.str (Str.ofString "law_pf0118_01") 498), (none), (Value.ref 258), (Value.none), (0)⟩, #[]⟩) :: []
end Mine
end
section
open PySem PySem.W PySem.Spec PySem.Calls PyProof.Rows
set_option maxRecDepth 100000
set_option maxHeartbeats 4000000
namespace Mine
theorem fill0 (P : Params) : PySem.Challenge.rw_pf0118_01.Holds = PySem.Challenge.rw_pf0118_01.Holds ∧ Mine.H P = Mine.H P := by
  k_fill
  exact ⟨rfl, rfl⟩
theorem rfk (P : Params) : RFK (Mine.H P) where
  cls := ⟨218, 226, by k_is⟩
  init := by k_is
  fn := by k_is
  sa := by k_is
  txt := by k_is
  glob := by k_is
  def_ := by
    iterate 24 apply Exists.intro
    refine ⟨?a, ?b, ?c, ?d, ?e, ?f, ?g, ?h⟩
    case a => k_is
    case b => k_is
    case c => intro u v; rfl
    case d => rfl
    case e => rfl
    case f => rfl
    case g => rfl
    case h => decide
theorem limk (P : Params) : LimK (Mine.H P) where
  makes := by k_is
  keep := by k_is
  init := by k_is
  fn := by k_is
  plain := by k_is
  hasD := by k_is
  sa := by k_is
  takers := by
    intro n hn
    simp only [limNames, List.mem_cons, List.not_mem_nil, or_false] at hn
    rcases hn with rfl | rfl | rfl | rfl | rfl | rfl | rfl | rfl <;> k_is
  def_ := by
    iterate 19 apply Exists.intro
    refine ⟨?a, ?b, ?c, ?d, ?e, ?f, ?g, ?h⟩
    case a => k_is
    case b => k_is
    case c =>
      refine' ⟨[(_, _, _, _, _), (_, _, _, _, _), (_, _, _, _, _), (_, _, _, _, _), (_, _, _, _, _), (_, _, _, _, _), (_, _, _, _, _), (_, _, _, _, _)], ?x, ?y⟩
      case x => rfl
      case y => rfl
    case d =>
      intro s x a b c d X
      refine' binds_K X rfl ?ho ?hs ?h1 ?h2
      case ho => k_is
      case hs => rfl
      case h1 => rfl
      case h2 => rfl
    case e => rfl
    case f => rfl
    case g => rfl
    case h => rfl
theorem getk1 (P : Params) : GetK (Mine.H P) (Str.ofString "real_digits") := ⟨by k_is, by k_is, by k_is⟩
theorem getk2 (P : Params) : GetK (Mine.H P) (Str.ofString "top_exponent") := ⟨by k_is, by k_is, by k_is⟩
end Mine
end
section
open PySem PySem.W PySem.Spec PySem.Calls PyProof.Rows
set_option maxRecDepth 100000
set_option maxHeartbeats 2000000
set_option hygiene false in
local macro_rules | `(tactic| walk_at "lk!") => `(tactic| first | with_reducible assumption | exact Mine.lk_hd | (apply Mine.lk_tl; decide +kernel; walk_at "lk!"))
set_option hygiene false in
local macro_rules | `(tactic| walk_at "kd!") => `(tactic| first | (unfold Env.kindOf; rw [fc.sc]; decide +kernel) | (rw [fc.kindOf]; decide +kernel))
set_option hygiene false in
local macro_rules | `(tactic| walk_at "gl!") => `(tactic| (rw [hW]; k_is))
set_option hygiene false in
local macro_rules | `(tactic| walk_at "st!") => `(tactic| first | exact Or.inl (by walk_at "kd!") | exact Or.inr ⟨by walk_at "kd!", fc.cl _ (by decide +kernel)⟩)
set_option hygiene false in
local macro_rules | `(tactic| walk_at "el!") => `(tactic| first | exact Mine.EvL.nil | (apply Mine.EvL.ok; decide +kernel; walk_at "ev!"; walk_at "el!"))
set_option hygiene false in
local macro_rules | `(tactic| walk_at "bb!") => `(tactic| first | exact Mine.boot_abs | exact Mine.boot_max | exact Mine.boot_min | exact Mine.boot_len | exact Mine.boot_divmod | exact Mine.boot_str)
set_option hygiene false in
local macro_rules | `(tactic| walk_at "side!") => `(tactic| first | with_reducible assumption | omega | decide)
set_option hygiene false in
local macro_rules | `(tactic| walk_at "ev!") => `(tactic| first
  | with_reducible exact Mine.EvE.int
  | with_reducible exact Mine.EvE.str
  | with_reducible exact Mine.EvE.bool
  | (with_reducible apply Mine.EvE.var; walk_at "lk!"; decide +kernel)
  | (with_reducible apply Mine.EvE.add; walk_at "ev!"; walk_at "ev!")
  | (with_reducible apply Mine.EvE.sub; walk_at "ev!"; walk_at "ev!")
  | (with_reducible apply Mine.EvE.neg; walk_at "ev!")
  | (with_reducible apply Mine.EvE.mul; walk_at "ev!"; walk_at "ev!"; walk_at "side!")
  | (with_reducible apply Mine.EvE.pow; walk_at "ev!"; walk_at "ev!"; walk_at "side!"; walk_at "side!"; walk_at "side!")
  | (with_reducible apply Mine.EvE.modP; walk_at "ev!"; walk_at "ev!"; walk_at "side!")
  | (with_reducible apply Mine.EvE.divP; walk_at "ev!"; walk_at "ev!"; walk_at "side!"; walk_at "side!")
  | (with_reducible apply Mine.EvE.rep; walk_at "el!"; decide; decide; exact rfl)
  | (with_reducible apply Mine.EvE.tup; walk_at "el!"; decide)
  | (with_reducible apply Mine.EvE.lst; walk_at "el!"; decide)
  | (with_reducible apply Mine.EvE.t0; walk_at "ev!")
  | (with_reducible apply Mine.EvE.t1; walk_at "ev!")
  | (with_reducible apply Mine.EvE.l0; walk_at "ev!")
  | (with_reducible apply Mine.EvE.l1; walk_at "ev!")
  | (with_reducible apply Mine.EvE.itemT; walk_at "ev!"; walk_at "ev!"; decide +kernel; walk_at "side!"; walk_at "side!"; (first | with_reducible assumption | exact rfl))
  | (with_reducible apply Mine.EvE.itemL; walk_at "ev!"; walk_at "ev!"; decide +kernel; walk_at "side!"; walk_at "side!"; (first | with_reducible assumption | exact rfl))
  | (with_reducible apply Mine.EvE.cmp; walk_at "ev!"; walk_at "ev!"; walk_at "cm!"; decide +kernel)
  | (with_reducible apply Mine.EvE.ifD; walk_at "et!"; (intro _; walk_at "ev!"); (intro _; walk_at "ev!"))
  | (with_reducible apply Mine.EvE.gint; walk_at "gl!"; walk_at "kd!"; decide +kernel)
  | (with_reducible apply Mine.EvE.callB; walk_at "gl!"; walk_at "bb!"; decide +kernel; walk_at "kd!"; decide +kernel; decide +kernel; walk_at "el!"; walk_at "cb!"; exact Nat.zero_le _)
  | (with_reducible apply Mine.EvE.callT; walk_at "gl!"; walk_at "bb!"; decide +kernel; walk_at "kd!"; decide +kernel; decide +kernel; walk_at "el!"; walk_at "cb!"; exact Nat.zero_le _)
  | (with_reducible apply Mine.EvE.call; walk_at "gl!"; walk_at "gl!"; exact rfl; walk_at "kd!"; decide +kernel; decide +kernel; walk_at "el!"; walk_at "cc!"; (rw [fc.k]; first | decide | (rw [fo.k]; decide))))
set_option hygiene false in
local macro_rules | `(tactic| walk_at "cm!") => `(tactic| first | with_reducible exact Mine.CmpOK.lt | with_reducible exact Mine.CmpOK.le | with_reducible exact Mine.CmpOK.gt | with_reducible exact Mine.CmpOK.ge | with_reducible exact Mine.CmpOK.eq | with_reducible exact Mine.CmpOK.ne | with_reducible exact Mine.CmpOK.neB)
set_option hygiene false in
local macro_rules | `(tactic| walk_at "cb!") => `(tactic| first
  | with_reducible exact Mine.call_absN | with_reducible exact Mine.call_maxI | with_reducible exact Mine.call_minI | with_reducible exact Mine.call_min4I
  | (with_reducible apply Mine.call_divmodP <;> walk_at "side!") | (with_reducible apply Mine.call_str; walk_at "side!") | (with_reducible apply Mine.call_len_str; walk_at "side!") | (with_reducible apply Mine.call_len_lst; walk_at "side!"))
set_option hygiene false in
local macro_rules | `(tactic| walk_at "cc!") => `(tactic| with_reducible assumption)
set_option hygiene false in
local macro_rules | `(tactic| walk_at "et!") => `(tactic| first
  | (with_reducible apply Mine.EvT.eqD; walk_at "ev!"; walk_at "ev!")
  | (with_reducible apply Mine.EvT.neD; walk_at "ev!"; walk_at "ev!")
  | (with_reducible apply Mine.EvT.cmp; walk_at "ev!"; walk_at "ev!"; walk_at "cm!"; decide +kernel)
  | (with_reducible apply Mine.EvT.andD; walk_at "et!"; (intro _; walk_at "et!"))
  | (with_reducible apply Mine.EvT.orD; walk_at "et!"; (intro _; walk_at "et!"))
  | (with_reducible apply Mine.EvT.intD; walk_at "ev!"))
set_option hygiene false in
local macro_rules | `(tactic| walk_at "def!") => `(tactic| (
  case ho => walk_at "gl!"
  case hcd => walk_at "gl!"
  case hb =>
    intro vs h
    first
    | (obtain ⟨_, rfl⟩ := Mine.len1 h; rfl)
    | (obtain ⟨_, _, rfl⟩ := Mine.len2 h; rfl)
    | (obtain ⟨_, _, _, rfl⟩ := Mine.len3 h; rfl)
    | (obtain ⟨_, _, _, _, rfl⟩ := Mine.len4 h; rfl)
    | (obtain ⟨_, _, _, _, _, rfl⟩ := Mine.len5 h; rfl)
    | (obtain ⟨_, _, _, _, _, _, rfl⟩ := Mine.len6 h; rfl)
    | (obtain ⟨_, _, _, _, _, _, _, rfl⟩ := Mine.len7 h; rfl)
  case hxs => decide +kernel
  case hcell => decide +kernel
  case hq => exact ⟨⟨rfl, rfl⟩, rfl⟩
  intro c fc
  conv => arg 4; whnf))
set_option hygiene false in
local macro_rules | `(tactic| walk_at "set!") => `(tactic| (apply Mine.WS.one; (apply Mine.W1.set; walk_at "ev!"; decide +kernel; walk_at "st!"; exact rfl)))
set_option hygiene false in
local macro_rules | `(tactic| walk_at "ret!") => `(tactic| (apply Mine.WS.end1; apply Mine.W1.done; walk_at "ev!"))
set_option hygiene false in
local macro_rules | `(tactic| walk_at "cov!") => `(tactic| first | exact Mine.cov_nil | (apply Mine.cov_cons; walk_at "lk!"; walk_at "cov!"))
set_option hygiene false in
local macro_rules | `(tactic| walk_at "adiv!") => `(tactic| (apply Mine.WS.one; (apply Mine.W1.augDivP; walk_at "lk!"; walk_at "ev!"; walk_at "st!"; walk_at "side!"; walk_at "side!"; exact rfl)))
set_option hygiene false in
local macro_rules | `(tactic| walk_at "aadd!") => `(tactic| (apply Mine.WS.one; (apply Mine.W1.augAdd; walk_at "lk!"; walk_at "ev!"; walk_at "st!"; exact rfl)))
set_option hygiene false in
local macro_rules | `(tactic| walk_at "asub!") => `(tactic| (apply Mine.WS.one; (apply Mine.W1.augSub; walk_at "lk!"; walk_at "ev!"; walk_at "st!"; exact rfl)))
set_option hygiene false in
local macro_rules | `(tactic| walk_at "set2!") => `(tactic| (apply Mine.WS.one; (apply Mine.W1.assign2; walk_at "ev!"; decide +kernel; exact rfl; walk_at "st!"; walk_at "st!"; exact rfl)))
set_option hygiene false in
local macro_rules | `(tactic| walk_at "seti!") => `(tactic| (apply Mine.WS.one; (apply Mine.W1.set; walk_at "ev!"; decide +kernel; walk_at "st!"; exact rfl)))
set_option hygiene false in
local macro_rules | `(tactic| walk_at "skip!") => `(tactic| (apply Mine.WS.skip; walk_at "et!"))
set_option hygiene false in
local macro_rules | `(tactic| walk_at "into!") => `(tactic| (apply Mine.WS.into; walk_at "et!"))
set_option hygiene false in
local macro_rules | `(tactic| walk_at "done!") => `(tactic| (first | apply Mine.WS.done | apply Mine.WS.doneS); walk_at "ev!")
section
namespace Mine
abbrev rl (x : Rl) : D := .tup [.int x.1, .int x.2]
abbrev cx (z : Cx) : D := .tup [rl z.1, rl z.2]
theorem big9 : (10 : Nat) ^ 2700 < 2 ^ 9000 := by decide +kernel
def Sz (x : Rl) : Prop := x.1.natAbs < 10 ^ 2600 ∧ x.2.natAbs < 100000
variable {W : Wd}
theorem c_count (hW : W.K = Mine.H W.w.params) (n : Int) : CallOK W 1 (.ref 54) [.int n] (.ok (.int (dg n.natAbs))) := by
  refine' callOK_fn (k := 0) [Str.ofString "n"] [(Str.ofString "n", .int n)] ?ho ?hcd rfl ?hb ?hxs ?hcell ?hq rfl ?h
  walk_at "def!"
  walk_at "set!"
  walk_at "set!"
  let L : Nat × Nat → Sg := fun a => [(Str.ofString "count", .int a.2), (Str.ofString "n", .int a.1)]
  refine WS.cons (R := fun τ => ∃ a : Nat × Nat, a.2 + dg a.1 = dg n.natAbs ∧ τ = L a) (W1.loop L (fun a => a.2 + dg a.1 = dg n.natAbs) (fun a => decide ((a.1 : Int) ≥ 1000000000)) (·.1) (fun a _ => ?_) (fun a hI hb => ?_) (fun a hI _ => ⟨a, hI, rfl⟩) (n.natAbs, 0) (Nat.zero_add _) ?_) ?_
  · dsimp only [L]; walk_at "et!"
  · have h9 : 1000000000 ≤ a.1 := Int.ofNat_le.mp (of_decide_eq_true hb)
    walk_at "adiv!"
    walk_at "aadd!"
    refine WS.nil ⟨(a.1 / 1000000000, a.2 + 9), ?_, ?_, ?_⟩
    · rw [← hI, dg_nine h9]; exact (Nat.add_right_comm _ _ _).trans (Nat.add_assoc _ _ _)
    · exact Nat.div_lt_self (Nat.lt_of_lt_of_le (by decide) h9) (by decide)
    · walk_at "cov!"
  · walk_at "cov!"
  rintro _ ⟨a, hI, rfl⟩
  refine WS.cons (R := fun τ => τ = L (0, dg n.natAbs)) (W1.loop L (fun a => a.2 + dg a.1 = dg n.natAbs) (fun a => decide ((a.1 : Int) > 0)) (·.1) (fun a _ => ?_) (fun a hI hb => ?_) (fun a hI hb => ?_) a hI (fun _ _ h => h)) ?_
  · dsimp only [L]; walk_at "et!"
  · have h9 : 0 < a.1 := Int.ofNat_lt.mp (of_decide_eq_true hb)
    walk_at "adiv!"
    walk_at "aadd!"
    refine WS.nil ⟨(a.1 / 10, a.2 + 1), ?_, ?_, ?_⟩
    · rw [← hI, dg_succ (Nat.ne_of_gt h9)]; exact (Nat.add_right_comm _ _ _).trans (Nat.add_assoc _ _ _)
    · exact Nat.div_lt_self h9 (by decide)
    · walk_at "cov!"
  · have h9 : a.1 = 0 := Nat.eq_zero_of_not_pos fun h => of_decide_eq_false hb (Int.ofNat_lt.mpr h)
    obtain ⟨v, k⟩ := a
    dsimp only at hI h9
    subst h9
    rw [dg_zero] at hI
    show _ = _
    rw [← hI]; rfl
  rintro _ rfl
  exact WS.done (by dsimp only [L]; walk_at "ev!") rfl

theorem gtup {P : Params} {K : Frag} (hW : W.K = K) {X : Addr → Prop} {a : Addr} {o : Obj} {vs : List Value} {ds : List D} (ho : K.lookup a = some o) (hc : o.cls = .type "tuple") (hd : o.data = .seq vs.toArray 0) (hX : ∀ b o, W.base.get? b = some o → ¬ X b) (dl : DAll X W.base vs ds) : DIn X W.base (.ref a) (.tup ds) := by
  have h := W.hK a o (hW ▸ ho)
  exact .tup (hX _ _ h) ⟨o, h, hc, 0, hd⟩ dl
theorem ev_nought (hW : W.K = Mine.H W.w.params) {c : Fm} {σ : Sg} {pos : Pos} (hk : c.env.kindOf (Str.ofString "NOUGHT") = some .globalImplicit) : EvE W c σ (.Name (Str.ofString "NOUGHT") pos) (.ok (rl (0, 0))) := by
  apply EvE.gref
  walk_at "gl!"
  exact hk
  decide +kernel
  intro X hX
  apply gtup (P := W.w.params) hW
  k_is
  rfl
  exact (rfl : _ = Data.seq [Value.int 0 236, Value.int 0 237].toArray 0)
  exact hX
  exact .cons (.int _ _) (.cons (.int _ _) .nil)
theorem ev_one (hW : W.K = Mine.H W.w.params) {c : Fm} {σ : Sg} {pos : Pos} (hk : c.env.kindOf (Str.ofString "ONE") = some .globalImplicit) : EvE W c σ (.Name (Str.ofString "ONE") pos) (.ok (cx one)) := by
  apply EvE.gref
  walk_at "gl!"
  exact hk
  decide +kernel
  intro X hX
  apply gtup (P := W.w.params) hW
  k_is
  rfl
  exact (rfl : _ = Data.seq [Value.ref 104, Value.ref 105].toArray 0)
  exact hX
  refine .cons ?_ (.cons ?_ .nil)
  · apply gtup (P := W.w.params) hW
    k_is
    rfl
    exact (rfl : _ = Data.seq [Value.int 1 321, Value.int 0 322].toArray 0)
    exact hX
    exact .cons (.int _ _) (.cons (.int _ _) .nil)
  · apply gtup (P := W.w.params) hW
    k_is
    rfl
    exact (rfl : _ = Data.seq [Value.int 0 323, Value.int 0 324].toArray 0)
    exact hX
    exact .cons (.int _ _) (.cons (.int _ _) .nil)

theorem c_strip (hW : W.K = Mine.H W.w.params) (m e : Int) : CallOK W 1 (.ref 61) [.int m, .int e] (.ok (rl (strip m e))) := by
  refine' callOK_fn (k := 0) [Str.ofString "m", Str.ofString "e"] [(Str.ofString "e", .int e), (Str.ofString "m", .int m)] ?ho ?hcd rfl ?hb ?hxs ?hcell ?hq rfl ?h
  walk_at "def!"
  unfold strip
  by_cases hm : m = 0
  · rw [if_pos hm]
    walk_at "into!"
    exact decide_eq_true hm
    exact WS.doneS (ev_nought hW (by walk_at "kd!")) rfl
  rw [if_neg hm]
  walk_at "skip!"
  exact decide_eq_false hm
  let L : Rl → Sg := fun a => [(Str.ofString "e", .int a.2), (Str.ofString "m", .int a.1)]
  refine WS.cons (R := fun τ => τ = L (stripW m e)) (W1.loop L (fun a => a.1 ≠ 0 ∧ stripW a.1 a.2 = stripW m e) (fun a => decide (a.1 % 10 = 0)) (·.1.natAbs) (fun a _ => ?_) (fun a hI hb => ?_) (fun a hI hb => ?_) (m, e) ⟨hm, rfl⟩ (fun _ _ h => h)) ?_
  · dsimp only [L]; walk_at "et!"
  · walk_at "adiv!"
    walk_at "aadd!"
    have h10 : a.1 % 10 = 0 := of_decide_eq_true hb
    refine WS.nil ⟨(a.1 / 10, a.2 + 1), ⟨?_, ?_⟩, ?_, ?_⟩
    · have := hI.1; dsimp only; omega
    · rw [← hI.2, stripW.eq_def a.1, dif_pos ⟨hI.1, h10⟩]
    · have := hI.1; dsimp only; omega
    · walk_at "cov!"
  · have h10 : ¬ a.1 % 10 = 0 := of_decide_eq_false hb
    show _ = _
    rw [← hI.2, stripW.eq_def a.1, dif_neg fun z => h10 z.2]
  rintro _ rfl
  exact WS.done (by dsimp only [L]; walk_at "ev!") rfl
end Mine
end
section
namespace Mine
variable {W : Wd}
theorem pow_lt {k : Nat} (h : k ≤ 2700) : (10 : Nat) ^ k < 2 ^ 9000 := Nat.lt_of_le_of_lt (Nat.pow_le_pow_right (by decide) h) big9
theorem ten_abs (k : Nat) : ((10 : Int) ^ k).natAbs = 10 ^ k := by rw [Int.natAbs_pow]; rfl
theorem ten_pos (k : Nat) : (0 : Int) < 10 ^ k := Int.pow_pos (by decide)
theorem dg_le {n k : Nat} (h : n < 10 ^ k) : dg n ≤ k := by
  induction k generalizing n with
  | zero => rw [show n = 0 from Nat.lt_one_iff.mp (by simpa using h), dg_zero]; exact Nat.le_refl _
  | succ k ih =>
    by_cases h0 : n = 0
    · rw [h0, dg_zero]; exact Nat.zero_le _
    · rw [dg_succ h0]
      exact Nat.succ_le_succ (ih (Nat.div_lt_of_lt_mul (by rw [Nat.mul_comm]; exact h)))
theorem mul_small {a b : Int} (ha : a.natAbs < 2 ^ 9000) (hb : b.natAbs < 2 ^ 9000) : IntMulOk a b := mul_ok ha hb (by decide)
theorem two_small : (2 : Int).natAbs < 2 ^ 9000 := by decide +kernel

theorem c_rdig (hW : W.K = Mine.H W.w.params) {m e d : Int} (hm : m.natAbs < 10 ^ 2600) (hd0 : 0 ≤ d) : CallOK W 2 (.ref 68) [.int m, .int e, .int d] (.ok (rl (roundDigits m e d))) := by
  have c1 := c_count hW m
  refine' callOK_fn (k := 1) [Str.ofString "m", Str.ofString "e", Str.ofString "digits"] [(Str.ofString "digits", .int d), (Str.ofString "e", .int e), (Str.ofString "m", .int m)] ?ho ?hcd rfl ?hb ?hxs ?hcell ?hq rfl ?h
  walk_at "def!"
  walk_at "set!"
  unfold roundDigits
  by_cases h : (dg m.natAbs : Int) - d > 0
  · rw [if_pos h]
    dsimp only
    have hk : ((dg m.natAbs : Int) - d).toNat ≤ 2700 := by have := dg_le hm; omega
    generalize (dg m.natAbs : Int) - d = dr at h hk ⊢
    have s1 : 0 ≤ dr := Int.le_of_lt h
    have s2 : dr ≤ 1000000 := by omega
    have s3 : (10 : Int).natAbs < 2 ^ 64 := by decide
    have s4 : (0 : Int) < 10 ^ dr.toNat := ten_pos _
    have s5 : ((10 : Int) ^ dr.toNat).natAbs < 2 ^ 9000 := by rw [ten_abs]; exact pow_lt hk
    have s6 : IntMulOk 2 ((m.natAbs : Int) % 10 ^ dr.toNat) := mul_small two_small (by
      have h1 := Int.emod_nonneg (m.natAbs : Int) (Int.ne_of_gt s4)
      have h2 := Int.emod_lt_of_pos (m.natAbs : Int) s4
      exact Nat.lt_trans (by omega) s5)
    have c2 := c_strip hW (if m > 0 then roundUp m.natAbs (10 ^ dr.toNat) else -roundUp m.natAbs (10 ^ dr.toNat)) (e + dr)
    refine WS.thru [(Str.ofString "e", .int (e + dr)), (Str.ofString "m", .int (if m > 0 then roundUp m.natAbs (10 ^ dr.toNat) else -roundUp m.natAbs (10 ^ dr.toNat)))] (by walk_at "et!") (decide_eq_true h) ?_ ?_
    · walk_at "set!"
      walk_at "set2!"
      refine WS.thenSub (τ := [(Str.ofString "kept", .int (roundUp m.natAbs (10 ^ dr.toNat))), (Str.ofString "drop", .int dr), (Str.ofString "e", .int e), (Str.ofString "m", .int m)]) ?_ ?_
      · unfold roundUp
        by_cases hc : 2 * ((m.natAbs : Int) % 10 ^ dr.toNat) > 10 ^ dr.toNat ∨ (2 * ((m.natAbs : Int) % 10 ^ dr.toNat) = 10 ^ dr.toNat ∧ (m.natAbs : Int) / 10 ^ dr.toNat % 2 = 1)
        · rw [if_pos hc]
          apply W1.iteT
          walk_at "et!"
          exact decide_eq_true hc
          walk_at "aadd!"
          exact WS.nil (by show Cov _ _; walk_at "cov!")
        · rw [if_neg hc]
          apply W1.iteF
          walk_at "et!"
          exact decide_eq_false hc
          exact WS.nil (by show Cov _ _; walk_at "cov!")
      · walk_at "set!"
        walk_at "aadd!"
        exact WS.nil (by show Cov _ _; walk_at "cov!")
    · exact WS.done (by walk_at "ev!") rfl
  · rw [if_neg h]
    walk_at "skip!"
    exact decide_eq_false h
    have c2 := c_strip hW m e
    exact WS.done (by walk_at "ev!") rfl

theorem c_rreal (hW : W.K = Mine.H W.w.params) {m e d t : Int} (hm : m.natAbs < 10 ^ 2600) (hd0 : 0 ≤ d) : CallOK W 3 (.ref 75) [.int m, .int e, .int d, .int t] (oR rl (roundReal m e d t)) := by
  have RK : RFK W.K := hW ▸ rfk _
  have c1 := c_rdig hW (e := e) hm hd0
  have c2 := c_count hW (roundDigits m e d).1
  refine' callOK_fn (k := 2) [Str.ofString "m", Str.ofString "e", Str.ofString "digits", Str.ofString "top"] [(Str.ofString "top", .int t), (Str.ofString "digits", .int d), (Str.ofString "e", .int e), (Str.ofString "m", .int m)] ?ho ?hcd rfl ?hb ?hxs ?hcell ?hq rfl ?h
  walk_at "def!"
  walk_at "set2!"
  walk_at "set!"
  unfold roundReal
  generalize roundDigits m e d = x at c2 ⊢
  dsimp only
  by_cases h1 : x.1 = 0 ∨ x.2 + dg x.1.natAbs - 1 < -t
  · rw [if_pos h1]
    walk_at "into!"
    exact decide_eq_true h1
    exact WS.doneS (ev_nought hW (by walk_at "kd!")) rfl
  rw [if_neg h1]
  walk_at "skip!"
  exact decide_eq_false h1
  by_cases h2 : x.2 + dg x.1.natAbs - 1 > t
  · rw [if_pos h2]
    walk_at "into!"
    exact decide_eq_true h2
    refine WS.end1 (W1.raise_ RK (by walk_at "gl!") (by walk_at "kd!") (by decide +kernel) (by rw [fc.k]; decide) rfl)
  rw [if_neg h2]
  walk_at "skip!"
  exact decide_eq_false h2
  exact WS.done (by walk_at "ev!") rfl
end Mine
end
section
namespace Mine
variable {W : Wd}
theorem ten_bits {k : Nat} (hk : k ≤ 1000000) : 10 ^ k < 2 ^ 4000001 := by
  refine Nat.lt_of_le_of_lt (Nat.pow_le_pow_left (show 10 ≤ 2 ^ 4 by decide) k) ?_
  rw [← Nat.pow_mul]
  exact Nat.pow_lt_pow_right (by decide) (by omega)
theorem mul_pow {a : Int} {k : Nat} (ha : a.natAbs < 2 ^ 9000) (hk : k ≤ 1000000) : IntMulOk a (10 ^ k) := by
  refine mul_ok (p := 9000) (q := 4000001) ha ?_ (by decide)
  rw [ten_abs]
  exact ten_bits hk
theorem Sz.small {x : Rl} (h : Sz x) : x.1.natAbs < 2 ^ 9000 := Nat.lt_trans h.1 (Nat.lt_of_le_of_lt (Nat.pow_le_pow_right (by decide) (by decide)) big9)

theorem c_add (hW : W.K = Mine.H W.w.params) {x y : Rl} (hx : Sz x) (hy : Sz y) : CallOK W 1 (.ref 82) [rl x, rl y] (.ok (rl (exactAdd x y))) := by
  refine' callOK_fn (k := 0) [Str.ofString "x", Str.ofString "y"] [(Str.ofString "y", rl y), (Str.ofString "x", rl x)] ?ho ?hcd rfl ?hb ?hxs ?hcell ?hq rfl ?h
  walk_at "def!"
  unfold exactAdd
  by_cases h1 : x.1 = 0
  · rw [if_pos h1]
    walk_at "into!"
    exact decide_eq_true h1
    exact WS.doneS (by walk_at "ev!") rfl
  rw [if_neg h1]
  walk_at "skip!"
  exact decide_eq_false h1
  by_cases h2 : y.1 = 0
  · rw [if_pos h2]
    walk_at "into!"
    exact decide_eq_true h2
    exact WS.doneS (by walk_at "ev!") rfl
  rw [if_neg h2]
  walk_at "skip!"
  exact decide_eq_false h2
  walk_at "set!"
  have b1 := hx.2
  have b2 := hy.2
  have s1 : 0 ≤ x.2 - min x.2 y.2 := by omega
  have s2 : x.2 - min x.2 y.2 ≤ 1000000 := by omega
  have s3 : 0 ≤ y.2 - min x.2 y.2 := by omega
  have s4 : y.2 - min x.2 y.2 ≤ 1000000 := by omega
  have s5 : (10 : Int).natAbs < 2 ^ 64 := by decide
  have m1 : IntMulOk x.1 (10 ^ (x.2 - min x.2 y.2).toNat) := mul_pow hx.small (by omega)
  have m2 : IntMulOk y.1 (10 ^ (y.2 - min x.2 y.2).toNat) := mul_pow hy.small (by omega)
  exact WS.done (by walk_at "ev!") rfl

theorem c_mul (hW : W.K = Mine.H W.w.params) {x y : Rl} (hx : Sz x) (hy : Sz y) : CallOK W 1 (.ref 89) [rl x, rl y] (.ok (rl (exactMul x y))) := by
  refine' callOK_fn (k := 0) [Str.ofString "x", Str.ofString "y"] [(Str.ofString "y", rl y), (Str.ofString "x", rl x)] ?ho ?hcd rfl ?hb ?hxs ?hcell ?hq rfl ?h
  walk_at "def!"
  have m1 : IntMulOk x.1 y.1 := mul_small hx.small hy.small
  unfold exactMul
  exact WS.done (by walk_at "ev!") rfl

theorem c_neg (hW : W.K = Mine.H W.w.params) (x : Rl) : CallOK W 1 (.ref 96) [rl x] (.ok (rl (realNeg x))) := by
  refine' callOK_fn (k := 0) [Str.ofString "x"] [(Str.ofString "x", rl x)] ?ho ?hcd rfl ?hb ?hxs ?hcell ?hq rfl ?h
  walk_at "def!"
  unfold realNeg
  exact WS.done (by walk_at "ev!") rfl

theorem c_quot (hW : W.K = Mine.H W.w.params) {a b e d : Int} (ha : a.natAbs < 10 ^ 2600) (hb : b.natAbs < 10 ^ 2600) (hb0 : b ≠ 0) (hd0 : 0 ≤ d) (hd1 : d ≤ 100) : CallOK W 2 (.ref 103) [.int a, .int b, .int e, .int d] (.ok (rl (quot a b e d))) := by
  have c1 := c_count hW a
  have c2 := c_count hW b
  refine' callOK_fn (k := 1) [Str.ofString "over", Str.ofString "under", Str.ofString "e", Str.ofString "digits"] [(Str.ofString "digits", .int d), (Str.ofString "e", .int e), (Str.ofString "under", .int b), (Str.ofString "over", .int a)] ?ho ?hcd rfl ?hb ?hxs ?hcell ?hq rfl ?h
  walk_at "def!"
  walk_at "set!"
  have e0 : max (d + 2 + (dg b.natAbs : Int) - (dg a.natAbs : Int)) 0 = qShift a b d := rfl
  rw [e0]
  unfold quot
  have g1 := dg_le hb
  have q1 : 0 ≤ qShift a b d := by rw [← e0]; omega
  have q2 : qShift a b d ≤ 1000000 := by rw [← e0]; omega
  have q3 : (10 : Int).natAbs < 2 ^ 64 := by decide
  have big : (10 : Nat) ^ 2600 < 2 ^ 9000 := Nat.lt_of_le_of_lt (Nat.pow_le_pow_right (by decide) (by decide)) big9
  have m1 : IntMulOk (a.natAbs : Int) (10 ^ (qShift a b d).toNat) := mul_pow (by rw [Int.natAbs_natCast]; exact Nat.lt_trans ha big) (by omega)
  have p1 : (0 : Int) < b.natAbs := by clear ha hb; omega
  have p2 : (b.natAbs : Int).natAbs < 2 ^ 9000 := by rw [Int.natAbs_natCast]; exact Nat.lt_trans hb big
  walk_at "set2!"
  generalize hA : (a.natAbs : Int) * 10 ^ (qShift a b d).toNat = A
  dsimp only
  have m2 : IntMulOk 10 (A / (b.natAbs : Int)) := by
    refine mul_ok (p := 4) (q := 4009001) (by decide) ?_ (by decide)
    refine Nat.lt_of_le_of_lt (Int.natAbs_ediv_le_natAbs _ _) ?_
    rw [← hA, Int.natAbs_mul, Int.natAbs_natCast, ten_abs, show 4009001 = 9000 + 4000001 from rfl, Nat.pow_add]
    exact Nat.mul_lt_mul'' (Nat.lt_trans ha big) (ten_bits (by omega))
  walk_at "set!"
  by_cases hs : (decide (a < 0) != decide (b < 0)) = true
  · rw [if_pos hs]
    refine WS.thru [(Str.ofString "m", .int (-(10 * (A / (b.natAbs : Int)) + if A % (b.natAbs : Int) ≠ 0 then 1 else 0))), (Str.ofString "shift", .int (qShift a b d)), (Str.ofString "e", .int e)] (by walk_at "et!") hs ?_ ?_
    · walk_at "set!"
      exact WS.nil (by show Cov _ _; walk_at "cov!")
    · exact WS.done (by walk_at "ev!") rfl
  · rw [if_neg hs]
    walk_at "skip!"
    exact Bool.eq_false_iff.mpr hs
    exact WS.done (by walk_at "ev!") rfl
end Mine
end
section
namespace Mine
variable {W : Wd}
theorem c_rparts (hW : W.K = Mine.H W.w.params) {z : Cx} {d t : Int} (h1 : z.1.1.natAbs < 10 ^ 2600) (h2 : z.2.1.natAbs < 10 ^ 2600) (hd0 : 0 ≤ d) : CallOK W 4 (.ref 113) [cx z, .int d, .int t] (oR cx (roundParts z d t)) := by
  have c1 := c_rreal hW (e := z.1.2) (t := t) h1 hd0
  have c2 := c_rreal hW (e := z.2.2) (t := t) h2 hd0
  refine' callOK_fn (k := 3) [Str.ofString "x", Str.ofString "digits", Str.ofString "top"] [(Str.ofString "top", .int t), (Str.ofString "digits", .int d), (Str.ofString "x", cx z)] ?ho ?hcd rfl ?hb ?hxs ?hcell ?hq rfl ?h
  walk_at "def!"
  apply WS.give
  apply EvE.to
  apply EvE.tuple
  apply EvL.cons
  decide +kernel
  walk_at "ev!"
  apply EvL.cons
  decide +kernel
  walk_at "ev!"
  exact EvL.nil
  decide
  unfold roundParts
  cases roundReal z.1.1 z.1.2 d t with
  | none => rfl
  | some a => cases roundReal z.2.1 z.2.2 d t with
    | none => rfl
    | some b => rfl

/-- the sizes that a product asks -/
structure PrOK (x y : Cx) : Prop where
  x1 : Sz x.1
  x2 : Sz x.2
  y1 : Sz y.1
  y2 : Sz y.2
  p11 : Sz (exactMul x.1 y.1)
  p22 : Sz (exactMul x.2 y.2)
  p12 : Sz (exactMul x.1 y.2)
  p21 : Sz (exactMul x.2 y.1)
theorem Sz.neg {x : Rl} (h : Sz x) : Sz (realNeg x) := ⟨by unfold realNeg; rw [Int.natAbs_neg]; exact h.1, h.2⟩
theorem c_prod (hW : W.K = Mine.H W.w.params) {x y : Cx} (P : PrOK x y) : CallOK W 2 (.ref 141) [cx x, cx y] (.ok (cx (exactProduct x y))) := by
  have c1 := c_mul hW P.x1 P.y1
  have c2 := c_mul hW P.x2 P.y2
  have c3 := c_neg hW (exactMul x.2 y.2)
  have c4 := c_add hW P.p11 P.p22.neg
  have c5 := c_mul hW P.x1 P.y2
  have c6 := c_mul hW P.x2 P.y1
  have c7 := c_add hW P.p12 P.p21
  refine' callOK_fn (k := 1) [Str.ofString "x", Str.ofString "y"] [(Str.ofString "y", cx y), (Str.ofString "x", cx x)] ?ho ?hcd rfl ?hb ?hxs ?hcell ?hq rfl ?h
  walk_at "def!"
  walk_at "set!"
  unfold exactProduct
  exact WS.done (by walk_at "ev!") rfl

structure DivOK (x y : Cx) (d : Int) : Prop where
  y1 : Sz y.1
  y2 : Sz y.2
  q1 : Sz (exactMul y.1 y.1)
  q2 : Sz (exactMul y.2 y.2)
  s : (sizeOf2 y).1.natAbs < 10 ^ 2600
  pr : PrOK x (y.1, realNeg y.2)
  w1 : (exactProduct x (y.1, realNeg y.2)).1.1.natAbs < 10 ^ 2600
  w2 : (exactProduct x (y.1, realNeg y.2)).2.1.natAbs < 10 ^ 2600
  d0 : 0 ≤ d
  d1 : d ≤ 100
  r1 : (quot (exactProduct x (y.1, realNeg y.2)).1.1 (sizeOf2 y).1 ((exactProduct x (y.1, realNeg y.2)).1.2 - (sizeOf2 y).2) d).1.natAbs < 10 ^ 2600
  r2 : (quot (exactProduct x (y.1, realNeg y.2)).2.1 (sizeOf2 y).1 ((exactProduct x (y.1, realNeg y.2)).2.2 - (sizeOf2 y).2) d).1.natAbs < 10 ^ 2600
theorem c_div (hW : W.K = Mine.H W.w.params) {x y : Cx} {d t : Int} (P : DivOK x y d) : CallOK W 5 (.ref 155) [cx x, cx y, .int d, .int t] (oR cx (complexDiv x y d t)) := by
  have RK : RFK W.K := hW ▸ rfk _
  have c1 := c_mul hW P.y1 P.y1
  have c2 := c_mul hW P.y2 P.y2
  have c3 := c_add hW P.q1 P.q2
  have c4 := c_neg hW y.2
  have c5 := c_prod hW P.pr
  refine' callOK_fn (k := 4) [Str.ofString "x", Str.ofString "y", Str.ofString "digits", Str.ofString "top"] [(Str.ofString "top", .int t), (Str.ofString "digits", .int d), (Str.ofString "y", cx y), (Str.ofString "x", cx x)] ?ho ?hcd rfl ?hb ?hxs ?hcell ?hq rfl ?h
  walk_at "def!"
  walk_at "set!"
  unfold complexDiv
  have e : exactAdd (exactMul y.1 y.1) (exactMul y.2 y.2) = sizeOf2 y := rfl
  rw [e]
  dsimp only
  by_cases h0 : (sizeOf2 y).1 = 0
  · rw [if_pos h0]
    walk_at "into!"
    exact decide_eq_true h0
    exact WS.end1 (W1.raise_ RK (by walk_at "gl!") (by walk_at "kd!") (by decide +kernel) (by rw [fc.k]; decide) rfl)
  rw [if_neg h0]
  walk_at "skip!"
  exact decide_eq_false h0
  walk_at "set!"
  have c6 := c_quot hW (e := (exactProduct x (y.1, realNeg y.2)).1.2 - (sizeOf2 y).2) P.w1 P.s h0 P.d0 P.d1
  have c7 := c_quot hW (e := (exactProduct x (y.1, realNeg y.2)).2.2 - (sizeOf2 y).2) P.w2 P.s h0 P.d0 P.d1
  have c8 := c_rparts hW (z := (quot (exactProduct x (y.1, realNeg y.2)).1.1 (sizeOf2 y).1 ((exactProduct x (y.1, realNeg y.2)).1.2 - (sizeOf2 y).2) d, quot (exactProduct x (y.1, realNeg y.2)).2.1 (sizeOf2 y).1 ((exactProduct x (y.1, realNeg y.2)).2.2 - (sizeOf2 y).2) d)) (t := t) P.r1 P.r2 P.d0
  walk_at "set!"
  walk_at "set!"
  exact WS.give (by walk_at "ev!")

structure GpOK (x y : Cx) : Prop where
  pr : PrOK x y
  w1 : (exactProduct x y).1.1.natAbs < 10 ^ 2600
  w2 : (exactProduct x y).2.1.natAbs < 10 ^ 2600
theorem c_gp (hW : W.K = Mine.H W.w.params) {x y : Cx} {d : Int} (P : GpOK x y) (hd0 : 0 ≤ d) : CallOK W 3 (.ref 162) [cx x, cx y, .int d] (.ok (cx (guardedProduct x y d))) := by
  have c1 := c_prod hW P.pr
  have c2 := c_rdig hW (e := (exactProduct x y).1.2) (d := d + 8) P.w1 (by omega)
  have c3 := c_rdig hW (e := (exactProduct x y).2.2) (d := d + 8) P.w2 (by omega)
  refine' callOK_fn (k := 2) [Str.ofString "x", Str.ofString "y", Str.ofString "digits"] [(Str.ofString "digits", .int d), (Str.ofString "y", cx y), (Str.ofString "x", cx x)] ?ho ?hcd rfl ?hb ?hxs ?hcell ?hq rfl ?h
  walk_at "def!"
  walk_at "set!"
  walk_at "set!"
  unfold guardedProduct
  exact WS.done (by walk_at "ev!") rfl
end Mine
end
section
namespace Mine
variable {W : Wd}
/-- the sizes that the powering asks -/
def RaOK (d : Int) (f x : Cx) (n : Nat) : Prop := if h : n = 0 then True else
  (n % 2 = 1 → GpOK f x) ∧ GpOK x x ∧ RaOK d (if n % 2 = 1 then guardedProduct f x d else f) (guardedProduct x x d) (n / 2)
decreasing_by omega
theorem c_raised (hW : W.K = Mine.H W.w.params) {x : Cx} {n : Nat} {d : Int} (hn : 16 < n) (P : RaOK d one x n) (hd0 : 0 ≤ d) : CallOK W 4 (.ref 169) [cx x, .int n, .int d] (.ok (cx (raised x n d))) := by
  refine' callOK_fn (k := 3) [Str.ofString "x", Str.ofString "n", Str.ofString "digits"] [(Str.ofString "digits", .int d), (Str.ofString "n", .int n), (Str.ofString "x", cx x)] ?ho ?hcd rfl ?hb ?hxs ?hcell ?hq rfl ?h
  walk_at "def!"
  apply WS.one
  apply W1.set
  exact ev_one hW (by walk_at "kd!")
  decide +kernel
  walk_at "st!"
  exact rfl
  walk_at "skip!"
  exact decide_eq_false (by omega)
  let L : Cx × Cx × Nat → Sg := fun a => [(Str.ofString "found", cx a.1), (Str.ofString "x", cx a.2.1), (Str.ofString "n", .int a.2.2), (Str.ofString "digits", .int d)]
  refine WS.cons (R := fun τ => ∃ a : Cx × Cx × Nat, a.1 = raised x n d ∧ τ = L a) (W1.loop L (fun a => RaOK d a.1 a.2.1 a.2.2 ∧ raisedW d a.1 a.2.1 a.2.2 = raised x n d) (fun a => decide ((a.2.2 : Int) > 0)) (·.2.2) (fun a _ => ?_) (fun a hI hb => ?_) (fun a hI hb => ?_) (one, x, n) ⟨P, rfl⟩ ?_) ?_
  · dsimp only [L]; walk_at "et!"
  · obtain ⟨f, y, k⟩ := a
    dsimp only at hI hb ⊢
    have h9 : 0 < k := Int.ofNat_lt.mp (of_decide_eq_true hb)
    have hk : k ≠ 0 := Nat.ne_of_gt h9
    obtain ⟨hR, hE⟩ := hI
    rw [RaOK, dif_neg hk] at hR
    rw [raisedW, dif_neg hk] at hE
    obtain ⟨r1, r2, r3⟩ := hR
    have c2 := c_gp hW r2 hd0
    refine WS.thenSub (τ := [(Str.ofString "found", cx (if k % 2 = 1 then guardedProduct f y d else f)), (Str.ofString "x", cx y), (Str.ofString "n", .int k), (Str.ofString "digits", .int d)]) ?_ ?_
    · by_cases hc : k % 2 = 1
      · rw [if_pos hc]
        have c1 := c_gp hW (r1 hc) hd0
        apply W1.iteT
        dsimp only [L]; walk_at "et!"
        exact decide_eq_true (by omega)
        walk_at "set!"
        exact WS.nil (by show Cov _ _; walk_at "cov!")
      · rw [if_neg hc]
        apply W1.iteF
        dsimp only [L]; walk_at "et!"
        exact decide_eq_false (by omega)
        exact WS.nil (by show Cov _ _; dsimp only [L]; walk_at "cov!")
    · walk_at "set!"
      walk_at "adiv!"
      exact WS.nil ⟨(_, _, k / 2), ⟨r3, hE⟩, Nat.div_lt_self h9 (by decide), by dsimp only [L]; walk_at "cov!"⟩
  · obtain ⟨f, y, k⟩ := a
    have h9 : k = 0 := Nat.eq_zero_of_not_pos fun h => of_decide_eq_false hb (Int.ofNat_lt.mpr h)
    subst h9
    refine ⟨_, ?_, rfl⟩
    have := hI.2
    rw [raisedW, dif_pos rfl] at this
    exact this
  · walk_at "cov!"
  rintro _ ⟨a, ha, rfl⟩
  exact WS.done (by dsimp only [L]; walk_at "ev!") (by rw [ha])

structure PowOK (x : Cx) (n d : Int) : Prop where
  hn : 16 < n.natAbs
  d0 : 0 ≤ d
  ra : RaOK d one x n.natAbs
  dv : n < 0 → DivOK one (raised x n.natAbs d) d
  r1 : (raised x n.natAbs d).1.1.natAbs < 10 ^ 2600
  r2 : (raised x n.natAbs d).2.1.natAbs < 10 ^ 2600
theorem c_power (hW : W.K = Mine.H W.w.params) {x : Cx} {n d t : Int} (P : PowOK x n d) : CallOK W 6 (.ref 176) [cx x, .int n, .int d, .int t] (oR cx (complexPower x n d t)) := by
  have c1 := c_raised hW P.hn P.ra P.d0
  refine' callOK_fn (k := 5) [Str.ofString "x", Str.ofString "n", Str.ofString "digits", Str.ofString "top"] [(Str.ofString "top", .int t), (Str.ofString "digits", .int d), (Str.ofString "n", .int n), (Str.ofString "x", cx x)] ?ho ?hcd rfl ?hb ?hxs ?hcell ?hq rfl ?h
  walk_at "def!"
  walk_at "set!"
  unfold complexPower
  by_cases h0 : n < 0
  · rw [if_pos h0]
    have c2 := c_div hW (t := t) (P.dv h0)
    walk_at "into!"
    exact decide_eq_true h0
    refine WS.end1 (W1.ret (r := oR cx (complexDiv one (raised x n.natAbs d) d t)) ?_ (by cases complexDiv one (raised x n.natAbs d) d t <;> rfl))
    apply EvE.call
    walk_at "gl!"; walk_at "gl!"; exact rfl; walk_at "kd!"; decide +kernel; decide +kernel
    apply EvL.ok; decide +kernel
    exact ev_one hW (by walk_at "kd!")
    walk_at "el!"
    exact c2
    rw [fc.k]; decide
  rw [if_neg h0]
  have c3 := c_rparts hW (t := t) P.r1 P.r2 P.d0
  walk_at "skip!"
  exact decide_eq_false h0
  exact WS.give (by walk_at "ev!")

theorem str_is {c : Fm} {σ : Sg} {l r : Expr} {pos : Pos} {a b : Str} (hl : EvE W c σ l (.ok (.str a))) (hr : EvE W c σ r (.ok (.str b))) : EvT W c σ (.Compare l [.Eq] [r] pos) (a == b) :=
  EvT.cmp hl hr (fun s u v Q E _ d₁ d₂ q => by
    obtain ⟨t, rfl⟩ := str_inv d₁
    obtain ⟨t', rfl⟩ := str_inv d₂
    exact PySem.P.eq_str (by rw [SeqAt.str_beq]; exact q s.heap s.toks (Gr.refl _ _))) (marks_eq r)
theorem c_binary (hW : W.K = Mine.H W.w.params) {x : Cx} {n kd d t : Int} (P : PowOK x n d) : CallOK W 7 (.ref 183) [.str (Str.ofString "powi"), .int kd, cx x, .int n, .lim d t] (oR cx (complexPower x n d t)) := by
  have c1 := c_power hW (t := t) P
  have g1 : GetK W.K (Str.ofString "real_digits") := hW ▸ getk1 _
  have g2 : GetK W.K (Str.ofString "top_exponent") := hW ▸ getk2 _
  refine' callOK_fn (k := 6) [Str.ofString "op", Str.ofString "kind", Str.ofString "x", Str.ofString "y", Str.ofString "limits"] [(Str.ofString "limits", .lim d t), (Str.ofString "y", .int n), (Str.ofString "x", cx x), (Str.ofString "kind", .int kd), (Str.ofString "op", .str (Str.ofString "powi"))] ?ho ?hcd rfl ?hb ?hxs ?hcell ?hq rfl ?h
  walk_at "def!"
  have hk : 1 < c.k := by rw [fc.k]; decide
  apply WS.one
  apply W1.set
  exact EvE.attr (d := d) (t := t) (r := d) g1 (by walk_at "ev!") (.inl ⟨rfl, rfl⟩)
  decide +kernel
  walk_at "st!"
  exact rfl
  apply WS.one
  apply W1.set
  exact EvE.attr (d := d) (t := t) (r := t) g2 (by walk_at "ev!") (.inr ⟨rfl, rfl⟩)
  decide +kernel
  walk_at "st!"
  exact rfl
  iterate 4
    apply WS.skip
    apply str_is
    walk_at "ev!"
    exact EvE.str
    decide +kernel
  apply WS.into
  apply str_is
  walk_at "ev!"
  exact EvE.str
  decide +kernel
  refine WS.end1 (W1.ret (r := oR cx (complexPower x n d t)) (by walk_at "ev!") (by cases complexPower x n d t <;> rfl))
end Mine
end
section
namespace Mine
variable {W : Wd}
theorem slen (m : Nat) : (Str.ofString (toString (m : Int))).length = if m = 0 then 1 else dg m := by
  have e : (Str.ofString (toString (m : Int))).length = (Nat.toDigits 10 m).length := by
    show (Str.ofString (toString (m : Int))).cps.size = _
    rw [← Array.length_toList, KIN.signs_num, List.length_map]
  rw [e]
  clear e
  induction m using Nat.strongRecOn with
  | ind m ih =>
    by_cases h : m < 10
    · rw [Nat.toDigits_of_lt_base h]
      by_cases h0 : m = 0
      · rw [if_pos h0]; rfl
      · rw [if_neg h0, dg_succ h0, Nat.div_eq_of_lt h, dg_zero]; rfl
    · have hm : m % 10 < 10 := Nat.mod_lt m (by decide)
      have t : Nat.toDigits 10 (m / 10) ++ Nat.toDigits 10 (m % 10) = Nat.toDigits 10 (10 * (m / 10) + m % 10) := Nat.toDigits_append_toDigits (by decide) (by omega) hm
      rw [Nat.div_add_mod] at t
      rw [← t, List.length_append, ih (m / 10) (by omega), Nat.toDigits_of_lt_base hm, if_neg (by omega), if_neg (by omega), dg_succ (n := m) (by omega)]
      rfl

theorem c_at (hW : W.K = Mine.H W.w.params) {ns : List Int} {p : Nat} (hn : ns.length ≤ 1000) (hp : p ≤ 1000) : CallOK W 1 (.ref 212) [.lst (ns.map D.int), .int p] (.ok (.int (lawAt ns p))) := by
  refine' callOK_fn (k := 0) [Str.ofString "nums", Str.ofString "place"] [(Str.ofString "place", .int p), (Str.ofString "nums", .lst (ns.map D.int))] ?ho ?hcd rfl ?hb ?hxs ?hcell ?hq rfl ?h
  walk_at "def!"
  have l1 : ((ns.map D.int).length : Int) < 2 ^ 62 := by rw [List.length_map]; omega
  unfold lawAt
  cases hg : ns[p]? with
  | some v =>
    have hlt := (List.getElem?_eq_some_iff.mp hg).1
    have e1 : (ns.map D.int)[((p : Nat) : Int).toNat]? = some (.int v) := by rw [Int.toNat_natCast, List.getElem?_map, hg]; rfl
    have s0 : (0 : Int) ≤ (p : Int) := Int.natCast_nonneg p
    have s1 : (p : Int) < 1000000 := by omega
    have s2 : (0 : Int) ≤ 9 := by decide
    have s3 : (9 : Int) ≤ 1000000 := by decide
    have s4 : (10 : Int).natAbs < 2 ^ 64 := by decide
    have s5 : (0 : Int) < 10 ^ (9 : Int).toNat := by decide
    apply WS.done
    apply EvE.ifT
    walk_at "et!"
    exact decide_eq_true (by rw [List.length_map]; exact Int.ofNat_lt.mpr hlt)
    walk_at "ev!"
    rfl
  | none =>
    have hge := List.getElem?_eq_none_iff.mp hg
    have m1 : IntMulOk 7 (p : Int) := mul_small (by decide +kernel) (by rw [Int.natAbs_natCast]; exact Nat.lt_of_le_of_lt hp (by decide +kernel))
    apply WS.done
    apply EvE.ifF
    walk_at "et!"
    exact decide_eq_false (by rw [List.length_map]; omega)
    walk_at "ev!"
    rfl

theorem c_decimal (hW : W.K = Mine.H W.w.params) (m p : Int) : CallOK W 1 (.ref 219) [.int m, .int p] (.ok (rl (strip m (-p)))) := by
  refine' callOK_fn (k := 0) [Str.ofString "m", Str.ofString "places"] [(Str.ofString "places", .int p), (Str.ofString "m", .int m)] ?ho ?hcd rfl ?hb ?hxs ?hcell ?hq rfl ?h
  walk_at "def!"
  walk_at "set!"
  let L : Rl → Sg := fun a => [(Str.ofString "e", .int a.2), (Str.ofString "m", .int a.1)]
  refine WS.cons (R := fun τ => τ = L (stripW m (-p))) (W1.loop L (fun a => stripW a.1 a.2 = stripW m (-p)) (fun a => decide (a.1 ≠ 0 ∧ a.1 % 10 = 0)) (·.1.natAbs) (fun a _ => ?_) (fun a hI hb => ?_) (fun a hI hb => ?_) (m, -p) rfl ?_) ?_
  · dsimp only [L]; walk_at "et!"
  · have h10 := of_decide_eq_true hb
    walk_at "set!"
    walk_at "aadd!"
    refine WS.nil ⟨(a.1 / 10, a.2 + 1), ?_, ?_, ?_⟩
    · rw [← hI, stripW.eq_def a.1, dif_pos h10]
    · dsimp only; omega
    · walk_at "cov!"
  · have h10 := of_decide_eq_false hb
    show _ = _
    rw [← hI, stripW.eq_def a.1, dif_neg h10]
  · walk_at "cov!"
  rintro _ rfl
  unfold strip
  have key : (stripW m (-p)).1 = 0 ↔ m = 0 := strip_zero _ _
  dsimp only [L]
  by_cases h0 : m = 0
  · rw [if_pos h0]
    apply WS.done
    apply EvE.ifF
    walk_at "et!"
    exact decide_eq_false (fun h => h (key.mpr h0))
    walk_at "ev!"
    rfl
  · rw [if_neg h0]
    apply WS.done
    apply EvE.ifT
    walk_at "et!"
    exact decide_eq_true (fun h => h0 (key.mp h))
    walk_at "ev!"
    rfl

theorem c_lead (hW : W.K = Mine.H W.w.params) {a b : Int} (ha : a.natAbs < 10 ^ 2600) (hb : b.natAbs < 10 ^ 2600) (ha0 : a ≠ 0) (hb0 : 0 < b) : CallOK W 1 (.ref 233) [.int a, .int b] (.ok (.int (lawLead a b))) := by
  refine' callOK_fn (k := 0) [Str.ofString "num", Str.ofString "den"] [(Str.ofString "den", .int b), (Str.ofString "num", .int a)] ?ho ?hcd rfl ?hb ?hxs ?hcell ?hq rfl ?h
  walk_at "def!"
  have big : (10 : Nat) ^ 2600 < 2 ^ 9000 := Nat.lt_of_le_of_lt (Nat.pow_le_pow_right (by decide) (by decide)) big9
  have b43 : (10 : Nat) ^ 2600 < 10 ^ 4300 := Nat.pow_lt_pow_right (by decide) (by decide)
  have l1 : (a.natAbs : Int).natAbs < 10 ^ 4300 := by rw [Int.natAbs_natCast]; exact Nat.lt_trans ha b43
  have l2 : b.natAbs < 10 ^ 4300 := Nat.lt_trans hb b43
  obtain ⟨n, rfl⟩ := Int.eq_ofNat_of_zero_le (Int.le_of_lt hb0)
  have e1 : (Str.ofString (toString (a.natAbs : Int))).length = dg a.natAbs := by rw [slen, if_neg (by clear ha; omega)]
  have e2 : (Str.ofString (toString (n : Int))).length = dg n := by rw [slen, if_neg (by clear hb; omega)]
  have g1 := dg_le ha
  have g2 := dg_le hb
  rw [Int.natAbs_natCast] at g2
  have l3 : ((Str.ofString (toString (a.natAbs : Int))).length : Int) < 2 ^ 62 := by rw [e1]; omega
  have l4 : ((Str.ofString (toString (n : Int))).length : Int) < 2 ^ 62 := by rw [e2]; omega
  walk_at "set!"
  rw [e1, e2]
  unfold lawLead
  rw [Int.natAbs_natCast]
  dsimp only
  generalize hl : (dg a.natAbs : Int) - dg n = l
  have s1 : 0 ≤ max 0 (-l) := by omega
  have s2 : max 0 (-l) ≤ 1000000 := by omega
  have s3 : 0 ≤ max 0 l := by omega
  have s4 : max 0 l ≤ 1000000 := by omega
  have s5 : (10 : Int).natAbs < 2 ^ 64 := by decide
  have m1 : IntMulOk (a.natAbs : Int) (10 ^ (max 0 (-l)).toNat) := mul_pow (by rw [Int.natAbs_natCast]; exact Nat.lt_trans ha big) (by omega)
  have m2 : IntMulOk (n : Int) (10 ^ (max 0 l).toNat) := mul_pow (Nat.lt_trans hb big) (by omega)
  by_cases hc : (a.natAbs : Int) * 10 ^ (max 0 (-l)).toNat < n * 10 ^ (max 0 l).toNat
  · rw [if_pos hc]
    refine WS.thru [(Str.ofString "lead", .int (l - 1))] (by walk_at "et!") (decide_eq_true hc) ?_ ?_
    · walk_at "asub!"
      exact WS.nil (by show Cov _ _; walk_at "cov!")
    · exact WS.done (by walk_at "ev!") rfl
  · rw [if_neg hc]
    walk_at "skip!"
    exact decide_eq_false hc
    exact WS.done (by walk_at "ev!") rfl
end Mine
end
section
namespace Mine
variable {W : Wd}
theorem swapped_const {env : Env} {x y : Str} {p1 p2 tp p : Pos} {k k2 : Nat} {vs : List Expr} (hf : vs.all (foldedForSure 8) = true) : swappedStores [.Tuple [.Name x p1, .Name y p2] k tp] (.Tuple vs k2 p) env = pure none := by
  unfold swappedStores
  dsimp only
  rw [hf]
  split
  · rfl
  · split
    · rfl
    · split
      · rfl
      · rfl
theorem swapped_two {env : Env} {x y : Str} {p1 p2 tp p q1 q2 : Pos} {k k2 : Nat} {l1 l2 r1 r2 : Expr} {o1 o2 : Operator} (hb : env.scope.kind = .function) (hx : env.kindOf x = some .local) (hy : env.kindOf y = some .local) (hl : (p2.line == p1.line) = true) (hne : (y == x) = false)
    (hf : [Expr.BinOp l1 o1 r1 q1, .BinOp l2 o2 r2 q2].all (foldedForSure 8) = false) (hc : [Expr.BinOp l1 o1 r1 q1, .BinOp l2 o2 r2 q2].all (constantsAlone 8) = false) :
    swappedStores [.Tuple [.Name x p1, .Name y p2] k tp] (.Tuple [.BinOp l1 o1 r1 q1, .BinOp l2 o2 r2 q2] k2 p) env = pure (some [x, y]) := by
  have hbk : env.blockKind = .function := by unfold Env.blockKind; rw [hb]; rfl
  have e1 : (([Expr.Name x p1, Expr.Name y p2].head?.map (·.pos.line)).getD 0) = p1.line := rfl
  have he : [x, y].eraseDups = [x, y] := by simp [List.eraseDups_cons, hne]
  unfold swappedStores
  dsimp only
  rw [hf, hc]
  simp only [List.filterMap_cons, List.filterMap_nil, e1, hx, hy, hl, beq_self_eq_true, Bool.and_true, if_true, hbk, he]
  rfl
theorem c_lpower (hW : W.K = Mine.H W.w.params) {a b : Int} {n : Nat} (hn : n ≤ 1000) (ha : a.natAbs < 2 ^ 9000) (hb : b.natAbs < 2 ^ 9000) (hp : ∀ j, j < n → (lawPower a b j).1.natAbs < 2 ^ 9000 ∧ (lawPower a b j).2.natAbs < 2 ^ 9000) :
    CallOK W 1 (.ref 247) [.int a, .int b, .int n] (.ok (rl (lawPower a b n))) := by
  refine' callOK_fn (k := 0) [Str.ofString "a", Str.ofString "b", Str.ofString "n"] [(Str.ofString "n", .int n), (Str.ofString "b", .int b), (Str.ofString "a", .int a)] ?ho ?hcd rfl ?hb ?hxs ?hcell ?hq rfl ?h
  walk_at "def!"
  apply WS.one
  apply W1.assign2
  walk_at "ev!"
  decide +kernel
  exact swapped_const (by decide +kernel)
  walk_at "st!"
  walk_at "st!"
  exact rfl
  let L : Rl → Sg := fun z => [(Str.ofString "x", .int z.1), (Str.ofString "y", .int z.2), (Str.ofString "b", .int b), (Str.ofString "a", .int a)]
  refine WS.thenSub (τ := L (lawPower a b n)) (W1.turns (n := n) (by walk_at "ev!") (by decide +kernel) (by walk_at "gl!") (by walk_at "kd!") (by walk_at "st!") (by omega) L (lawPower a b) ?_ (fun j hj => ?_) (fun τ h => by rw [Int.toNat_natCast] at h; exact h)) ?_
  · dsimp only [L]; walk_at "cov!"
  · rw [Int.toNat_natCast] at hj
    obtain ⟨h1, h2⟩ := hp j hj
    have m1 := mul_small h1 ha
    have m2 := mul_small h2 hb
    have m3 := mul_small h1 hb
    have m4 := mul_small h2 ha
    dsimp only [L]
    apply WS.one
    apply W1.assign2s
    walk_at "ev!"
    decide +kernel
    apply swapped_two
    exact (congrArg Scope.kind fc.sc).trans rfl
    walk_at "kd!"
    walk_at "kd!"
    decide +kernel
    decide +kernel
    decide +kernel
    decide +kernel
    walk_at "st!"
    walk_at "st!"
    exact rfl
    exact WS.nil (by show Cov _ _; walk_at "cov!")
  · exact WS.done (by dsimp only [L]; walk_at "ev!") rfl
end Mine
end
section
namespace Mine
variable {W : Wd}
structure NearOK (p : Rl) (num den size d : Int) : Prop where
  p : Sz p
  n : num.natAbs < 10 ^ 2600
  dn : den.natAbs < 10 ^ 2600
  s : size.natAbs < 10 ^ 2600
  s0 : size ≠ 0
  dn0 : 0 < den
  d0 : 0 ≤ d
  d1 : d ≤ 100
theorem c_near (hW : W.K = Mine.H W.w.params) {p : Rl} {num den size d : Int} (P : NearOK p num den size d) : CallOK W 2 (.ref 240) [rl p, .int num, .int den, .int size, .int d] (.ok (.bool (lawNearB p num den size d))) := by
  have c1 := c_lead hW P.s P.dn P.s0 P.dn0
  have big : (10 : Nat) ^ 2600 < 2 ^ 9000 := Nat.lt_of_le_of_lt (Nat.pow_le_pow_right (by decide) (by decide)) big9
  have b1 := lawLead_le (dg_le P.s) (dg_le P.dn)
  have b2 := lawLead_le (dg_le P.n) (dg_le P.dn)
  refine' callOK_fn (k := 1) [Str.ofString "pair", Str.ofString "num", Str.ofString "den", Str.ofString "size", Str.ofString "digits"] [(Str.ofString "digits", .int d), (Str.ofString "size", .int size), (Str.ofString "den", .int den), (Str.ofString "num", .int num), (Str.ofString "pair", rl p)] ?ho ?hcd rfl ?hb ?hxs ?hcell ?hq rfl ?h
  walk_at "def!"
  walk_at "set!"
  have e1 : lawLead size den - d - 4 = lawNearby size den d := rfl
  rw [e1]
  refine WS.thenSub (τ := [(Str.ofString "unit", .int (lawUnit num den size d)), (Str.ofString "nearby", .int (lawNearby size den d)), (Str.ofString "digits", .int d), (Str.ofString "size", .int size), (Str.ofString "den", .int den), (Str.ofString "num", .int num), (Str.ofString "pair", rl p)]) ?_ ?_
  · unfold lawUnit
    apply W1.set
    apply EvE.ifD
    walk_at "et!"
    · intro h
      have c2 := c_lead hW P.n P.dn h P.dn0
      walk_at "ev!"
    · intro _
      walk_at "ev!"
    decide +kernel
    walk_at "st!"
    show Cov _ _
    walk_at "cov!"
  walk_at "set!"
  have e2 : min (min (min p.2 (lawNearby size den d)) (lawUnit num den size d)) 0 = lawLow p num den size d := rfl
  rw [e2]
  have b3 : -3000 ≤ lawNearby size den d ∧ lawNearby size den d ≤ 3000 := by have := P.d0; have := P.d1; rw [← e1]; omega
  have b4 : -3000 ≤ lawUnit num den size d ∧ lawUnit num den size d ≤ 3000 := by
    have := P.d0; have := P.d1
    unfold lawUnit
    split <;> omega
  have b5 := P.p.2
  have s1 : 0 ≤ p.2 - lawLow p num den size d := by rw [← e2]; omega
  have s2 : p.2 - lawLow p num den size d ≤ 1000000 := by rw [← e2]; omega
  have s3 : 0 ≤ -lawLow p num den size d := by rw [← e2]; omega
  have s4 : -lawLow p num den size d ≤ 1000000 := by rw [← e2]; omega
  have s5 : (10 : Int).natAbs < 2 ^ 64 := by decide
  have s6 : 0 ≤ lawNearby size den d - lawLow p num den size d := by rw [← e2]; omega
  have s7 : lawNearby size den d - lawLow p num den size d ≤ 1000000 := by rw [← e2]; omega
  have s8 : 0 ≤ lawUnit num den size d - lawLow p num den size d := by rw [← e2]; omega
  have s9 : lawUnit num den size d - lawLow p num den size d ≤ 1000000 := by rw [← e2]; omega
  generalize hlow : lawLow p num den size d = low at s1 s2 s3 s4 s6 s7 s8 s9 ⊢
  have m1 : IntMulOk p.1 (10 ^ (p.2 - low).toNat) := mul_pow P.p.small (by clear b5; omega)
  have m2 : IntMulOk (p.1 * 10 ^ (p.2 - low).toNat) den := by
    refine mul_ok (p := 4009001) (q := 9000) ?_ (Nat.lt_trans P.dn big) (by decide)
    rw [Int.natAbs_mul, ten_abs, show 4009001 = 9000 + 4000001 from rfl, Nat.pow_add]
    exact Nat.mul_lt_mul'' P.p.small (ten_bits (by clear b5; omega))
  have m3 : IntMulOk num (10 ^ (-low).toNat) := mul_pow (Nat.lt_trans P.n big) (by clear b5; omega)
  have m4 : IntMulOk den (10 ^ (lawNearby size den d - low).toNat + if num ≠ 0 then 10 ^ (lawUnit num den size d - low).toNat else 0) := by
    refine mul_ok (p := 9000) (q := 4000002) (Nat.lt_trans P.dn big) ?_ (by decide)
    have t1 : ((10 : Int) ^ (lawNearby size den d - low).toNat).natAbs < 2 ^ 4000001 := by rw [ten_abs]; exact ten_bits (by clear b5; omega)
    have t2 : (if num ≠ 0 then (10 : Int) ^ (lawUnit num den size d - low).toNat else 0).natAbs < 2 ^ 4000001 := by
      split
      · rw [ten_abs]; exact ten_bits (by clear b5; omega)
      · exact Nat.two_pow_pos _
    rw [show 4000002 = 4000001 + 1 from rfl, Nat.pow_succ, Nat.mul_two]
    exact Nat.lt_of_le_of_lt (Int.natAbs_add_le _ _) (Nat.add_lt_add t1 t2)
  walk_at "set!"
  apply WS.done
  walk_at "ev!"
  unfold lawNearB
  rw [hlow]

theorem tupEq {c : Fm} {σ : Sg} {l r : Expr} {pos : Pos} {p q : Rl} (hl : EvE W c σ l (.ok (rl p))) (hr : EvE W c σ r (.ok (rl q))) (hk : 1 < c.k) : EvT W c σ (.Compare l [.Eq] [r] pos) (decide (p = q)) := by
  have sh : ∀ x : Rl, SeqAt.shaped (rl x).py = true := fun x => by simp [SeqAt.shaped, PyData.canLay0, PyData.canLayAll0, PyData.depth, PyData.depthAll, D.py, D.pys]
  have h := EvT.cmp (pos := pos) hl hr (CmpOK.eqD (by simp [D.flat, D.flats]) (by simp [D.flat, D.flats]) (sh p) (sh q) hk) (marks_eq r)
  refine h.to ?_
  obtain ⟨a, b⟩ := p
  obtain ⟨a', b'⟩ := q
  simp only [D.py, D.pys, PyData.eqv, PyData.eqvAll, Bool.and_true, beqD, ← Bool.decide_and, Prod.mk.injEq]
theorem c_part (hW : W.K = Mine.H W.w.params) {p : Rl} {num den size d t : Int} (P : NearOK p num den size d) : CallOK W 4 (.ref 254) [rl p, .int num, .int den, .int size, .int d, .int t] (.ok (.bool (lawPartB p num den size d t))) := by
  have c1 := c_near hW P
  refine' callOK_fn (k := 3) [Str.ofString "pair", Str.ofString "num", Str.ofString "den", Str.ofString "size", Str.ofString "digits", Str.ofString "top"] [(Str.ofString "top", .int t), (Str.ofString "digits", .int d), (Str.ofString "size", .int size), (Str.ofString "den", .int den), (Str.ofString "num", .int num), (Str.ofString "pair", rl p)] ?ho ?hcd rfl ?hb ?hxs ?hcell ?hq rfl ?h
  walk_at "def!"
  unfold lawPartB
  have ht : ∀ {e1 e2 e3 e4 e5 : Expr} {p1 p2 p3 : Pos}, True := fun {e1 e2 e3 e4 e5 p1 p2 p3} => trivial
  by_cases hc : p = (0, 0) ∧ (num = 0 ∨ lawLead num den < -t)
  · rw [decide_eq_true hc, Bool.true_or]
    apply WS.into
    · apply EvT.andD
      · refine tupEq (p := p) (q := (0, 0)) (by walk_at "ev!") (by walk_at "ev!") (by rw [fc.k]; decide)
      · intro _
        apply EvT.orD
        walk_at "et!"
        intro h0
        have c2 := c_lead hW P.n P.dn h0 P.dn0
        walk_at "et!"
    · exact decide_eq_true hc
    · exact WS.doneS (by walk_at "ev!") rfl
  · rw [decide_eq_false hc, Bool.false_or]
    apply WS.skip
    · apply EvT.andD
      · refine tupEq (p := p) (q := (0, 0)) (by walk_at "ev!") (by walk_at "ev!") (by rw [fc.k]; decide)
      · intro _
        apply EvT.orD
        walk_at "et!"
        intro h0
        have c2 := c_lead hW P.n P.dn h0 P.dn0
        walk_at "et!"
    · exact decide_eq_false hc
    · exact WS.give (by walk_at "ev!")
end Mine
end
section
namespace Mine
variable {W : Wd}
theorem kts (P : Params) : ktsIn (Mine.H P) RF "BaseException" = true := by kernel_rfl
def heardD (o : Option Cx) : D := .lst (match o with | some z => [cx z] | none => [])
theorem heard_body {c : Fm} {σ : Sg} {y : Str} {p1 pl pos : Pos} {e : Expr} {o : Option Cx} {P : Out → Prop} (he : EvE W c σ e (oR cx o)) (hs : notStar e = true) (hy : Stores c y) (h1 : P (.next ((y, heardD o) :: σ))) (h2 : o = none → P (.raise σ)) : WS W c σ [.Assign [.Name y p1] (.List [e] pl) pos] P := by
  have hl := EvE.list (pos := pl) (EvL.cons hs he EvL.nil) (show 1 ≤ 1000 by decide)
  cases o with
  | some z => exact WS.one (W1.set hl rfl hy rfl) (WS.nil h1)
  | none => exact WS.end1 (W1.assign hl rfl hy (h2 rfl))
theorem heard_eq (o : Option Cx) : PyData.eqv (heardD o).py (heardD o).py = true := by
  unfold heardD
  cases o <;> simp [D.py, D.pys, PyData.eqv, PyData.eqvAll]
theorem heard_flat (o : Option Cx) : (heardD o).flat = true := by
  unfold heardD
  cases o <;> simp [D.flat, D.flats]
theorem heard_shaped (o : Option Cx) : SeqAt.shaped (heardD o).py = true := by
  unfold heardD
  cases o <;> simp [SeqAt.shaped, PyData.canLay0, PyData.canLayAll0, PyData.depth, PyData.depthAll, D.py, D.pys]
theorem c_heard (hW : W.K = Mine.H W.w.params) {x : Cx} {n d t : Int} (P : PowOK x n d) : CallOK W 9 (.ref 226) [cx x, .int n, .int d, .int t] (.ok (heardD (complexPower x n d t))) := by
  have c1 := c_power hW (t := t) P
  have c2 := c_binary hW (kd := 3) (t := t) P
  have LK : LimK W.K := hW ▸ limk _
  have hR : ktsIn W.K RF "BaseException" = true := hW ▸ kts _
  refine' callOK_fn (k := 8) [Str.ofString "x", Str.ofString "n", Str.ofString "digits", Str.ofString "top"] [(Str.ofString "top", .int t), (Str.ofString "digits", .int d), (Str.ofString "n", .int n), (Str.ofString "x", cx x)] ?ho ?hcd rfl ?hb ?hxs ?hcell ?hq rfl ?h
  walk_at "def!"
  have hk : 1 < c.k := by rw [fc.k]; decide
  refine WS.thenSub (τ := [(Str.ofString "found", heardD (complexPower x n d t)), (Str.ofString "top", .int t), (Str.ofString "digits", .int d), (Str.ofString "n", .int n), (Str.ofString "x", cx x)]) ?_ ?_
  · apply W1.try_
    walk_at "gl!"
    walk_at "kd!"
    decide +kernel
    exact hR
    exact fc.top
    exact fc.fr
    walk_at "st!"
    apply heard_body (o := complexPower x n d t)
    walk_at "ev!"
    decide +kernel
    walk_at "st!"
    · show Cov _ _
      walk_at "cov!"
    · intro h
      show Cov _ _
      rw [h]
      exact cov_cons lk_hd (by walk_at "cov!")
  refine WS.thenSub (τ := [(Str.ofString "other", heardD (complexPower x n d t)), (Str.ofString "found", heardD (complexPower x n d t))]) ?_ ?_
  · apply W1.try_
    walk_at "gl!"
    walk_at "kd!"
    decide +kernel
    exact hR
    exact fc.top
    exact fc.fr
    walk_at "st!"
    apply heard_body (o := complexPower x n d t)
    · apply EvE.call
      walk_at "gl!"; walk_at "gl!"; exact rfl; walk_at "kd!"; decide +kernel; decide +kernel
      apply EvL.ok; decide +kernel; walk_at "ev!"
      apply EvL.ok; decide +kernel; walk_at "ev!"
      apply EvL.ok; decide +kernel; walk_at "ev!"
      apply EvL.ok; decide +kernel; walk_at "ev!"
      apply EvL.ok; decide +kernel
      apply EvE.limits LK
      walk_at "gl!"; walk_at "kd!"; decide +kernel; decide +kernel
      walk_at "el!"
      exact hk
      exact EvL.nil
      exact c2
      rw [fc.k]; decide
    decide +kernel
    walk_at "st!"
    · show Cov _ _
      walk_at "cov!"
    · intro h
      show Cov _ _
      rw [h]
      exact cov_cons lk_hd (by walk_at "cov!")
  apply WS.done
  apply EvE.ifT
  apply EvT.cmp
  walk_at "ev!"
  walk_at "ev!"
  exact CmpOK.eqD (heard_flat _) (heard_flat _) (heard_shaped _) (heard_shaped _) hk
  decide +kernel
  exact heard_eq _
  walk_at "ev!"
  rfl
end Mine
end
section
namespace Mine
variable {W : Wd}
def bodyOf (K : Frag) (a : Addr) : List Stmt := match K.lookup a with
  | some ⟨_, _, .func fd, _⟩ => (match fd.body with | .stmts b => b | _ => [])
  | _ => []
theorem bodyOf_eq {K : Frag} {a : Addr} {oc : Value} {od : Option Addr} {osl : Array (Option Value)} {name qual : Str} {params : Arguments} {body : List Stmt} {scope : Scope} {dV kV doc pm cdv ct : Value} {an : Option Addr}
    (h : K.lookup a = some ⟨oc, od, .func (fnOf name qual params body scope dV kV doc pm an cdv ct), osl⟩) : bodyOf K a = body := by unfold bodyOf; rw [h]
theorem WS.body {c : Fm} {σ : Sg} {P : Out → Prop} {K : Frag} {a : Addr} {oc : Value} {od : Option Addr} {osl : Array (Option Value)} {name qual : Str} {params : Arguments} {body : List Stmt} {scope : Scope} {dV kV doc pm cdv ct : Value} {an : Option Addr}
    (h : K.lookup a = some ⟨oc, od, .func (fnOf name qual params body scope dV kV doc pm an cdv ct), osl⟩) (k : WS W c σ body P) : WS W c σ (bodyOf K a) P := (bodyOf_eq h).symm ▸ k
@[irreducible] def restOf (K : Frag) (a n : Nat) : List Stmt := (bodyOf K a).drop n
theorem WS.bodyTo {c : Fm} {σ τ : Sg} {P : Out → Prop} {K : Frag} {a : Nat} (m n : Nat) {oc : Value} {od : Option Addr} {osl : Array (Option Value)} {name qual : Str} {params : Arguments} {body : List Stmt} {scope : Scope} {dV kV doc pm cdv ct : Value} {an : Option Addr}
    (h : K.lookup a = some ⟨oc, od, .func (fnOf name qual params body scope dV kV doc pm an cdv ct), osl⟩) (hr : WS W c τ (restOf K a n) P) (k : WS W c τ (body.drop n) P → WS W c σ (body.drop m) P) : WS W c σ (restOf K a m) P := by
  unfold restOf at hr ⊢
  rw [bodyOf_eq h] at hr ⊢
  exact k hr
theorem WS.keepE {c : Fm} {σ τ : Sg} {P : Out → Prop} {l l' : List Stmt} (e : l = l') (h : WS W c τ l P) (hc : Cov τ σ) : WS W c σ l' P := e ▸ WS.keep hc h
theorem WS.start {c : Fm} {σ : Sg} {P : Out → Prop} {K : Frag} {a : Nat} (m : Nat) {oc : Value} {od : Option Addr} {osl : Array (Option Value)} {name qual : Str} {params : Arguments} {body l : List Stmt} {scope : Scope} {dV kV doc pm cdv ct : Value} {an : Option Addr}
    (h : K.lookup a = some ⟨oc, od, .func (fnOf name qual params body scope dV kV doc pm an cdv ct), osl⟩) (e : body.drop m = l) (k : WS W c σ l P) : WS W c σ (restOf K a m) P := by
  unfold restOf
  rw [bodyOf_eq h, e]
  exact k
theorem WS.tail {c : Fm} {σ τ : Sg} {P : Out → Prop} {K : Frag} {a n : Nat} {oc : Value} {od : Option Addr} {osl : Array (Option Value)} {name qual : Str} {params : Arguments} {body l : List Stmt} {scope : Scope} {dV kV doc pm cdv ct : Value} {an : Option Addr}
    (hr : WS W c τ (restOf K a n) P) (h : K.lookup a = some ⟨oc, od, .func (fnOf name qual params body scope dV kV doc pm an cdv ct), osl⟩) (e : body.drop n = l) (hc : Cov τ σ) : WS W c σ l P := by
  unfold restOf at hr
  rw [bodyOf_eq h, e] at hr
  exact WS.keep hc hr
abbrev lN (s : String) : Str × NameKind := (Str.ofString s, .local)
abbrev cN (s : String) : Str × NameKind := (Str.ofString s, .cell)
abbrev gN (s : String) : Str × NameKind := (Str.ofString s, .globalImplicit)
def lawNames : List (Str × NameKind) := [lN "script", lN "nums", cN "digits", cN "top", lN "n", lN "places", lN "a", lN "b", lN "way", cN "got", lN "unit", lN "told", lN "due", lN "x", lN "y", lN "ten", cN "parts", cN "den", lN "leads", cN "size",
  gN "_law_at", gN "_law_heard", gN "_law_decimal", gN "_law_power", gN "abs", gN "range"]
theorem four_pos (k : Nat) : (0 : Int) < 4 * 10 ^ k - 1 := by
  have h := ten_pos k
  generalize (10 : Int) ^ k = f at h ⊢
  omega
/-- the frame of law -/
structure FrL (c : Fm) : Prop where
  sc : c.env.scope.names = lawNames
  k : c.k = 20
  cl : ∀ y, lawNames.lookup y = some .cell → ∃ a, c.env.cells.lookup y = some a
/-- what the plain law gives -/
structure LawF (q : Par) : Prop where
  pw : PowOK q.x q.n q.d
  dd : 0 ≤ q.d ∧ q.d ≤ 100
  un : ∀ u ∈ units, PowOK u.1 q.n q.d
  ur : ∀ u ∈ units, ∃ due, u.2[(q.n % 4).toNat]? = some due ∧ complexPower u.1 q.n q.d q.t = some ((due.1, 0), (due.2, 0))
  zero : q.a = 0 ∧ q.b = 0 → q.got = if q.n < 0 then none else some ((0, 0), (0, 0))
  lp : ∀ j, j < q.n.natAbs → (lawPower q.a q.b j).1.natAbs < 2 ^ 9000 ∧ (lawPower q.a q.b j).2.natAbs < 2 ^ 9000
  s0 : q.P0.natAbs < 10 ^ 2600
  s1 : q.P1.natAbs < 10 ^ 2600
  sd : q.den.natAbs < 10 ^ 2600
  sz : q.size.natAbs < 10 ^ 2600
  ab : q.a.natAbs < 2 ^ 9000 ∧ q.b.natAbs < 2 ^ 9000
  nn : q.n.natAbs ≤ 1000
  pn : 0 ≤ q.p * q.n.natAbs ∧ q.p * q.n.natAbs ≤ 1000000
  pp : q.p.natAbs < 2 ^ 9000
  xs : q.xy.1.natAbs < 2 ^ 9000 ∧ q.xy.2.natAbs < 2 ^ 9000 ∧ q.ten.natAbs < 2 ^ 9000
  den : ¬ (q.a = 0 ∧ q.b = 0) → 0 < q.den
  over : ¬ (q.a = 0 ∧ q.b = 0) → q.edge = [] → q.over ≠ [] → q.got = none
  near : ¬ (q.a = 0 ∧ q.b = 0) → q.edge = [] → q.over = [] → ∃ z, q.got = some z ∧ Sz z.1 ∧ Sz z.2 ∧ q.size ≠ 0 ∧ lawPartB z.1 q.P0 q.den q.size q.d q.t = true ∧ lawPartB z.2 q.P1 q.den q.size q.d q.t = true
def unitD (u : Cx × List Rl) : D := .tup [cx u.1, .lst (u.2.map rl)]
def extU (d : D) (τ : Sg) : Sg := match d with
  | .tup [u, tl] => (Str.ofString "told", tl) :: (Str.ofString "unit", u) :: τ
  | _ => τ
theorem unit_of {j : Nat} {d : D} (h : (units.map unitD)[j]? = some d) : ∃ u ∈ units, d = unitD u := by
  have hm := List.mem_of_getElem? h
  obtain ⟨u, hu, rfl⟩ := List.mem_map.mp hm
  exact ⟨u, hu, rfl⟩
theorem cx_ne (z : Cx) : (!PyData.eqv (D.lst [cx z]).py (D.lst [.tup [.tup [.int z.1.1, .int z.1.2], .tup [.int z.2.1, .int z.2.2]]]).py) = false := by
  simp [D.py, D.pys, PyData.eqv, PyData.eqvAll]
theorem cx_flat (z : Cx) : (D.lst [cx z]).flat = true := by simp [D.flat, D.flats]
theorem cx_shaped (z : Cx) : SeqAt.shaped (D.lst [cx z]).py = true := by
  simp [SeqAt.shaped, PyData.canLay0, PyData.canLayAll0, PyData.depth, PyData.depthAll, D.py, D.pys]
abbrev sgA (q : Par) : Sg := [(Str.ofString "got", heardD q.got), (Str.ofString "b", .int q.b), (Str.ofString "a", .int q.a), (Str.ofString "places", .int q.p), (Str.ofString "n", .int q.n), (Str.ofString "top", .int q.t), (Str.ofString "digits", .int q.d)]
theorem law_a (hW : W.K = Mine.H W.w.params) {c : Fm} (fc : FrL c) {ns : List Int} (hn : ns.length ≤ 63) (F : LawF (parOf (ns.take 8))) {P : Out → Prop}
    (hr : WS W c (sgA (parOf (ns.take 8))) (restOf (Mine.H W.w.params) 259 12) P) :
    WS W c [(Str.ofString "script", .lst (ns.map D.int))] (restOf (Mine.H W.w.params) 259 0) P := by
  refine' WS.start 0 ?ho (List.drop_zero ..) ?h
  case ho => k_is
  conv => arg 4; whnf
  have hl8 : (ns.take 8).length ≤ 1000 := by rw [List.length_take]; omega
  have c0 : CallOK W 1 (.ref 212) [.lst ((ns.take 8).map D.int), .int 0] (.ok (.int (lawAt (ns.take 8) 0))) := c_at hW (p := 0) hl8 (by decide)
  have c1 : CallOK W 1 (.ref 212) [.lst ((ns.take 8).map D.int), .int 1] (.ok (.int (lawAt (ns.take 8) 1))) := c_at hW (p := 1) hl8 (by decide)
  have c2 : CallOK W 1 (.ref 212) [.lst ((ns.take 8).map D.int), .int 2] (.ok (.int (lawAt (ns.take 8) 2))) := c_at hW (p := 2) hl8 (by decide)
  have c3 : CallOK W 1 (.ref 212) [.lst ((ns.take 8).map D.int), .int 3] (.ok (.int (lawAt (ns.take 8) 3))) := c_at hW (p := 3) hl8 (by decide)
  have c4 : CallOK W 1 (.ref 212) [.lst ((ns.take 8).map D.int), .int 4] (.ok (.int (lawAt (ns.take 8) 4))) := c_at hW (p := 4) hl8 (by decide)
  have c5 : CallOK W 1 (.ref 212) [.lst ((ns.take 8).map D.int), .int 5] (.ok (.int (lawAt (ns.take 8) 5))) := c_at hW (p := 5) hl8 (by decide)
  apply WS.one
  apply W1.set
  apply EvE.to
  apply EvE.upto (k := 8) (ds := ns.map D.int)
  walk_at "ev!"
  rw [List.length_map]; omega
  exact fun _ _ => rfl
  exact congrArg (fun x => R.ok (.lst x)) (List.map_take ..).symm
  decide +kernel
  walk_at "st!"
  exact rfl
  walk_at "set!"
  walk_at "set!"
  walk_at "set!"
  walk_at "set!"
  walk_at "set!"
  have hd0 := Int.emod_nonneg (lawAt (ns.take 8) 0) (show (7 : Int) ≠ 0 by decide)
  have hd1 := Int.emod_lt_of_pos (lawAt (ns.take 8) 0) (show (0 : Int) < 7 by decide)
  have s1 : 0 ≤ 1 + lawAt (ns.take 8) 0 % 7 - 1 := by omega
  have s2 : 1 + lawAt (ns.take 8) 0 % 7 - 1 ≤ 1000000 := by omega
  have s3 : (10 : Int).natAbs < 2 ^ 64 := by decide
  have m1 : IntMulOk 4 (10 ^ (1 + lawAt (ns.take 8) 0 % 7 - 1).toNat) := mul_pow (by decide +kernel) (by omega)
  have m2 : IntMulOk 2 (10 ^ (1 + lawAt (ns.take 8) 0 % 7 - 1).toNat) := mul_pow (by decide +kernel) (by omega)
  have s4 : (0 : Int) < 4 * 10 ^ (1 + lawAt (ns.take 8) 0 % 7 - 1).toNat - 1 := four_pos _
  walk_at "set!"
  walk_at "set!"
  walk_at "set!"
  walk_at "set!"
  walk_at "set!"
  refine WS.keep (τ := [(Str.ofString "b", .int (parOf (ns.take 8)).b), (Str.ofString "a", .int (parOf (ns.take 8)).a), (Str.ofString "places", .int (parOf (ns.take 8)).p), (Str.ofString "n", .int (parOf (ns.take 8)).n), (Str.ofString "top", .int (parOf (ns.take 8)).t), (Str.ofString "digits", .int (parOf (ns.take 8)).d)]) (by walk_at "cov!") ?_
  clear hd0 hd1 s1 s2 m1 m2 s4 c0 c1 c2 c3 c4 c5 hl8
  generalize parOf (ns.take 8) = q at F hr ⊢
  have c6 : CallOK W 9 (.ref 226) [.tup [rl (strip q.a (-q.p)), rl (strip q.b (-q.p))], .int q.n, .int q.d, .int q.t] (.ok (heardD q.got)) := c_heard hW F.pw
  have c7 := c_decimal hW q.a q.p
  have c8 := c_decimal hW q.b q.p
  walk_at "set!"
  with_reducible refine' WS.tail hr ?hoT ?heT ?hvT
  case hoT => k_is
  case heT => kernel_rfl
  case hvT => walk_at "cov!"
end Mine
end
section
namespace Mine
variable {W : Wd}
theorem ev_pp {c : Fm} {σ : Sg} {a b : Int} {ka kb k : Nat} {pa pb  pos : Pos} : EvE W c σ (.Tuple [(.Constant (.int a) ka pa), (.Constant (.int b) kb pb)] k pos) (.ok (rl (a, b))) := EvE.tup (EvL.ok rfl EvE.int (EvL.ok rfl EvE.int EvL.nil)) (Nat.le_of_ble_eq_true rfl)
theorem ev_np {c : Fm} {σ : Sg} {a b : Int} {ka kb k : Nat} {pa pb qa pos : Pos} : EvE W c σ (.Tuple [(.UnaryOp .USub (.Constant (.int a) ka pa) qa), (.Constant (.int b) kb pb)] k pos) (.ok (rl (-a, b))) := EvE.tup (EvL.ok rfl (EvE.neg EvE.int) (EvL.ok rfl EvE.int EvL.nil)) (Nat.le_of_ble_eq_true rfl)
theorem ev_pn {c : Fm} {σ : Sg} {a b : Int} {ka kb k : Nat} {pa pb qb pos : Pos} : EvE W c σ (.Tuple [(.Constant (.int a) ka pa), (.UnaryOp .USub (.Constant (.int b) kb pb) qb)] k pos) (.ok (rl (a, -b))) := EvE.tup (EvL.ok rfl EvE.int (EvL.ok rfl (EvE.neg EvE.int) EvL.nil)) (Nat.le_of_ble_eq_true rfl)
theorem ev_tt {c : Fm} {σ : Sg} {l m : List Expr} {k kl km : Nat} {pl pm pos : Pos} {a b : D} (h1 : EvE W c σ (.Tuple l kl pl) (.ok a)) (h2 : EvE W c σ (.Tuple m km pm) (.ok b)) : EvE W c σ (.Tuple [.Tuple l kl pl, .Tuple m km pm] k pos) (.ok (.tup [a, b])) :=
  EvE.tup (EvL.ok rfl h1 (EvL.ok rfl h2 EvL.nil)) (Nat.le_of_ble_eq_true rfl)
theorem ev_tb {c : Fm} {σ : Sg} {l : List Expr} {x y : Expr} {o : Operator} {k kl : Nat} {pl pm pos : Pos} {a b : D} (h1 : EvE W c σ (.Tuple l kl pl) (.ok a)) (h2 : EvE W c σ (.BinOp x o y pm) (.ok b)) : EvE W c σ (.Tuple [.Tuple l kl pl, .BinOp x o y pm] k pos) (.ok (.tup [a, b])) :=
  EvE.tup (EvL.ok rfl h1 (EvL.ok rfl h2 EvL.nil)) (Nat.le_of_ble_eq_true rfl)
theorem ev_tl {c : Fm} {σ : Sg} {l m : List Expr} {k kl : Nat} {pl pm pos : Pos} {a b : D} (h1 : EvE W c σ (.Tuple l kl pl) (.ok a)) (h2 : EvE W c σ (.List m pm) (.ok b)) : EvE W c σ (.Tuple [.Tuple l kl pl, .List m pm] k pos) (.ok (.tup [a, b])) :=
  EvE.tup (EvL.ok rfl h1 (EvL.ok rfl h2 EvL.nil)) (Nat.le_of_ble_eq_true rfl)
theorem ev_rep1 {c : Fm} {σ : Sg} {l : List Expr} {kl kc k : Nat} {pt pl pc pos : Pos} {d : D} (h : EvE W c σ (.Tuple l kl pt) (.ok d)) {z : Int} (hz : z = k) (hk : k ≤ 100) : EvE W c σ (.BinOp (.List [.Tuple l kl pt] pl) .Mult (.Constant (.int z) kc pc) pos) (.ok (.lst (List.replicate k [d]).flatten)) :=
  hz ▸ EvE.rep (EvL.ok rfl h EvL.nil) (Nat.le_of_ble_eq_true rfl) hk rfl
theorem ev_rep2 {c : Fm} {σ : Sg} {l m : List Expr} {kl km kc k : Nat} {pt pt' pl pc pos : Pos} {d d' : D} (h : EvE W c σ (.Tuple l kl pt) (.ok d)) (h' : EvE W c σ (.Tuple m km pt') (.ok d')) {z : Int} (hz : z = k) (hk : k ≤ 100) : EvE W c σ (.BinOp (.List [.Tuple l kl pt, .Tuple m km pt'] pl) .Mult (.Constant (.int z) kc pc) pos) (.ok (.lst (List.replicate k [d, d']).flatten)) :=
  hz ▸ EvE.rep (EvL.ok rfl h (EvL.ok rfl h' EvL.nil)) (Nat.le_of_ble_eq_true rfl) hk rfl
theorem ev_list4 {c : Fm} {σ : Sg} {l1 l2 l3 l4 : List Expr} {k1 k2 k3 k4 : Nat} {p1 p2 p3 p4 pos : Pos} {a1 a2 a3 a4 : D} (h1 : EvE W c σ (.Tuple l1 k1 p1) (.ok a1)) (h2 : EvE W c σ (.Tuple l2 k2 p2) (.ok a2)) (h3 : EvE W c σ (.Tuple l3 k3 p3) (.ok a3)) (h4 : EvE W c σ (.Tuple l4 k4 p4) (.ok a4)) : EvE W c σ (.List [.Tuple l1 k1 p1, .Tuple l2 k2 p2, .Tuple l3 k3 p3, .Tuple l4 k4 p4] pos) (.ok (.lst [a1, a2, a3, a4])) :=
  EvE.lst (EvL.ok rfl h1 (EvL.ok rfl h2 (EvL.ok rfl h3 (EvL.ok rfl h4 EvL.nil)))) (Nat.le_of_ble_eq_true rfl)
theorem ev_list3 {c : Fm} {σ : Sg} {l1 l2 l3 : List Expr} {k1 k2 k3 : Nat} {p1 p2 p3 pos : Pos} {a1 a2 a3 : D} (h1 : EvE W c σ (.Tuple l1 k1 p1) (.ok a1)) (h2 : EvE W c σ (.Tuple l2 k2 p2) (.ok a2)) (h3 : EvE W c σ (.Tuple l3 k3 p3) (.ok a3)) : EvE W c σ (.List [.Tuple l1 k1 p1, .Tuple l2 k2 p2, .Tuple l3 k3 p3] pos) (.ok (.lst [a1, a2, a3])) :=
  EvE.lst (EvL.ok rfl h1 (EvL.ok rfl h2 (EvL.ok rfl h3 EvL.nil))) (Nat.le_of_ble_eq_true rfl)
theorem le100 : 4 ≤ 100 ∧ 2 ≤ 100 := by decide
theorem four_eq : (4 : Int) = ((4 : Nat) : Int) := rfl
theorem two_eq : (2 : Int) = ((2 : Nat) : Int) := rfl
theorem law_b (hW : W.K = Mine.H W.w.params) {c : Fm} (fc : FrL c) {q : Par} (F : LawF q) {P : Out → Prop} (hP : ∀ d, P (.ret d) ↔ d = .bool true)
    (hr : WS W c (sgA q) (restOf (Mine.H W.w.params) 259 13) P) : WS W c (sgA q) (restOf (Mine.H W.w.params) 259 12) P := by
  refine' WS.start 12 ?hoB ?heB ?hB
  case hoB => k_is
  case heB => conv => lhs; arg 2; whnf
  simp only [List.drop_succ_cons, List.drop_zero]
  have hk : 1 < c.k := by rw [fc.k]; decide
  with_reducible refine' WS.thenSub (τ := sgA q) ?hF ?hT
  case hT =>
    with_reducible refine' WS.tail hr ?hoT ?heT ?hvT
    case hoT => k_is
    case heT => exact rfl
    case hvT => exact fun _ _ e => e
  clear hr hP
  with_reducible refine' W1.forList (ds := units.map unitD) ?fi ?fs ?fgo extU ?fasg (fun _ => Cov (sgA q)) ?f0 ?fb ?fe
  case fi =>
    with_reducible refine' EvE.to (r := .ok ?dd) ?e1 ?e2
    case e1 => with_reducible exact ev_list3 (ev_tb (ev_tt ev_pp ev_pp) (ev_rep1 ev_pp four_eq le100.1)) (ev_tb (ev_tt ev_np ev_pp) (ev_rep2 ev_pp ev_np two_eq le100.2)) (ev_tl (ev_tt ev_pp ev_pp) (ev_list4 ev_pp ev_pp ev_np ev_pn))
    case e2 => exact rfl
  case fs =>
    decide +kernel
  case fgo =>
    exact go_tuple
  case fasg =>
    exact fun τ v j d s' Q E hd iv di k => by
      obtain ⟨u, hu, rfl⟩ := unit_of hd
      exact assign_two (σ := τ) (by walk_at "st!") (by walk_at "st!") iv di k
  case f0 =>
    exact (fun _ _ e => e : Cov (sgA q) (sgA q))
  case fb =>
    intro j d τ hd hJ
    obtain ⟨u, hu, rfl⟩ := unit_of hd
    obtain ⟨due, hdue, hpow⟩ := F.ur u hu
    have cH : CallOK W 9 (.ref 226) [cx u.1, .int q.n, .int q.d, .int q.t] (.ok (.lst [cx ((due.1, 0), (due.2, 0))])) := by
      have h := c_heard hW (t := q.t) (F.un u hu)
      rw [hpow] at h
      exact h
    have hget : (u.2.map rl)[(q.n % 4).toNat]? = some (rl due) := by rw [List.getElem?_map, hdue]; rfl
    have h4 : (0 : Int) ≤ q.n % 4 := by omega
    have h5 : q.n % 4 < 1000000 := by omega
    refine WS.keep (τ := (Str.ofString "told", .lst (u.2.map rl)) :: (Str.ofString "unit", cx u.1) :: sgA q) (cov_push (cov_push hJ)) ?_
    clear hJ hd
    walk_at "set!"
    with_reducible apply WS.skip
    · with_reducible apply EvT.cmp
      walk_at "ev!"
      walk_at "ev!"
      exact CmpOK.neD (cx_flat _) (by simp [D.flat, D.flats]) (cx_shaped _) (cx_shaped ((due.1, 0), (due.2, 0))) hk
      decide +kernel
    · exact cx_ne _
    · refine WS.nil ?_
      show Cov _ _
      walk_at "cov!"
  case fe =>
    exact fun τ h => h
end Mine
end
section
namespace Mine
variable {W : Wd}
theorem ev_and0 {c : Fm} {σ : Sg} {x y : Str} {p1 p2 p3 p4 p5 p6 pos : Pos} {k1 k2 : Nat} {a b : Int} (h1 : σ.lookup x = some (.int a)) (h2 : σ.lookup y = some (.int b)) (d1 : (x == ("__debug__" : Str)) = false) (d2 : (y == ("__debug__" : Str)) = false) :
    EvT W c σ (.BoolOp .And [.Compare (.Name x p1) [.Eq] [.Constant (.int 0) k1 p2] p3, .Compare (.Name y p4) [.Eq] [.Constant (.int 0) k2 p5] p6] pos) (decide (a = 0 ∧ b = 0)) :=
  EvT.andD (EvT.eqD (EvE.var h1 d1) EvE.int) fun _ => EvT.eqD (EvE.var h2 d2) EvE.int
theorem law_c (hW : W.K = Mine.H W.w.params) {c : Fm} (fc : FrL c) {q : Par} (F : LawF q)
    (hr : ¬ (q.a = 0 ∧ q.b = 0) → WS W c (sgA q) (restOf (Mine.H W.w.params) 259 14) (EndP (.ok (.bool true)))) : WS W c (sgA q) (restOf (Mine.H W.w.params) 259 13) (EndP (.ok (.bool true))) := by
  have hk : 1 < c.k := by rw [fc.k]; decide
  refine' WS.start 13 ?hoB ?heB ?hB
  case hoB => k_is
  case heB => conv => lhs; arg 2; whnf
  simp only [List.drop_succ_cons, List.drop_zero]
  by_cases hz : q.a = 0 ∧ q.b = 0
  · clear hr
    with_reducible refine' WS.into (ev_and0 ?l1 ?l2 ?l3 ?l4) (decide_eq_true hz) ?h2
    case l1 => walk_at "lk!"
    case l2 => walk_at "lk!"
    case l3 => decide +kernel
    case l4 => decide +kernel
    case h2 =>
      have hg := F.zero hz
      with_reducible refine' WS.doneS (d := .bool true) ?h3 rfl
      by_cases hn : q.n < 0
      · rw [if_pos hn] at hg
        have hl : (sgA q).lookup (Str.ofString "got") = some (heardD q.got) := lk_hd
        rw [hg] at hl
        with_reducible refine' EvE.to (r := .ok (.bool (PyData.eqv (heardD none).py (heardD none).py))) ?h4 ?h5
        case h5 => exact congrArg (fun b => R.ok (.bool b)) (heard_eq none)
        with_reducible refine' EvE.cmp ?c1 (EvE.ifT ?c2 ?c3 ?c4) (CmpOK.eqD (heard_flat _) (heard_flat _) (heard_shaped _) (heard_shaped _) hk) ?c5
        case c1 => exact EvE.var hl (by decide +kernel)
        case c2 => walk_at "et!"
        case c3 => exact decide_eq_true hn
        case c4 => exact EvE.lst EvL.nil (Nat.zero_le _)
        case c5 => decide +kernel
      · rw [if_neg hn] at hg
        have hl : (sgA q).lookup (Str.ofString "got") = some (heardD q.got) := lk_hd
        rw [hg] at hl
        with_reducible refine' EvE.to (r := .ok (.bool (PyData.eqv (heardD (some ((0, 0), (0, 0)))).py (heardD (some ((0, 0), (0, 0)))).py))) ?h6 ?h7
        case h7 => exact congrArg (fun b => R.ok (.bool b)) (heard_eq _)
        with_reducible refine' EvE.cmp ?d1 (EvE.ifF ?d2 ?d3 ?d4) (CmpOK.eqD (heard_flat _) (heard_flat _) (heard_shaped _) (heard_shaped _) hk) ?d5
        case d1 => exact EvE.var hl (by decide +kernel)
        case d2 => walk_at "et!"
        case d3 => exact decide_eq_false hn
        case d4 => exact EvE.lst (EvL.ok rfl (ev_tt ev_pp ev_pp) EvL.nil) (Nat.le_of_ble_eq_true rfl)
        case d5 => decide +kernel
  · have hr' := hr hz
    with_reducible refine' WS.skip (ev_and0 ?m1 ?m2 ?m3 ?m4) (decide_eq_false hz) ?g2
    case m1 => walk_at "lk!"
    case m2 => walk_at "lk!"
    case m3 => decide +kernel
    case m4 => decide +kernel
    case g2 =>
      with_reducible refine' WS.tail hr' ?hoT ?heT ?hvT
      case hoT => k_is
      case heT => exact rfl
      case hvT => exact fun _ _ e => e
end Mine
end
section
namespace Mine
variable {W : Wd}
theorem swapped_cell {env : Env} {x y : Str} {p1 p2 tp p : Pos} {k k2 : Nat} {e1 e2 : Expr} (hx : env.kindOf x = some .cell) : swappedStores [.Tuple [.Name x p1, .Name y p2] k tp] (.Tuple [e1, e2] k2 p) env = pure none := by
  have h1 : ((some NameKind.cell == some NameKind.local) : Bool) = false := by decide
  unfold swappedStores
  dsimp only
  split
  · rfl
  · split
    · rfl
    · rw [if_pos]
      · simp only [List.filterMap_cons, List.filterMap_nil, hx, h1, Bool.false_and, Bool.false_eq_true, if_false]
        split <;> rfl
abbrev sgC (q : Par) : Sg := [(Str.ofString "den", .int q.den), (Str.ofString "parts", .lst [.int q.P0, .int q.P1]), (Str.ofString "got", heardD q.got), (Str.ofString "top", .int q.t), (Str.ofString "digits", .int q.d)]
theorem law_d (hW : W.K = Mine.H W.w.params) {c : Fm} (fc : FrL c) {q : Par} (F : LawF q) {P : Out → Prop}
    (hr : WS W c (sgC q) (restOf (Mine.H W.w.params) 259 17) P) : WS W c (sgA q) (restOf (Mine.H W.w.params) 259 14) P := by
  have hk : 1 < c.k := by rw [fc.k]; decide
  refine' WS.start 14 ?hoB ?heB ?hB
  case hoB => k_is
  case heB => conv => lhs; arg 2; whnf
  simp only [List.drop_succ_cons, List.drop_zero]
  have cP : CallOK W 1 (.ref 247) [.int q.a, .int q.b, .int (q.n.natAbs : Int)] (.ok (rl q.xy)) := c_lpower hW F.nn F.ab.1 F.ab.2 F.lp
  have nn : ((q.n.natAbs : Int)).natAbs < 2 ^ 9000 := by
    rw [Int.natAbs_natCast]
    exact Nat.lt_of_le_of_lt F.nn (by decide +kernel)
  have m1 : IntMulOk q.p (q.n.natAbs : Int) := mul_small F.pp nn
  have s1 := F.pn.1
  have s2 := F.pn.2
  have s3 : (10 : Int).natAbs < 2 ^ 64 := by decide
  have ny : (-q.xy.2).natAbs < 2 ^ 9000 := by rw [Int.natAbs_neg]; exact F.xs.2.1
  have m2 : IntMulOk q.xy.1 q.ten := mul_small F.xs.1 F.xs.2.2
  have m3 : IntMulOk (-q.xy.2) q.ten := mul_small ny F.xs.2.2
  have m4 : IntMulOk q.xy.1 q.xy.1 := mul_small F.xs.1 F.xs.1
  have m5 : IntMulOk q.xy.2 q.xy.2 := mul_small F.xs.2.1 F.xs.2.1
  clear nn ny
  walk_at "set2!"
  walk_at "set!"
  have e1 : (10 : Int) ^ (q.p * (q.n.natAbs : Int)).toNat = q.ten := rfl
  rw [e1]
  refine WS.keep (τ := [(Str.ofString "ten", .int q.ten), (Str.ofString "y", .int q.xy.2), (Str.ofString "x", .int q.xy.1), (Str.ofString "n", .int q.n), (Str.ofString "got", heardD q.got), (Str.ofString "top", .int q.t), (Str.ofString "digits", .int q.d)]) (by walk_at "cov!") ?_
  with_reducible refine' WS.thenSub (τ := sgC q) ?hF ?hT
  case hT =>
    with_reducible refine' WS.tail hr ?hoT ?heT ?hvT
    case hoT => k_is
    case heT => exact rfl
    case hvT => exact fun _ _ e => e
  clear hr e1 m1 s1 s2 s3 cP
  by_cases hn : q.n > 0
  · have e1 : q.P0 = q.xy.1 := if_pos hn
    have e2 : q.P1 = q.xy.2 := if_pos hn
    have e3 : q.den = q.ten := if_pos hn
    unfold sgC
    rw [e1, e2, e3]
    with_reducible refine' W1.iteT ?a1 ?a2 ?a3
    case a1 => walk_at "et!"
    case a2 => exact decide_eq_true hn
    case a3 =>
      apply WS.one
      apply W1.assign2
      walk_at "ev!"
      decide +kernel
      exact swapped_cell (by walk_at "kd!")
      walk_at "st!"
      walk_at "st!"
      exact rfl
      refine WS.nil ?_
      show Cov _ _
      walk_at "cov!"
  · have e1 : q.P0 = q.xy.1 * q.ten := if_neg hn
    have e2 : q.P1 = -q.xy.2 * q.ten := if_neg hn
    have e3 : q.den = q.xy.1 * q.xy.1 + q.xy.2 * q.xy.2 := if_neg hn
    unfold sgC
    rw [e1, e2, e3]
    with_reducible refine' W1.iteF ?b1 ?b2 ?b3
    case b1 => walk_at "et!"
    case b2 => exact decide_eq_false hn
    case b3 =>
      apply WS.one
      apply W1.assign2
      walk_at "ev!"
      decide +kernel
      exact swapped_cell (by walk_at "kd!")
      walk_at "st!"
      walk_at "st!"
      exact rfl
      refine WS.nil ?_
      show Cov _ _
      walk_at "cov!"
end Mine
end
section
namespace Mine
variable {W : Wd}
def compB (l : List (Str × NameKind)) (x : Str) : Bool :=
  l.all (fun y => y.2 != .cell) && l.all (fun y => y.2 != .local || l.lookup y.1 == some .local) && (l.lookup x == some .local) && (frees l).all (fun y => lawNames.lookup y == some .cell && (relab l).lookup y == some .cell) && decide ((frees l).Pairwise (· ≠ ·))
theorem FrL.comp {c : Fm} (fc : FrL c) {scope : Scope} {σ σf : Sg} {x : Str} (hk : scope.kind = .function) (hb : compB scope.names x = true) (hs : ∀ y d, σf.lookup y = some d → σ.lookup y = some d ∧ y ∈ frees scope.names) : CompOK c scope σ σf x := by
  simp only [compB, Bool.and_eq_true, List.all_eq_true, decide_eq_true_eq, bne_iff_ne, Bool.or_eq_true, beq_iff_eq] at hb
  obtain ⟨⟨⟨⟨h1, h2⟩, h3⟩, h4⟩, h5⟩ := hb
  refine ⟨hk, h1, fun y hy e => (h2 y hy).resolve_left fun z => z e, h3, fun y hy => ⟨?_, fc.cl y (h4 y hy).1⟩, h5, fun y hy => (h4 y hy).2, hs⟩
  unfold Env.kindOf
  rw [fc.sc]
  exact (h4 y hy).1
theorem cs_nil {σ : Sg} {l : List Str} : ∀ y d, ([] : Sg).lookup y = some d → σ.lookup y = some d ∧ y ∈ l := fun _ _ h => by simp at h
theorem cs_cons {σ τ : Sg} {l : List Str} {x : Str} {d : D} (h : σ.lookup x = some d) (hm : l.contains x = true) (t : ∀ y d, τ.lookup y = some d → σ.lookup y = some d ∧ y ∈ l) : ∀ y e, ((x, d) :: τ : Sg).lookup y = some e → σ.lookup y = some e ∧ y ∈ l := fun y e q => by
  rcases lookup_cons_eq q with ⟨rfl, rfl⟩ | ⟨_, q⟩
  · exact ⟨h, List.contains_iff_mem.mp hm⟩
  · exact t y e q
def nonZ : D → Bool
  | .int v => decide (v ≠ 0)
  | _ => false
def leadD (den : Int) : D → D
  | .int v => .int (lawLead v den)
  | d => d
def edgeD (t : Int) : D → Bool
  | .int l => decide (t - 1 ≤ (l.natAbs : Int)) && decide ((l.natAbs : Int) ≤ t + 1)
  | _ => false
def overD (t : Int) : D → Bool
  | .int l => decide (l > t)
  | _ => false
theorem comp_ints {p : D → Bool} {f : D → D} {p' : Int → Bool} {f' : Int → Int} (hp : ∀ v, p (.int v) = p' v) (hf : ∀ v, f (.int v) = .int (f' v)) : ∀ l : List Int, (((l.map D.int).filter p).map f) = (((l.filter p').map f').map D.int)
  | [] => rfl
  | v :: r => by
    rw [List.map_cons, List.filter_cons, List.filter_cons, hp]
    cases p' v with
    | true => rw [if_pos rfl, if_pos rfl, List.map_cons, List.map_cons, List.map_cons, hf, comp_ints hp hf r]
    | false => rw [if_neg (by decide), if_neg (by decide), comp_ints hp hf r]
theorem ints_flat : ∀ l : List Int, D.flats (l.map D.int) = true
  | [] => rfl
  | v :: r => by simp [D.flats, D.flat, ints_flat r]
theorem ints_lay : ∀ l : List Int, PyData.canLayAll0 (D.pys (l.map D.int)) = true ∧ PyData.depthAll (D.pys (l.map D.int)) ≤ 1
  | [] => ⟨by simp [D.pys, PyData.canLayAll0], by simp [D.pys, PyData.depthAll]⟩
  | v :: r => by
    have h := ints_lay r
    refine ⟨?_, ?_⟩
    · simp [D.pys, D.py, PyData.canLayAll0, PyData.canLay0, h.1]
    · have h2 := h.2
      simp [D.pys, D.py, PyData.depthAll, PyData.depth]
      omega
theorem int_mem {l : List Int} {d : D} (h : d ∈ l.map D.int) : ∃ v, d = .int v ∧ v ∈ l := by
  obtain ⟨v, hv, rfl⟩ := List.mem_map.mp h
  exact ⟨v, rfl, hv⟩
theorem ints_eqv (l : List Int) : PyData.eqv (D.lst (l.map D.int)).py (D.lst []).py = decide (l = []) := by
  cases l <;> simp [D.py, D.pys, PyData.eqv, PyData.eqvAll]
theorem ints_shaped (l : List Int) : SeqAt.shaped (D.lst (l.map D.int)).py = true := by
  have h := ints_lay l
  have h2 := h.2
  simp [SeqAt.shaped, D.py, PyData.canLay0, PyData.depth, h.1]
  omega
theorem ints_flat' (l : List Int) : (D.lst (l.map D.int)).flat = true := by rw [D.flat]; exact ints_flat l
abbrev sgD (q : Par) : Sg := (Str.ofString "leads", .lst (q.leads.map D.int)) :: sgC q
theorem law_e (hW : W.K = Mine.H W.w.params) {c : Fm} (fc : FrL c) {q : Par} (F : LawF q) (hz : ¬ (q.a = 0 ∧ q.b = 0)) {P : Out → Prop}
    (hr : WS W c (sgD q) (restOf (Mine.H W.w.params) 259 18) P) : WS W c (sgC q) (restOf (Mine.H W.w.params) 259 17) P := by
  have hk : 1 < c.k := by rw [fc.k]; decide
  refine' WS.start 17 ?hoB ?heB ?hB
  case hoB => k_is
  case heB => conv => lhs; arg 2; whnf
  simp only [List.drop_succ_cons, List.drop_zero]
  have fo := fc
  with_reducible refine' WS.thenSub (τ := sgD q) ?hF ?hT
  case hT =>
    with_reducible refine' WS.tail hr ?hoT ?heT ?hvT
    case hoT => k_is
    case heT => exact rfl
    case hvT => exact fun _ _ e => e
  clear hr
  with_reducible refine' W1.assignComp [(Str.ofString "den", .int q.den)] nonZ (leadD q.den) ?K ?hi ?hs ?hn ?hy ?hl ?hny ?ht ?he ?q
  case K => exact fc.comp rfl (by decide +kernel) (cs_cons (by walk_at "lk!") (by decide +kernel) cs_nil)
  case hi => walk_at "ev!"
  case hs => decide +kernel
  case hn => exact Nat.le_of_ble_eq_true rfl
  case hy => walk_at "kd!"
  case hl => decide +kernel
  case hny => decide +kernel
  case ht =>
    intro c' fc d hd
    obtain ⟨v, rfl, _⟩ := int_mem (l := [q.P0, q.P1]) hd
    show EvT W c' _ _ (decide (v ≠ 0))
    walk_at "et!"
  case he =>
    intro c' fc d hd hp
    obtain ⟨v, rfl, hv⟩ := int_mem (l := [q.P0, q.P1]) hd
    have hv0 : v ≠ 0 := of_decide_eq_true hp
    have hs : v.natAbs < 10 ^ 2600 := by
      rcases List.mem_cons.mp hv with rfl | hv
      · exact F.s0
      · rw [List.mem_singleton.mp hv]; exact F.s1
    have c2 := c_lead hW hs F.sd hv0 (F.den hz)
    show EvE W c' _ _ (.ok (.int (lawLead v q.den)))
    walk_at "ev!"
  case q =>
    have e := comp_ints (p := nonZ) (f := leadD q.den) (p' := fun v => decide (v ≠ 0)) (f' := fun v => lawLead v q.den) (fun _ => rfl) (fun _ => rfl) [q.P0, q.P1]
    show Cov (sgD q) ((Str.ofString "leads", .lst (((([q.P0, q.P1].map D.int)).filter nonZ).map (leadD q.den))) :: sgC q)
    rw [e]
    exact fun _ _ h => h
end Mine
end
section
namespace Mine
variable {W : Wd}
theorem ev_ne_nil {c : Fm} {σ : Sg} {e : Expr} {p1 pos : Pos} {l : List Int} (h : EvE W c σ e (.ok (.lst (l.map D.int)))) (hk : 1 < c.k) (hm : behindInMarks .NotEq (.List [] p1) = false) : EvT W c σ (.Compare e [.NotEq] [.List [] p1] pos) (decide (l ≠ [])) :=
  (EvT.cmp h (EvE.lst EvL.nil (Nat.zero_le _)) (CmpOK.neD (ints_flat' l) rfl (ints_shaped l) (ints_shaped []) hk) hm).to (by rw [ints_eqv, decide_not])
theorem law_f (hW : W.K = Mine.H W.w.params) {c : Fm} (fc : FrL c) {q : Par} (F : LawF q) (hz : ¬ (q.a = 0 ∧ q.b = 0))
    (hr : q.edge = [] → q.over = [] → WS W c (sgC q) (restOf (Mine.H W.w.params) 259 20) (EndP (.ok (.bool true)))) : WS W c (sgD q) (restOf (Mine.H W.w.params) 259 18) (EndP (.ok (.bool true))) := by
  have hk : 1 < c.k := by rw [fc.k]; decide
  refine' WS.start 18 ?hoB ?heB ?hB
  case hoB => k_is
  case heB => conv => lhs; arg 2; whnf
  simp only [List.drop_succ_cons, List.drop_zero]
  have fo := fc
  have ll : q.leads.length ≤ 2 := by
    unfold Par.leads
    rw [List.length_map]
    exact Nat.le_trans (List.length_filter_le _ _) (Nat.le_refl _)
  have ll' : (q.leads.map D.int).length ≤ 1000 := by rw [List.length_map]; omega
  have e1 := comp_ints (p := edgeD q.t) (f := fun d => d) (p' := fun l => decide (q.t - 1 ≤ (l.natAbs : Int)) && decide ((l.natAbs : Int) ≤ q.t + 1)) (f' := fun v => v) (fun _ => rfl) (fun _ => rfl) q.leads
  have e2 := comp_ints (p := overD q.t) (f := fun d => d) (p' := fun l => decide (l > q.t)) (f' := fun v => v) (fun _ => rfl) (fun _ => rfl) q.leads
  rw [List.map_id' (q.leads.filter _)] at e1 e2
  change _ = q.edge.map D.int at e1
  change _ = q.over.map D.int at e2
  by_cases hE : q.edge = []
  · with_reducible refine' WS.skip (ev_ne_nil (l := q.edge) ?h1 hk ?hm) (decide_eq_false (not_not_intro hE)) ?h2
    case hm => decide +kernel
    case h1 =>
      with_reducible refine' EvE.to (r := .ok (.lst (((q.leads.map D.int).filter (edgeD q.t)).map fun d => d))) ?h3 (congrArg (fun l => R.ok (.lst l)) e1)
      with_reducible refine' EvE.comp [(Str.ofString "top", .int q.t)] (edgeD q.t) (fun d => d) ?K ?hi ?hs ll' ?ht ?he
      case K => exact fc.comp rfl (by decide +kernel) (cs_cons (by walk_at "lk!") (by decide +kernel) cs_nil)
      case hi => walk_at "ev!"
      case hs => decide +kernel
      case ht =>
        intro c' fc d hd
        obtain ⟨v, rfl, _⟩ := int_mem hd
        show EvT W c' _ _ (decide (q.t - 1 ≤ (v.natAbs : Int)) && decide ((v.natAbs : Int) ≤ q.t + 1))
        with_reducible refine' EvT.chain2 ?i1 ?i2 ?i3 CmpOK.le CmpOK.le ?i4
        case i1 => walk_at "ev!"
        case i2 => walk_at "ev!"
        case i3 => walk_at "ev!"
        case i4 => decide +kernel
      case he =>
        intro c' fc d hd _
        walk_at "ev!"
    case h2 =>
      by_cases hO : q.over = []
      · with_reducible refine' WS.skip (ev_ne_nil (l := q.over) ?j1 hk ?jm) (decide_eq_false (not_not_intro hO)) ?j2
        case jm => decide +kernel
        case j1 =>
          with_reducible refine' EvE.to (r := .ok (.lst (((q.leads.map D.int).filter (overD q.t)).map fun d => d))) ?j3 (congrArg (fun l => R.ok (.lst l)) e2)
          with_reducible refine' EvE.comp [(Str.ofString "top", .int q.t)] (overD q.t) (fun d => d) ?K2 ?hi2 ?hs2 ll' ?ht2 ?he2
          case K2 => exact fc.comp rfl (by decide +kernel) (cs_cons (by walk_at "lk!") (by decide +kernel) cs_nil)
          case hi2 => walk_at "ev!"
          case hs2 => decide +kernel
          case ht2 =>
            intro c' fc d hd
            obtain ⟨v, rfl, _⟩ := int_mem hd
            show EvT W c' _ _ (decide (v > q.t))
            walk_at "et!"
          case he2 =>
            intro c' fc d hd _
            walk_at "ev!"
        case j2 =>
          with_reducible refine' WS.tail (hr hE hO) ?hoT ?heT ?hvT
          case hoT => k_is
          case heT => exact rfl
          case hvT => walk_at "cov!"
      · clear hr
        have hg := F.over hz hE hO
        with_reducible refine' WS.into (ev_ne_nil (l := q.over) ?k1 hk ?km) (decide_eq_true hO) ?k2
        case km => decide +kernel
        case k1 =>
          with_reducible refine' EvE.to (r := .ok (.lst (((q.leads.map D.int).filter (overD q.t)).map fun d => d))) ?k3 (congrArg (fun l => R.ok (.lst l)) e2)
          with_reducible refine' EvE.comp [(Str.ofString "top", .int q.t)] (overD q.t) (fun d => d) ?K3 ?hi3 ?hs3 ll' ?ht3 ?he3
          case K3 => exact fc.comp rfl (by decide +kernel) (cs_cons (by walk_at "lk!") (by decide +kernel) cs_nil)
          case hi3 => walk_at "ev!"
          case hs3 => decide +kernel
          case ht3 =>
            intro c' fc d hd
            obtain ⟨v, rfl, _⟩ := int_mem hd
            show EvT W c' _ _ (decide (v > q.t))
            walk_at "et!"
          case he3 =>
            intro c' fc d hd _
            walk_at "ev!"
        case k2 =>
          have hl : (sgD q).lookup (Str.ofString "got") = some (heardD q.got) := by walk_at "lk!"
          rw [hg] at hl
          with_reducible refine' WS.doneS (d := .bool true) ?k4 rfl
          with_reducible refine' EvE.to (r := .ok (.bool (PyData.eqv (heardD none).py (heardD none).py))) ?k5 ?k6
          case k6 => exact congrArg (fun b => R.ok (.bool b)) (heard_eq none)
          with_reducible refine' EvE.cmp ?c1 ?c2 (CmpOK.eqD (heard_flat _) (heard_flat _) (heard_shaped _) (heard_shaped _) hk) ?c5
          case c1 => exact EvE.var hl (by decide +kernel)
          case c2 => exact EvE.lst EvL.nil (Nat.zero_le _)
          case c5 => decide +kernel
  · clear hr
    with_reducible refine' WS.into (ev_ne_nil (l := q.edge) ?n1 hk ?nm) (decide_eq_true hE) ?n2
    case nm => decide +kernel
    case n1 =>
      with_reducible refine' EvE.to (r := .ok (.lst (((q.leads.map D.int).filter (edgeD q.t)).map fun d => d))) ?n3 (congrArg (fun l => R.ok (.lst l)) e1)
      with_reducible refine' EvE.comp [(Str.ofString "top", .int q.t)] (edgeD q.t) (fun d => d) ?K4 ?hi4 ?hs4 ll' ?ht4 ?he4
      case K4 => exact fc.comp rfl (by decide +kernel) (cs_cons (by walk_at "lk!") (by decide +kernel) cs_nil)
      case hi4 => walk_at "ev!"
      case hs4 => decide +kernel
      case ht4 =>
        intro c' fc d hd
        obtain ⟨v, rfl, _⟩ := int_mem hd
        show EvT W c' _ _ (decide (q.t - 1 ≤ (v.natAbs : Int)) && decide ((v.natAbs : Int) ≤ q.t + 1))
        with_reducible refine' EvT.chain2 ?i5 ?i6 ?i7 CmpOK.le CmpOK.le ?i8
        case i5 => walk_at "ev!"
        case i6 => walk_at "ev!"
        case i7 => walk_at "ev!"
        case i8 => decide +kernel
      case he4 =>
        intro c' fc d hd _
        walk_at "ev!"
    case n2 => exact WS.doneS (by walk_at "ev!") rfl
end Mine
end
section
namespace Mine
variable {W : Wd}
theorem EvT.callB {c : Fm} {σ : Sg} {f : Expr} {as : List Expr} {ks : List Keyword} {pos : Pos} {b : Bool} (h : EvE W c σ (.Call f as ks pos) (.ok (.bool b))) : EvT W c σ (.Call f as ks pos) b := by
  intro s Q E i p
  refine wpAny_isTrue_value (h s _ E i fun u h₁ t₁ g₁ d₁ => ?_)
  have e := bool_inv d₁
  subst e
  exact wpAny_truthy_bool (p h₁ t₁ g₁)
theorem in_odd (z : Cx) : ((D.pys [.lst [], .lst [.str (Str.ofString "odd")]]).any fun y => PyData.eqv y (D.lst [cx z]).py) = false := by
  simp [D.py, D.pys, PyData.eqv, PyData.eqvAll]
theorem cx_lay (z : Cx) : (D.lst [cx z]).py.canLay0 = true ∧ (D.lst [cx z]).py.depth ≤ 60 := by
  simp [PyData.canLay0, PyData.canLayAll0, PyData.depth, PyData.depthAll, D.py, D.pys]
theorem shaped_nil : SeqAt.shaped (D.lst []).py = true := ints_shaped []
theorem flat_nil : (D.lst []).flat = true := rfl
theorem eqv_nil : PyData.eqv (D.lst []).py (D.lst []).py = true := ints_eqv []
theorem law_g (hW : W.K = Mine.H W.w.params) {c : Fm} (fc : FrL c) {q : Par} (F : LawF q) (hz : ¬ (q.a = 0 ∧ q.b = 0)) (hE : q.edge = []) (hO : q.over = []) :
    WS W c (sgC q) (restOf (Mine.H W.w.params) 259 20) (EndP (.ok (.bool true))) := by
  have hk : 1 < c.k := by rw [fc.k]; decide
  refine' WS.start 20 ?hoB ?heB ?hB
  case hoB => k_is
  case heB => conv => lhs; arg 2; whnf
  simp only [List.drop_succ_cons, List.drop_zero]
  have fo := fc
  obtain ⟨z, hg, hz1, hz2, hs0, p1, p2⟩ := F.near hz hE hO
  have hl : (sgC q).lookup (Str.ofString "got") = some (heardD q.got) := by walk_at "lk!"
  rw [hg] at hl
  have c1 := c_part hW (t := q.t) (p := z.1) (num := q.P0) (den := q.den) (size := q.size) (d := q.d) ⟨hz1, F.s0, F.sd, F.sz, hs0, F.den hz, F.dd.1, F.dd.2⟩
  have c2 := c_part hW (t := q.t) (p := z.2) (num := q.P1) (den := q.den) (size := q.size) (d := q.d) ⟨hz2, F.s1, F.sd, F.sz, hs0, F.den hz, F.dd.1, F.dd.2⟩
  rw [p1] at c1
  rw [p2] at c2
  walk_at "set!"
  refine WS.keep (τ := [(Str.ofString "size", .int q.size), (Str.ofString "den", .int q.den), (Str.ofString "parts", .lst [.int q.P0, .int q.P1]), (Str.ofString "got", .lst [cx z]), (Str.ofString "top", .int q.t), (Str.ofString "digits", .int q.d)]) (cov_cons lk_hd (cov_cons (by walk_at "lk!") (cov_cons (by walk_at "lk!") (cov_cons (lk_tl (by decide +kernel) hl) (cov_cons (by walk_at "lk!") (cov_cons (by walk_at "lk!") cov_nil)))))) ?_
  clear hl hg p1 p2
  with_reducible refine' WS.skip (EvT.cmp ?a1 ?a2 (CmpOK.inD (bs := [.lst [], .lst [.str (Str.ofString "odd")]]) (cx_flat z) ?a3 (cx_lay z).1 ?a4 (cx_lay z).2 hk) ?a5) (in_odd z) ?a6
  case a1 => walk_at "ev!"
  case a2 => walk_at "ev!"
  case a3 => decide +kernel
  case a4 => decide +kernel
  case a5 => decide +kernel
  case a6 =>
    with_reducible refine' WS.done (d := .bool true) ?b1 rfl
    with_reducible refine' EvE.to (r := .ok (.bool (PyData.eqv (D.lst []).py (D.lst []).py))) ?b2 ?b3
    case b3 => exact congrArg (fun b => R.ok (.bool b)) eqv_nil
    with_reducible refine' EvE.cmp ?b4 ?b5 (CmpOK.eqD flat_nil flat_nil shaped_nil shaped_nil hk) ?b6
    case b5 => exact EvE.lst EvL.nil (Nat.zero_le _)
    case b6 => decide +kernel
    case b4 =>
      with_reducible refine' EvE.to (r := .ok (.lst (((rangeD 2).filter fun _ => false).map fun d => d))) ?d1 ?d2
      case d2 => exact rfl
      with_reducible refine' EvE.compRange (n := 2) [(Str.ofString "den", .int q.den), (Str.ofString "digits", .int q.d), (Str.ofString "got", .lst [cx z]), (Str.ofString "parts", .lst [.int q.P0, .int q.P1]), (Str.ofString "size", .int q.size), (Str.ofString "top", .int q.t)] (fun _ => false) (fun d => d) ?K ?hi ?hs ?hg ?hr ?hn ?hn' ?ht ?he
      case K => exact fc.comp rfl (by decide +kernel) (cs_cons (by walk_at "lk!") (by decide +kernel) (cs_cons (by walk_at "lk!") (by decide +kernel) (cs_cons (by walk_at "lk!") (by decide +kernel) (cs_cons (by walk_at "lk!") (by decide +kernel) (cs_cons (by walk_at "lk!") (by decide +kernel) (cs_cons (by walk_at "lk!") (by decide +kernel) cs_nil))))))
      case hi => walk_at "ev!"
      case hs => decide +kernel
      case hg => walk_at "gl!"
      case hr => walk_at "kd!"
      case hn => decide
      case hn' => decide
      case he => intro c' fc d hd hp; cases hp
      case ht =>
        intro c' fc d hd
        have hd' : d = .int 0 ∨ d = .int 1 := by
          have h2 : d ∈ [D.int 0, D.int 1] := hd
          simpa using h2
        with_reducible refine' EvT.to (b := !true) (EvT.not (EvT.callB ?e1)) rfl
        rcases hd' with rfl | rfl
        · apply EvE.call
          walk_at "gl!"
          walk_at "gl!"
          exact rfl
          walk_at "kd!"
          decide +kernel
          decide +kernel
          · apply EvL.ok
            decide +kernel
            · apply EvE.itemT
              · walk_at "ev!"
              · walk_at "ev!"
              decide +kernel
              walk_at "side!"
              walk_at "side!"
              exact rfl
            apply EvL.ok
            decide +kernel
            · apply EvE.itemL
              · walk_at "ev!"
              · walk_at "ev!"
              decide +kernel
              walk_at "side!"
              walk_at "side!"
              exact rfl
            walk_at "el!"
          walk_at "cc!"
          rw [fc.k, fo.k]; decide
        · apply EvE.call
          walk_at "gl!"
          walk_at "gl!"
          exact rfl
          walk_at "kd!"
          decide +kernel
          decide +kernel
          · apply EvL.ok
            decide +kernel
            · apply EvE.itemT
              · walk_at "ev!"
              · walk_at "ev!"
              decide +kernel
              walk_at "side!"
              walk_at "side!"
              exact rfl
            apply EvL.ok
            decide +kernel
            · apply EvE.itemL
              · walk_at "ev!"
              · walk_at "ev!"
              decide +kernel
              walk_at "side!"
              walk_at "side!"
              exact rfl
            walk_at "el!"
          walk_at "cc!"
          rw [fc.k, fo.k]; decide
theorem law_all (hW : W.K = Mine.H W.w.params) {c : Fm} (fc : FrL c) {ns : List Int} (hn : ns.length ≤ 63) (F : LawF (parOf (ns.take 8))) :
    WS W c [(Str.ofString "script", .lst (ns.map D.int))] (restOf (Mine.H W.w.params) 259 0) (EndP (.ok (.bool true))) := by
  with_reducible refine law_a hW fc hn F ?_
  generalize parOf (ns.take 8) = q at F ⊢
  with_reducible refine law_b hW fc F ?_ (law_c hW fc F fun hz => law_d hW fc F (law_e hW fc F hz (law_f hW fc F hz fun hE hO => law_g hW fc F hz hE hO)))
  exact fun d => ⟨fun h => (R.ok.inj h).symm, fun h => by rw [h]; exact rfl⟩
end Mine
end
section
namespace Mine
theorem cells_law (n : Nat) : cellsFrom n lawNames [] = [(Str.ofString "size", n + 5), (Str.ofString "den", n + 4), (Str.ofString "parts", n + 3), (Str.ofString "got", n + 2), (Str.ofString "top", n + 1), (Str.ofString "digits", n)] := by rfl
theorem cells_at {cm : Str → Option Value} : ∀ {cs : List (Str × Addr)} {cells : List (Addr × Obj)}, CellsAre cm cs cells → ∀ {x : Str} {a : Addr}, (x, a) ∈ cs → ∃ o, (a, o) ∈ cells ∧ o.data = .cell (cm x)
  | _, _, .nil, _, _, h => by cases h
  | _, _, .cons ho t, _, _, h => by
    rcases List.mem_cons.mp h with e | h
    · cases e; exact ⟨_, .head _, ho⟩
    · obtain ⟨o, h1, h2⟩ := cells_at t h
      exact ⟨o, .tail _ h1, h2⟩
theorem ints_all {X : Addr → Prop} {h : Heap} : ∀ {vs : List Value} {ns : List Int}, IntsAre vs ns → DAll X h vs (ns.map D.int)
  | _, _, .nil => .nil
  | _, _, .cons n t r => .cons (.int n t) (ints_all r)
theorem law_cell {y : Str} (h : lawNames.lookup y = some .cell) : y ∈ [Str.ofString "size", Str.ofString "den", Str.ofString "parts", Str.ofString "got", Str.ofString "top", Str.ofString "digits"] := by
  have h1 : (y, NameKind.cell) ∈ lawNames := mem_of_lookup h
  have h2 : ∀ p ∈ lawNames, p.2 = .cell → p.1 ∈ [Str.ofString "size", Str.ofString "den", Str.ofString "parts", Str.ofString "got", Str.ofString "top", Str.ofString "digits"] := by decide +kernel
  exact h2 _ h1 rfl
theorem dep_ok : callerA.depth + 1 + 20 < recursionLimit := by decide +kernel
theorem uni_ok : callerA.units + 3 + 64 * 20 < cLine := by decide +kernel
theorem cells_apart (n : Nat) : (cellsFrom n lawNames []).Pairwise fun x y => x.2 ≠ y.2 := by
  rw [cells_law]
  simp
theorem law_enter {prog view : Program} {loose : List Str} {mean : ExcName → Option Value} {mg mb : Str → Option Value} {w : World} {s₁ : Shared} {h₁ : Heap} {tk : Nat} {name : Str} {scope : Scope} {body : List Stmt} {fa : Addr} {cdv : Value} {m cm : Str → Option Value}
    {cells : List (Addr × Obj)} {ns : List Int} {vs : List Value} {a : Addr} {Q : Flow → Shared → Prop} {E : Value → Shared → Prop}
    (KX : (Mine.H w.params).In s₁.heap) (T : Top view loose mean mg mb s₁.heap) (F : Fr s₁.heap s₁.heap.objs.size h₁ m) (N : News s₁.heap s₁.heap.objs.size h₁ cells) (X : CellsAre cm (cellsFrom (s₁.heap.objs.size + 1) scope.names []) cells)
    (hL : s₁.heap.IsList a vs.toArray) (hI : IntsAre vs ns) (hm : m (Str.ofString "script") = some (.ref a)) (hsc : scope.names = lawNames) (hsk : scope.kind = .function) (hbody : body = bodyOf (Mine.H w.params) 259)
    (hns : ns.length ≤ 63) (FL : LawF (parOf (ns.take 8)))
    (q : ∀ h' tk', (∀ b o, s₁.heap.get? b = some o → h'.get? b = some o) → Q (.ret (.bool true)) { s₁ with heap := h', toks := tk' }) :
    wpAny (model prog w) (callerA.deeper (envOfC name scope s₁.heap.objs.size fa cdv)) (execs body (envOfC name scope s₁.heap.objs.size fa cdv)) Q E { s₁ with heap := h₁, toks := tk } := by
  let W : Wd := ⟨prog, w, Mine.H w.params, view, loose, mg, mb, s₁.heap, KX, topRead_of T, T.nodigits⟩
  generalize hLL : s₁.heap.objs.size = L at *
  let env := envOfC name scope L fa cdv
  let c : Fm := ⟨fun b => b = L ∨ ∃ x, (x, b) ∈ env.cells, callerA.deeper env, env, 20⟩
  have hcell : ∀ {x b}, (x, b) ∈ env.cells → h₁.IsCell b (cm x) ∧ b ≠ L ∧ s₁.heap.get? b = none := fun {x b} hm' => by
    obtain ⟨o, h1, h2⟩ := cells_at X hm'
    obtain ⟨g1, g2, g3⟩ := N _ h1
    exact ⟨⟨o, g1, h2⟩, g2, g3⟩
  have hLn : s₁.heap.get? L = none := by rw [← hLL]; exact none_of_size
  have hoff : ∀ b, c.X b → s₁.heap.get? b = none := fun b hb => by
    rcases hb with rfl | ⟨x, hx⟩
    · exact hLn
    · exact (hcell hx).2.2
  have hold : ∀ b o, s₁.heap.get? b = some o → ¬ c.X b := fun b o e hb => by
    rw [hoff b hb] at e; cases e
  have hcs : env.cells = cellsFrom (L + 1) lawNames [] := by
    show cellsFrom (L + 1) scope.names [] = _
    rw [hsc]
  have hown : ∀ b, c.X b → ∃ o, h₁.get? b = some o ∧ ∀ ws, o.data ≠ .fields ws := fun b hb => by
    rcases hb with rfl | ⟨x, hx⟩
    · exact ns_not_fields F.ns
    · obtain ⟨o, h1, h2⟩ := (hcell hx).1
      exact ⟨o, h1, fun ws e => by rw [h2] at e; cases e⟩
  have fc : FrL c := by
    refine ⟨hsc, rfl, fun y hy => ?_⟩
    show ∃ a, env.cells.lookup y = some a
    rw [hcs, cells_law]
    have hy' := law_cell hy
    simp only [List.mem_cons, List.not_mem_nil, or_false] at hy'
    rcases hy' with rfl | rfl | rfl | rfl | rfl | rfl
    all_goals exact ⟨_, by rfl⟩
  have iv : Inv W c [(Str.ofString "script", .lst (ns.map D.int))] h₁ := by
    refine ⟨⟨rfl, dep_ok, uni_ok, ⟨[env], rfl, ⟨by show scope.kind ≠ .module; rw [hsk]; decide, ⟨L, (ns_not_fields F.ns).choose, rfl, hLn, (ns_not_fields F.ns).choose_spec⟩, trivial⟩, fun b hb => ?_⟩, fun b o e => F.keep b o e, hown, hoff⟩, hsk, rfl, rfl, ⟨m, F.ns, fun x d e => ?_⟩, .inl rfl, fun x b hb => ⟨.inr ⟨x, hb⟩, (hcell hb).2.1, _, (hcell hb).1⟩, ?_⟩
    · have e3 : env.frame = some L := rfl
      simp only [List.filterMap_cons, e3, List.filterMap_nil, List.mem_singleton] at hb
      exact .inl hb
    · rcases lookup_cons_eq e with ⟨rfl, rfl⟩ | ⟨_, e⟩
      · refine .inl ⟨?_, _, hm, .lst (hold _ _ hL.choose_spec.1) ?_ (ints_all hI)⟩
        · show scope.names.lookup _ = _
          rw [hsc]
          decide +kernel
        · obtain ⟨o, ho, r⟩ := hL
          exact ⟨o, F.keep _ _ ho, r⟩
      · simp at e
    · show env.cells.Pairwise _
      rw [hcs]
      exact cells_apart _
  have walk : WS W c [(Str.ofString "script", .lst (ns.map D.int))] body (EndP (.ok (.bool true))) := by
    have h := law_all (W := W) rfl fc hns FL
    unfold restOf at h
    rw [List.drop_zero] at h
    rw [hbody]
    exact h
  refine walk { s₁ with heap := h₁, toks := tk } Q E iv ⟨fun τ h' tk' x _ _ => ?_, fun d v h' tk' x sp di => ?_, fun _ _ _ x => x.elim, fun _ _ _ x => x.elim, fun _ _ _ _ _ x => ?_, fun _ _ _ x => ?_⟩
  · cases x
  · have hd : d = .bool true := (R.ok.inj x).symm
    subst hd
    have hv := bool_inv di
    subst hv
    refine q h' tk' fun b o e => ?_
    have nx := hold b o e
    exact (sp b o (F.keep b o e) (fun y => nx (by rcases y with y | ⟨x, y⟩; exact .inl y; exact .inr ⟨x, y⟩))).1 nx
  · cases x
  · cases x
end Mine
end
end
section
namespace Mine
def T (e : Int) : Rat := (10 : Rat) ^ e
theorem T_pos (e : Int) : 0 < T e := Rat.zpow_pos (by decide)
theorem T_add (a b : Int) : T (a + b) = T a * T b := Rat.zpow_add (by decide) a b
theorem T_zero : T 0 = 1 := Rat.zpow_zero 10
theorem T_nat (n : Nat) : T n = (((10 : Int) ^ n : Int) : Rat) := by
  unfold T
  rw [Rat.zpow_natCast, Rat.intCast_pow]; rfl
theorem T_toNat {e : Int} (h : 0 ≤ e) : ((((10 : Int) ^ e.toNat : Int)) : Rat) = T e := by
  rw [← T_nat, Int.toNat_of_nonneg h]
theorem T_one_le {a : Int} (h : 0 ≤ a) : 1 ≤ T a := by
  rw [← T_toNat h]
  have h1 : (0 : Int) < 10 ^ a.toNat := Int.pow_pos (by decide)
  exact Rat.intCast_le_intCast.mpr (show (1 : Int) ≤ 10 ^ a.toNat from h1)
theorem T_le {a b : Int} (h : a ≤ b) : T a ≤ T b := by
  have e : T b = T a * T (b - a) := by rw [← T_add]; congr 1; omega
  have h1 := T_one_le (a := b - a) (by omega)
  have h2 := T_pos a
  rw [e]
  have := Rat.mul_le_mul_of_nonneg_left h1 (Rat.le_of_lt h2)
  grind
theorem T_ten (a : Int) : T (a + 1) = 10 * T a := by
  rw [T_add]
  have : T 1 = 10 := Rat.zpow_one 10
  grind
theorem T_lt {a b : Int} (h : a < b) : T a < T b := by
  have h1 := T_le (a := a + 1) (b := b) (by omega)
  have h2 := T_pos a
  rw [T_ten] at h1
  grind
theorem T_lt_iff {a b : Int} (h : T a < T b) : a < b := by
  apply Classical.byContradiction
  intro q
  have := T_le (a := b) (b := a) (by omega)
  grind
/-- the size of a number -/
def A (x : Rat) : Rat := if 0 ≤ x then x else -x
theorem A_nonneg (x : Rat) : 0 ≤ A x := by unfold A; grind
theorem A_neg (x : Rat) : A (-x) = A x := by unfold A; grind
theorem A_add (x y : Rat) : A (x + y) ≤ A x + A y := by unfold A; grind
theorem A_le {x b : Rat} (h1 : -b ≤ x) (h2 : x ≤ b) : A x ≤ b := by unfold A; grind
theorem A_sub_comm (x y : Rat) : A (x - y) = A (y - x) := by unfold A; grind
theorem A_pos_mul {c : Rat} (hc : 0 ≤ c) (x : Rat) : A (c * x) = c * A x := by
  unfold A
  have h := @Rat.mul_le_mul_of_nonneg_left
  split
  · split
    · rfl
    · rename_i h1 h2
      have h3 : x ≤ 0 := by grind
      have h4 := h h3 hc
      grind
  · rename_i h1
    split
    · rename_i h2
      have h4 := h h2 hc
      grind
    · grind
theorem A_mul_pos {c : Rat} (hc : 0 ≤ c) (x : Rat) : A (x * c) = A x * c := by
  rw [Rat.mul_comm, A_pos_mul hc, Rat.mul_comm]
theorem A_sq (x : Rat) : A x * A x = x * x := by unfold A; grind
theorem A_int (m : Int) : A (m : Rat) = ((m.natAbs : Int) : Rat) := by
  unfold A
  rcases Int.le_total 0 m with h | h
  · rw [if_pos (by exact Rat.intCast_nonneg.mpr h)]
    congr 1; omega
  · by_cases h0 : m = 0
    · subst h0; rfl
    · rw [if_neg (by rw [Rat.intCast_nonneg]; omega), ← Rat.intCast_neg]
      congr 1; omega
def val (p : Rl) : Rat := (p.1 : Rat) * T p.2
theorem stripW_val (m e : Int) : val (stripW m e) = (m : Rat) * T e := by
  induction m, e using stripW.induct with
  | case1 m e h ih =>
    rw [stripW, dif_pos h, ih, T_ten]
    have e1 : m = m / 10 * 10 := by omega
    have e2 : (m : Rat) = ((m / 10 : Int) : Rat) * 10 := by
      rw [show (10 : Rat) = ((10 : Int) : Rat) from rfl, ← Rat.intCast_mul, ← e1]
    rw [e2]; grind
  | case2 m e h => rw [stripW, dif_neg h]; rfl
theorem strip_val (m e : Int) : val (strip m e) = (m : Rat) * T e := by
  unfold strip
  split
  · rename_i h; subst h; unfold val; simp
  · exact stripW_val m e
theorem val_mul (x y : Rl) : val (exactMul x y) = val x * val y := by
  unfold val exactMul
  simp only [Rat.intCast_mul, T_add]
  grind
theorem val_neg (x : Rl) : val (realNeg x) = - val x := by
  unfold val realNeg
  simp only [Rat.intCast_neg]
  grind
theorem val_zero {x : Rl} (h : x.1 = 0) : val x = 0 := by unfold val; rw [h]; simp
theorem val_add (x y : Rl) : val (exactAdd x y) = val x + val y := by
  unfold exactAdd
  split
  · rename_i h; rw [val_zero h]; grind
  · split
    · rename_i h; rw [val_zero h]; grind
    · unfold val
      simp only [Rat.intCast_add, Rat.intCast_mul]
      rw [T_toNat (e := x.2 - min x.2 y.2) (by omega), T_toNat (e := y.2 - min x.2 y.2) (by omega)]
      have e1 : T x.2 = T (x.2 - min x.2 y.2) * T (min x.2 y.2) := by rw [← T_add]; congr 1; omega
      have e2 : T y.2 = T (y.2 - min x.2 y.2) * T (min x.2 y.2) := by rw [← T_add]; congr 1; omega
      rw [e1, e2]; grind
theorem val_eq_zero {x : Rl} : val x = 0 ↔ x.1 = 0 := by
  refine ⟨fun h => ?_, val_zero⟩
  unfold val at h
  have := T_pos x.2
  rcases Rat.mul_eq_zero.mp h with h | h
  · exact Rat.intCast_inj.mp (by rw [h]; rfl)
  · grind
end Mine
end
section
namespace Mine
theorem dg_spec (m : Nat) (h : m ≠ 0) : 10 ^ (dg m - 1) ≤ m ∧ m < 10 ^ dg m ∧ 0 < dg m := by
  induction m using Nat.strongRecOn with
  | ind m ih =>
    rw [dg_succ h]
    by_cases h0 : m / 10 = 0
    · rw [h0, dg_zero]; simp; omega
    · obtain ⟨h1, h2, h3⟩ := ih (m / 10) (by omega) h0
      rw [Nat.add_sub_cancel]
      have e : 10 ^ dg (m / 10) = 10 ^ (dg (m / 10) - 1) * 10 := by rw [← Nat.pow_succ]; congr 1; omega
      rw [Nat.pow_succ]
      generalize 10 ^ (dg (m / 10) - 1) = u at *
      rw [e] at h2 ⊢
      omega
/-- the size of a whole number by its figures -/
theorem dg_T (m : Int) (h : m ≠ 0) : T ((dg m.natAbs : Int) - 1) ≤ A m ∧ A m < T (dg m.natAbs : Int) := by
  obtain ⟨h1, h2, h3⟩ := dg_spec m.natAbs (by omega)
  rw [A_int]
  have e1 : ((dg m.natAbs : Int) - 1) = ((dg m.natAbs - 1 : Nat) : Int) := by omega
  rw [e1, T_nat, T_nat]
  refine ⟨Rat.intCast_le_intCast.mpr ?_, Rat.intCast_lt_intCast.mpr ?_⟩
  · have := Int.ofNat_le.mpr h1
    rwa [Int.natCast_pow] at this
  · have := Int.ofNat_lt.mpr h2
    rwa [Int.natCast_pow] at this
theorem lead_T (x : Rl) (h : x.1 ≠ 0) : T (x.2 + dg x.1.natAbs - 1) ≤ A (val x) ∧ A (val x) < T (x.2 + dg x.1.natAbs) := by
  obtain ⟨h1, h2⟩ := dg_T x.1 h
  have p := T_pos x.2
  have e : A (val x) = A x.1 * T x.2 := A_mul_pos (Rat.le_of_lt p) _
  have e1 : T (x.2 + dg x.1.natAbs - 1) = T ((dg x.1.natAbs : Int) - 1) * T x.2 := by rw [← T_add]; congr 1; omega
  have e2 : T (x.2 + dg x.1.natAbs) = T (dg x.1.natAbs : Int) * T x.2 := by rw [← T_add]; congr 1; omega
  rw [e, e1, e2]
  exact ⟨Rat.mul_le_mul_of_nonneg_right h1 (Rat.le_of_lt p), Rat.mul_lt_mul_of_pos_right h2 p⟩
/-- r is w, rounded to d figures (to the nearest) -/
def RD (d : Int) (w r : Rat) : Prop := r = w ∨ ∃ (g k : Int), r = (k : Rat) * T g ∧ 2 * A (w - r) ≤ T g ∧ T (g + d - 1) ≤ A w ∧ A w < T (g + d)
theorem roundUp_near {a p : Int} (hp : 0 < p) : 2 * (a - roundUp a p * p) ≤ p ∧ -p ≤ 2 * (a - roundUp a p * p) := by
  have h1 := Int.mul_ediv_add_emod a p
  have h2 := Int.emod_nonneg a (Int.ne_of_gt hp)
  have h3 := Int.emod_lt_of_pos a hp
  unfold roundUp
  split
  · rename_i h
    have e : (a / p + 1) * p = p * (a / p) + p := by rw [Int.add_mul, Int.mul_comm, Int.one_mul]
    rw [e]
    generalize p * (a / p) = u at *
    omega
  · rename_i h
    rw [Int.mul_comm (a / p) p]
    generalize p * (a / p) = u at *
    omega
/-- y, of which the whole number m is the figures, lies by its rounding -/
theorem RD_of {m e d k : Int} {y : Rat} (hk : 2 * A (y - (k : Rat) * T (dg m.natAbs - d)) ≤ T (dg m.natAbs - d))
    (h1 : T ((dg m.natAbs : Int) - 1) ≤ y) (h2 : y < T (dg m.natAbs : Int)) (s : Rat) (hs : s = 1 ∨ s = -1) : RD d (s * y * T e) (s * k * T (e + (dg m.natAbs - d))) := by
  have p := T_pos e
  have p' := T_pos ((dg m.natAbs : Int) - 1)
  have hy : 0 ≤ y := by grind
  have ey : A (s * y * T e) = y * T e := by
    rw [A_mul_pos (Rat.le_of_lt p)]
    congr 1
    unfold A
    rcases hs with rfl | rfl <;> grind
  refine .inr ⟨e + (dg m.natAbs - d), if s = 1 then k else -k, ?_, ?_, ?_, ?_⟩
  · rcases hs with rfl | rfl
    · rw [if_pos rfl]; grind
    · rw [if_neg (by decide), Rat.intCast_neg]; grind
  · have e1 : s * y * T e - s * k * T (e + (dg m.natAbs - d)) = s * (y - (k : Rat) * T (dg m.natAbs - d)) * T e := by rw [T_add]; grind
    have e2 : A (s * (y - (k : Rat) * T (dg m.natAbs - d)) * T e) = A (y - (k : Rat) * T (dg m.natAbs - d)) * T e := by
      rw [A_mul_pos (Rat.le_of_lt p)]
      congr 1
      unfold A
      rcases hs with rfl | rfl <;> grind
    rw [e1, e2, T_add]
    have := Rat.mul_le_mul_of_nonneg_right hk (Rat.le_of_lt p)
    grind
  · rw [ey]
    have e1 : T (e + (dg m.natAbs - d) + d - 1) = T ((dg m.natAbs : Int) - 1) * T e := by rw [← T_add]; congr 1; omega
    rw [e1]
    exact Rat.mul_le_mul_of_nonneg_right h1 (Rat.le_of_lt p)
  · rw [ey]
    have e1 : T (e + (dg m.natAbs - d) + d) = T (dg m.natAbs : Int) * T e := by rw [← T_add]; congr 1; omega
    rw [e1]
    exact Rat.mul_lt_mul_of_pos_right h2 p
theorem sign_cases (m : Int) : ∃ s : Rat, (s = 1 ∨ s = -1) ∧ (m : Rat) = s * ((m.natAbs : Int) : Rat) ∧ ∀ k : Int, ((if m > 0 then k else -k : Int) : Rat) = s * k := by
  by_cases hp : m > 0
  · refine ⟨1, .inl rfl, ?_, fun k => ?_⟩
    · rw [Rat.one_mul]; congr 1; omega
    · rw [if_pos hp, Rat.one_mul]
  · refine ⟨-1, .inr rfl, ?_, fun k => ?_⟩
    · rw [show m = -(m.natAbs : Int) by omega, Rat.intCast_neg]
      rw [show ((-(m.natAbs : Int)).natAbs : Int) = m.natAbs by omega]
      grind
    · rw [if_neg hp, Rat.intCast_neg]; grind
theorem roundUp_zero {p : Int} (hp : 0 < p) : roundUp 0 p = 0 := by
  unfold roundUp
  rw [Int.zero_emod, Int.zero_ediv]
  split
  · omega
  · rfl
theorem roundDigits_RD (m e d : Int) : RD d ((m : Rat) * T e) (val (roundDigits m e d)) := by
  unfold roundDigits
  split
  · rename_i hd
    by_cases h0 : m = 0
    · subst h0
      refine .inl ?_
      have : dg (0 : Int).natAbs = 0 := dg_zero
      rw [this]
      dsimp only
      rw [strip_val]
      have e1 : roundUp ((0 : Int).natAbs : Int) (10 ^ ((0 : Nat) - d : Int).toNat) = 0 := roundUp_zero (Int.pow_pos (by decide))
      rw [e1]; simp
    · dsimp only
      rw [strip_val]
      obtain ⟨s, hs, hm, hk⟩ := sign_cases m
      obtain ⟨b1, b2⟩ := dg_T m h0
      rw [A_int] at b1 b2
      rw [hk, hm]
      have en : (m.natAbs : Int).natAbs = m.natAbs := by omega
      have hp : (0 : Int) < 10 ^ ((dg m.natAbs : Int) - d).toNat := Int.pow_pos (by decide)
      obtain ⟨r1, r2⟩ := roundUp_near (a := m.natAbs) hp
      have key := RD_of (m := (m.natAbs : Int)) (e := e) (d := d) (k := roundUp m.natAbs (10 ^ ((dg m.natAbs : Int) - d).toNat)) (y := ((m.natAbs : Int) : Rat)) (by
        rw [en]
        generalize roundUp (m.natAbs : Int) (10 ^ ((dg m.natAbs : Int) - d).toNat) = k at r1 r2 ⊢
        rw [← T_toNat (e := (dg m.natAbs : Int) - d) (by omega), ← Rat.intCast_mul, ← Rat.intCast_sub, A_int]
        have h2 : (2 : Rat) = ((2 : Int) : Rat) := rfl
        rw [h2, ← Rat.intCast_mul]
        exact Rat.intCast_le_intCast.mpr (by omega)) (by rw [en]; exact b1) (by rw [en]; exact b2) s hs
      rw [en] at key
      exact key
  · exact .inl (by rw [strip_val])
end Mine
end
section
namespace Mine
theorem near_best {w t : Rat} {k j : Int} (h : 2 * A (w - (k : Rat) * t) ≤ t) (ht : 0 < t) : A (w - (k : Rat) * t) ≤ A (w - (j : Rat) * t) := by
  by_cases e : j = k
  · rw [e]; exact Rat.le_refl
  · have h1 : t ≤ A (((k : Rat) - (j : Rat)) * t) := by
      rw [A_mul_pos (Rat.le_of_lt ht), ← Rat.intCast_sub, A_int]
      have : (1 : Rat) ≤ (((k - j).natAbs : Int) : Rat) := Rat.intCast_le_intCast.mpr (show (1 : Int) ≤ _ by omega)
      have := Rat.mul_le_mul_of_nonneg_right this (Rat.le_of_lt ht)
      grind
    have h2 := A_add (w - (j : Rat) * t) (-(w - (k : Rat) * t))
    rw [A_neg] at h2
    have e2 : w - (j : Rat) * t + -(w - (k : Rat) * t) = ((k : Rat) - (j : Rat)) * t := by grind
    rw [e2] at h2
    grind
theorem sgn_of (w : Rat) : ∃ s : Int, (s = 1 ∨ s = -1) ∧ ∀ x : Rat, 0 ≤ x → A (w - (s : Rat) * x) = A (A w - x) := by
  by_cases h : 0 ≤ w
  · refine ⟨1, .inl rfl, fun x _ => ?_⟩
    have : A w = w := by unfold A; grind
    rw [this]
    congr 1
    have : ((1 : Int) : Rat) = 1 := rfl
    grind
  · refine ⟨-1, .inr rfl, fun x _ => ?_⟩
    have : A w = -w := by unfold A; grind
    rw [this, show -w - x = -(w + x) by grind, A_neg]
    congr 1
    have : ((-1 : Int) : Rat) = -1 := rfl
    grind
/-- a power of ten of at least g is a multiple of T g: no nearer than r -/
theorem RD_pow {w : Rat} {g k c : Int} (h : 2 * A (w - (k : Rat) * T g) ≤ T g) (hc : 0 ≤ c) : A (w - (k : Rat) * T g) ≤ A (A w - T (g + c)) := by
  obtain ⟨s, _, hs⟩ := sgn_of w
  have h1 := near_best (j := s * 10 ^ c.toNat) h (T_pos g)
  have e : ((s * 10 ^ c.toNat : Int) : Rat) * T g = (s : Rat) * T (g + c) := by
    rw [Rat.intCast_mul, T_toNat hc, T_add]; grind
  rw [e, hs _ (Rat.le_of_lt (T_pos _))] at h1
  exact h1
theorem A_tri (r w v : Rat) : A (r - v) ≤ A (w - r) + A (w - v) := by
  have := A_add (-(w - r)) (w - v)
  rw [A_neg] at this
  rwa [show -(w - r) + (w - v) = r - v by grind] at this
theorem RD_rel {L : Int} {w r : Rat} (h : RD L w r) : A (r - w) ≤ T (1 - L) / 2 * A w := by
  rcases h with rfl | ⟨g, k, rfl, h1, h2, _⟩
  · have e : A (r - r) = 0 := by rw [show r - r = 0 by grind]; rfl
    rw [e]
    have h1 := Rat.mul_nonneg (Rat.le_of_lt (T_pos (1 - L))) (A_nonneg r)
    grind
  · rw [A_sub_comm]
    have e : T g = T (1 - L) * T (g + L - 1) := by rw [← T_add]; congr 1; omega
    have h3 := Rat.mul_le_mul_of_nonneg_left h2 (Rat.le_of_lt (T_pos (1 - L)))
    grind
theorem A_w_le (w r : Rat) : A w ≤ A r + A (w - r) := by
  have := A_add r (w - r)
  rwa [show r + (w - r) = w by grind] at this
theorem A_r_le (w r : Rat) : A r ≤ A w + A (w - r) := by
  have := A_add w (-(w - r))
  rw [A_neg] at this
  rwa [show w + -(w - r) = r by grind] at this
theorem RD_ge {d j : Int} {w r : Rat} (hd : 1 ≤ d) (h : RD d w r) (hj : T j ≤ A w) : T j ≤ A r := by
  rcases h with rfl | ⟨g, k, rfl, h1, h2, h3⟩
  · exact hj
  · have h4 := RD_pow (c := d - 1) h1 (by omega)
    have e : g + (d - 1) = g + d - 1 := by omega
    rw [e] at h4
    have h5 : A (A w - T (g + d - 1)) = A w - T (g + d - 1) := by unfold A at *; grind
    have h6 := A_w_le w ((k : Rat) * T g)
    have h7 : j < g + d := T_lt_iff (by grind)
    have h8 := T_le (a := j) (b := g + d - 1) (by omega)
    grind
theorem RD_le {d j : Int} {w r : Rat} (hd : 1 ≤ d) (h : RD d w r) (hj : A w < T j) : A r ≤ T j := by
  rcases h with rfl | ⟨g, k, rfl, h1, h2, h3⟩
  · exact Rat.le_of_lt hj
  · have h4 := RD_pow (c := d) h1 (by omega)
    have h5 : A (A w - T (g + d)) = T (g + d) - A w := by unfold A at *; grind
    have h6 := A_r_le w ((k : Rat) * T g)
    have h7 : g + d - 1 < j := T_lt_iff (by grind)
    have h8 := T_le (a := g + d) (b := j) (by omega)
    grind
theorem RD_zero {d : Int} {w : Rat} (hd : 1 ≤ d) (h : RD d w 0) : w = 0 := by
  rcases h with h | ⟨g, k, e, h1, h2, h3⟩
  · exact h.symm
  · have h4 := RD_ge hd (.inr ⟨g, k, e, h1, h2, h3⟩) h2
    have h5 := T_pos (g + d - 1)
    have h6 : A 0 = 0 := rfl
    grind
/-- the rounded number by the true one -/
theorem RD_true {d u : Int} {w r v : Rat} (hd : 1 ≤ d) (h : RD d w r) (hv : v ≠ 0 → A v < T (u + d)) : A (r - v) ≤ 2 * A (w - v) ∨ (v ≠ 0 ∧ A (r - v) ≤ T u + A (w - v)) := by
  rcases h with rfl | ⟨g, k, rfl, h1, h2, h3⟩
  · left
    have := A_nonneg (r - v)
    grind
  · have h4 := A_tri ((k : Rat) * T g) w v
    by_cases h0 : v = 0
    · left
      have h5 := near_best (j := 0) h1 (T_pos g)
      have e : w - ((0 : Int) : Rat) * T g = w - v := by
        rw [h0]
        have : ((0 : Int) : Rat) = 0 := rfl
        grind
      rw [e] at h5
      grind
    · by_cases hg : g ≤ u
      · right
        have h5 := T_le hg
        have h6 := A_nonneg (w - (k : Rat) * T g)
        grind
      · left
        have h5 := hv h0
        have h6 := T_le (a := u + d) (b := g + d - 1) (by omega)
        have h7 := RD_pow (c := d - 1) h1 (by omega)
        rw [show g + (d - 1) = g + d - 1 by omega] at h7
        have h8 : A (A w - T (g + d - 1)) = A w - T (g + d - 1) := by unfold A at *; grind
        have h9 := A_w_le w v
        grind
end Mine
end
section
namespace Mine
/-- the rounding of the quotient's figures with the sticky one is the rounding of the quotient -/
theorem sticky {F R U t s : Int} (hR0 : 0 ≤ R) (hRU : R < U) (ht : 0 < t) (hs : s = if R ≠ 0 then 1 else 0) :
    2 * (10 * (F * U + R) - roundUp (10 * F + s) (20 * t) * (20 * t) * U) ≤ 20 * t * U ∧ -(20 * t * U) ≤ 2 * (10 * (F * U + R) - roundUp (10 * F + s) (20 * t) * (20 * t) * U) := by
  have h1 := Int.mul_ediv_add_emod (10 * F + s) (20 * t)
  have h2 := Int.emod_nonneg (10 * F + s) (show 20 * t ≠ 0 by omega)
  have h3 := Int.emod_lt_of_pos (10 * F + s) (show 0 < 20 * t by omega)
  unfold roundUp
  generalize (10 * F + s) / (20 * t) = f at *
  generalize hr : (10 * F + s) % (20 * t) = r at *
  have hz : ∃ z, F = 2 * (t * f) + z ∧ r = 10 * z + s := ⟨F - 2 * (t * f), by omega, by
    have : 20 * t * f = 20 * (t * f) := Int.mul_assoc ..
    omega⟩
  obtain ⟨z, hF, rfl⟩ := hz
  have hU : 0 < U := by omega
  have hs1 : s = 0 ∨ s = 1 := by rw [hs]; split <;> omega
  have e1 : 10 * (F * U + R) = 20 * ((t * f) * U) + 10 * (z * U) + 10 * R := by rw [hF]; grind
  rw [e1]
  have hz0 : 0 ≤ z := by omega
  split
  · rename_i h
    have hzt : t ≤ z := by omega
    have hz2 : z + 1 ≤ 2 * t := by omega
    have m1 := Int.mul_le_mul_of_nonneg_right hzt (Int.le_of_lt hU)
    have m2 := Int.mul_le_mul_of_nonneg_right hz2 (Int.le_of_lt hU)
    have e2 : (f + 1) * (20 * t) * U = 20 * ((t * f) * U) + 20 * (t * U) := by grind
    rw [e2]
    have e3 : 20 * t * U = 20 * (t * U) := Int.mul_assoc ..
    have e4 : (z + 1) * U = z * U + U := by grind
    have e5 : 2 * t * U = 2 * (t * U) := Int.mul_assoc ..
    rw [e3]
    omega
  · rename_i h
    have e2 : f * (20 * t) * U = 20 * ((t * f) * U) := by grind
    have e3 : 20 * t * U = 20 * (t * U) := Int.mul_assoc ..
    rw [e2, e3]
    have m0 := Int.mul_nonneg hz0 (Int.le_of_lt hU)
    rcases hs1 with q | q
    · have hR : R = 0 := by
        rw [q] at hs
        by_cases h0 : R = 0
        · exact h0
        · rw [if_pos h0] at hs; omega
      have hzt : z ≤ t := by omega
      have m1 := Int.mul_le_mul_of_nonneg_right hzt (Int.le_of_lt hU)
      omega
    · have hzt : z + 1 ≤ t := by omega
      have m1 := Int.mul_le_mul_of_nonneg_right hzt (Int.le_of_lt hU)
      have e4 : (z + 1) * U = z * U + U := by grind
      omega
theorem ten_split {n : Nat} (h : 1 ≤ n) : (10 : Int) ^ n = 10 * 10 ^ (n - 1) := by
  rw [← Int.pow_succ']; congr 1; omega
theorem quot_core {over under e d : Int} (hu : under ≠ 0) (ho : over ≠ 0) (hd : 1 ≤ d) : RD d ((over : Rat) / (under : Rat) * T e) (val (roundDigits (quot over under e d).1 (quot over under e d).2 d)) := by
  have hU : (0 : Int) < under.natAbs := by omega
  have hsh : 0 ≤ qShift over under d := by unfold qShift; omega
  have hsh2 : d + 2 + dg under.natAbs - dg over.natAbs ≤ qShift over under d := by unfold qShift; omega
  unfold quot
  generalize hs : qShift over under d = sh at *
  dsimp only
  generalize ha : (over.natAbs : Int) * 10 ^ sh.toNat = a
  have h1 := Int.mul_ediv_add_emod a under.natAbs
  have h2 := Int.emod_nonneg a (show (under.natAbs : Int) ≠ 0 by omega)
  have h3 := Int.emod_lt_of_pos a hU
  generalize hF : a / (under.natAbs : Int) = F at *
  generalize hR : a % (under.natAbs : Int) = R at *
  -- how big the figures are
  have ha' : (a : Rat) = A over * T sh := by rw [← ha, Rat.intCast_mul, T_toNat hsh, A_int]
  have hbig : T (d + 1 + dg under.natAbs) ≤ (a : Rat) := by
    rw [ha']
    have g1 := (dg_T over ho).1
    have g2 := Rat.mul_le_mul_of_nonneg_right g1 (Rat.le_of_lt (T_pos sh))
    rw [← T_add] at g2
    exact Rat.le_trans (T_le (by omega)) g2
  have hFbig : (10 : Int) ^ (d + 1).toNat ≤ F := by
    apply Classical.byContradiction
    intro q
    have g1 : (F + 1) * (under.natAbs : Int) ≤ 10 ^ (d + 1).toNat * (under.natAbs : Int) := Int.mul_le_mul_of_nonneg_right (by omega) (Int.le_of_lt hU)
    have g2 : a < 10 ^ (d + 1).toNat * (under.natAbs : Int) := by
      have : (F + 1) * (under.natAbs : Int) = (under.natAbs : Int) * F + under.natAbs := by grind
      omega
    have g3 : (a : Rat) < T (d + 1) * A under := by
      rw [← T_toNat (e := d + 1) (by omega), A_int, ← Rat.intCast_mul]
      exact Rat.intCast_lt_intCast.mpr g2
    have g4 := Rat.mul_lt_mul_of_pos_left (dg_T under hu).2 (T_pos (d + 1))
    rw [← T_add] at g4
    grind
  generalize hst : (if R ≠ 0 then (1 : Int) else 0) = st
  have hst1 : st = 0 ∨ st = 1 := by rw [← hst]; split <;> omega
  have hP : (0 : Int) < 10 ^ (d + 1).toNat := Int.pow_pos (by decide)
  generalize hm : 10 * F + st = m
  have hm0 : 0 < m := by omega
  have en : (m.natAbs : Int) = m := by omega
  have hdg : d + 2 < dg m.natAbs := by
    have g1 := (dg_T m (by omega)).2
    have g2 : T (d + 2) ≤ A m := by
      rw [A_int, en, ← T_toNat (e := d + 2) (by omega)]
      refine Rat.intCast_le_intCast.mpr ?_
      rw [ten_split (by omega), show (d + 2).toNat - 1 = (d + 1).toNat by omega]
      omega
    exact T_lt_iff (by grind)
  -- the drop is a multiple of twenty
  obtain ⟨t, ht, hp⟩ : ∃ t : Int, 0 < t ∧ (10 : Int) ^ ((dg m.natAbs : Int) - d).toNat = 20 * t := by
    refine ⟨5 * 10 ^ (((dg m.natAbs : Int) - d).toNat - 2), Int.mul_pos (by decide) (Int.pow_pos (by decide)), ?_⟩
    rw [ten_split (by omega), ten_split (n := ((dg m.natAbs : Int) - d).toNat - 1) (by omega)]
    rw [show ((dg m.natAbs : Int) - d).toNat - 1 - 1 = ((dg m.natAbs : Int) - d).toNat - 2 by omega]
    omega
  obtain ⟨k1, k2⟩ := sticky (F := F) h2 h3 ht hst.symm
  rw [hm] at k1 k2
  have ea : F * (under.natAbs : Int) + R = a := by rw [Int.mul_comm]; exact h1
  rw [ea] at k1 k2
  -- the quotient
  have hUr : (0 : Rat) < ((under.natAbs : Int) : Rat) := Rat.intCast_lt_intCast.mpr hU
  let y : Rat := ((10 * a : Int) : Rat) / ((under.natAbs : Int) : Rat)
  have hy : y * ((under.natAbs : Int) : Rat) = ((10 * a : Int) : Rat) := Rat.div_mul_cancel (by grind)
  have le_y : ∀ c : Int, c * (under.natAbs : Int) ≤ 10 * a → (c : Rat) ≤ y := fun c h => by
    have g : (c : Rat) * ((under.natAbs : Int) : Rat) ≤ y * ((under.natAbs : Int) : Rat) := by
      rw [hy, ← Rat.intCast_mul]; exact Rat.intCast_le_intCast.mpr h
    exact Rat.le_of_mul_le_mul_right g hUr
  have y_le : ∀ c : Int, 10 * a ≤ c * (under.natAbs : Int) → y ≤ (c : Rat) := fun c h => by
    have g : y * ((under.natAbs : Int) : Rat) ≤ (c : Rat) * ((under.natAbs : Int) : Rat) := by
      rw [hy, ← Rat.intCast_mul]; exact Rat.intCast_le_intCast.mpr h
    exact Rat.le_of_mul_le_mul_right g hUr
  have y_lt : ∀ c : Int, 10 * a < c * (under.natAbs : Int) → y < (c : Rat) := fun c h => by
    have g : y * ((under.natAbs : Int) : Rat) < (c : Rat) * ((under.natAbs : Int) : Rat) := by
      rw [hy, ← Rat.intCast_mul]; exact Rat.intCast_lt_intCast.mpr h
    exact Rat.lt_of_mul_lt_mul_right g (Rat.le_of_lt hUr)
  obtain ⟨b1, b2⟩ := dg_T m (by omega)
  rw [A_int, en] at b1 b2
  have c1 : T ((dg m.natAbs : Int) - 1) ≤ y := by
    rw [← T_toNat (e := (dg m.natAbs : Int) - 1) (by omega)] at b1 ⊢
    have g1 := Rat.intCast_le_intCast.mp b1
    refine le_y _ ?_
    rw [ten_split (by omega)] at g1 ⊢
    generalize (10 : Int) ^ (((dg m.natAbs : Int) - 1).toNat - 1) = v at g1 ⊢
    have g2 : v ≤ F := by omega
    have g3 := Int.mul_le_mul_of_nonneg_right g2 (Int.le_of_lt hU)
    have g4 : 10 * v * (under.natAbs : Int) = 10 * (v * under.natAbs) := Int.mul_assoc ..
    omega
  have c2 : y < T (dg m.natAbs : Int) := by
    rw [← T_toNat (e := (dg m.natAbs : Int)) (by omega)] at b2 ⊢
    have g1 := Rat.intCast_lt_intCast.mp b2
    refine y_lt _ ?_
    rw [ten_split (by omega)] at g1 ⊢
    generalize (10 : Int) ^ (((dg m.natAbs : Int)).toNat - 1) = v at g1 ⊢
    have g2 : F + 1 ≤ v := by omega
    have g3 := Int.mul_le_mul_of_nonneg_right g2 (Int.le_of_lt hU)
    have g4 : 10 * v * (under.natAbs : Int) = 10 * (v * under.natAbs) := Int.mul_assoc ..
    have g5 : (F + 1) * (under.natAbs : Int) = F * under.natAbs + under.natAbs := by grind
    omega
  have c3 : 2 * A (y - ((roundUp m (20 * t) : Int) : Rat) * T ((dg m.natAbs : Int) - d)) ≤ T ((dg m.natAbs : Int) - d) := by
    rw [← T_toNat (e := (dg m.natAbs : Int) - d) (by omega), hp]
    generalize roundUp m (20 * t) = k at k1 k2 ⊢
    have hb : A (y - (k : Rat) * ((20 * t : Int) : Rat)) ≤ ((10 * t : Int) : Rat) := by
      refine A_le ?_ ?_
      · have := le_y (k * (20 * t) - 10 * t) (by
          have e1 : (k * (20 * t) - 10 * t) * (under.natAbs : Int) = k * (20 * t) * under.natAbs - 10 * (t * under.natAbs) := by grind
          have e2 : 20 * t * (under.natAbs : Int) = 20 * (t * under.natAbs) := Int.mul_assoc ..
          omega)
        rw [Rat.intCast_sub, Rat.intCast_mul] at this
        grind
      · have := y_le (k * (20 * t) + 10 * t) (by
          have e1 : (k * (20 * t) + 10 * t) * (under.natAbs : Int) = k * (20 * t) * under.natAbs + 10 * (t * under.natAbs) := by grind
          have e2 : 20 * t * (under.natAbs : Int) = 20 * (t * under.natAbs) := Int.mul_assoc ..
          omega)
        rw [Rat.intCast_add, Rat.intCast_mul] at this
        grind
    have e : ((20 * t : Int) : Rat) = 2 * ((10 * t : Int) : Rat) := by
      rw [show (20 * t : Int) = 2 * (10 * t) by omega, Rat.intCast_mul]; rfl
    rw [e] at hb ⊢
    grind
  -- the signs
  generalize hsg : (if (decide (over < 0) != decide (under < 0)) = true then -m else m) = m'
  have hn' : m'.natAbs = m.natAbs := by rw [← hsg]; split <;> omega
  obtain ⟨s, hs1, hs2, hs3⟩ := sign_cases m'
  have key := RD_of (m := m) (e := e - sh - 1) (d := d) (k := roundUp m (20 * t)) (y := y) c3 c1 c2 s hs1
  have eq1 : val (roundDigits m' (e - sh - 1) d) = s * ((roundUp m (20 * t) : Int) : Rat) * T (e - sh - 1 + ((dg m.natAbs : Int) - d)) := by
    unfold roundDigits
    rw [hn', if_pos (by omega)]
    dsimp only
    rw [strip_val, hs3, hp, en]
  have eq2 : (over : Rat) / (under : Rat) * T e = s * y * T (e - sh - 1) := by
    have hT : T e = 10 * T sh * T (e - sh - 1) := by
      rw [← T_ten, ← T_add]; congr 1; omega
    have g1 : (m' : Rat) = s * (m : Rat) := by rw [hs2, hn', en]
    have hmr : (0 : Rat) < (m : Rat) := Rat.intCast_lt_intCast.mpr hm0
    have hou : (over : Rat) * ((under.natAbs : Int) : Rat) = s * ((over.natAbs : Int) : Rat) * (under : Rat) := by
      have e0 : over * (under.natAbs : Int) = (if (decide (over < 0) != decide (under < 0)) = true then -1 else 1) * (over.natAbs : Int) * under := by
        rcases Int.lt_or_le over 0 with p | p <;> rcases Int.lt_or_le under 0 with q | q
        · rw [decide_eq_true p, decide_eq_true q, if_neg (by decide), show (over.natAbs : Int) = -over by omega, show (under.natAbs : Int) = -under by omega]; grind
        · rw [decide_eq_true p, decide_eq_false (by omega), if_pos (by decide), show (over.natAbs : Int) = -over by omega, show (under.natAbs : Int) = under by omega]; grind
        · rw [decide_eq_false (by omega), decide_eq_true q, if_pos (by decide), show (over.natAbs : Int) = over by omega, show (under.natAbs : Int) = -under by omega]; grind
        · rw [decide_eq_false (by omega), decide_eq_false (by omega), if_neg (by decide), show (over.natAbs : Int) = over by omega, show (under.natAbs : Int) = under by omega]; grind
      have e3 : (((if (decide (over < 0) != decide (under < 0)) = true then -1 else 1) : Int) : Rat) = s := by
        rw [← hsg] at g1
        split at g1
        · rename_i h
          rw [if_pos h]
          rw [Rat.intCast_neg] at g1
          have : ((-1 : Int) : Rat) = -1 := rfl
          rcases hs1 with rfl | rfl <;> grind
        · rename_i h
          rw [if_neg h]
          have : ((1 : Int) : Rat) = 1 := rfl
          rcases hs1 with rfl | rfl <;> grind
      rw [← Rat.intCast_mul, e0, Rat.intCast_mul, Rat.intCast_mul, e3]
    have hur : (under : Rat) ≠ 0 := fun h => hu (Rat.intCast_inj.mp (by rw [h]; rfl))
    have e5 : ((10 * a : Int) : Rat) = 10 * (((over.natAbs : Int) : Rat) * T sh) := by rw [Rat.intCast_mul, ha', A_int]; rfl
    rw [e5] at hy
    rw [hT]
    have e6 : (over : Rat) / (under : Rat) * (under : Rat) = over := Rat.div_mul_cancel hur
    generalize (over : Rat) / (under : Rat) = q at *
    have e7 : q * (((under.natAbs : Int) : Rat)) = s * ((over.natAbs : Int) : Rat) := by
      have h8 : (q * (((under.natAbs : Int) : Rat)) - s * ((over.natAbs : Int) : Rat)) * (under : Rat) = 0 := by grind
      rcases Rat.mul_eq_zero.mp h8 with h | h
      · grind
      · exact absurd h hur
    have e8 : (q * (10 * T sh) - s * y) * (((under.natAbs : Int) : Rat)) = 0 := by grind
    rcases Rat.mul_eq_zero.mp e8 with h | h
    · grind
    · grind
  rw [eq1, eq2]
  exact key
theorem quot_RD {over under e d : Int} (hu : under ≠ 0) (hd : 1 ≤ d) : RD d ((over : Rat) / (under : Rat) * T e) (val (roundDigits (quot over under e d).1 (quot over under e d).2 d)) := by
  by_cases ho : over = 0
  · have h := roundDigits_RD (quot over under e d).1 (quot over under e d).2 d
    have e1 : (quot over under e d).1 = 0 := by
      subst ho
      unfold quot
      simp
    rw [e1] at h ⊢
    have e2 : (over : Rat) / (under : Rat) * T e = ((0 : Int) : Rat) * T (quot over under e d).2 := by
      rw [ho]
      have : ((0 : Int) : Rat) = 0 := rfl
      rw [this, Rat.div_def]; grind
    rw [e2]; exact h
  · exact quot_core hu ho hd
end Mine
end
section
namespace Mine
abbrev CQ := Rat × Rat
def cm (u v : CQ) : CQ := (u.1 * v.1 - u.2 * v.2, u.1 * v.2 + u.2 * v.1)
def ca (u v : CQ) : CQ := (u.1 + v.1, u.2 + v.2)
def csu (u v : CQ) : CQ := (u.1 - v.1, u.2 - v.2)
def nq (u : CQ) : Rat := u.1 * u.1 + u.2 * u.2
theorem sq_nn (x : Rat) : 0 ≤ x * x := by
  have := A_sq x
  have h := A_nonneg x
  have := Rat.mul_nonneg h h
  grind
theorem nq_nn (u : CQ) : 0 ≤ nq u := by
  unfold nq
  have := sq_nn u.1
  have := sq_nn u.2
  grind
theorem nq_mul (u v : CQ) : nq (cm u v) = nq u * nq v := by unfold nq cm; grind
theorem cm_comm (u v : CQ) : cm u v = cm v u := by unfold cm; ext <;> grind
theorem cm_assoc (u v w : CQ) : cm (cm u v) w = cm u (cm v w) := by unfold cm; ext <;> grind
theorem sq_le {x y : Rat} (hy : 0 ≤ y) (h : x * x ≤ y * y) : x ≤ y := by
  apply Classical.byContradiction
  intro q
  have h1 : 0 < x - y := by grind
  have h2 : 0 < x + y := by grind
  have h3 := Rat.mul_pos h1 h2
  grind
theorem sq_mono {x y : Rat} (hx : 0 ≤ x) (h : x ≤ y) : x * x ≤ y * y := by
  have h1 := Rat.mul_le_mul_of_nonneg_left h hx
  have h2 := Rat.mul_le_mul_of_nonneg_right h (Rat.le_trans hx h)
  grind
theorem dot_le {u v : CQ} {p q M : Rat} (hp : 0 ≤ p) (hq : 0 ≤ q) (hM : 0 ≤ M) (hu : nq u ≤ p * p * M) (hv : nq v ≤ q * q * M) : u.1 * v.1 + u.2 * v.2 ≤ p * q * M := by
  refine sq_le (Rat.mul_nonneg (Rat.mul_nonneg hp hq) hM) ?_
  have h1 := sq_nn (u.1 * v.2 - u.2 * v.1)
  have h2 := Rat.mul_le_mul_of_nonneg_right hu (nq_nn v)
  have h3 := Rat.mul_le_mul_of_nonneg_left hv (Rat.mul_nonneg (sq_nn p) hM)
  unfold nq at *
  grind
theorem tri {u v : CQ} {p q M : Rat} (hp : 0 ≤ p) (hq : 0 ≤ q) (hM : 0 ≤ M) (hu : nq u ≤ p * p * M) (hv : nq v ≤ q * q * M) : nq (ca u v) ≤ (p + q) * (p + q) * M := by
  have h := dot_le hp hq hM hu hv
  unfold nq ca at *
  grind
/-- w is near z: the error's size within (E - 1) of z's -/
def Nr (E : Rat) (w z : CQ) : Prop := 1 ≤ E ∧ nq (csu w z) ≤ (E - 1) * (E - 1) * nq z
theorem Nr.rfl' (z : CQ) : Nr 1 z z := by
  refine ⟨Rat.le_refl, ?_⟩
  unfold nq csu
  grind
theorem le_mul_one {a b : Rat} (ha : 1 ≤ a) (hb : 1 ≤ b) : 1 ≤ a * b := by
  have := Rat.mul_le_mul_of_nonneg_left hb (show 0 ≤ a by grind)
  grind
theorem Nr.mul {E1 E2 : Rat} {x X y Y : CQ} (h1 : Nr E1 x X) (h2 : Nr E2 y Y) : Nr (E1 * E2) (cm x y) (cm X Y) := by
  obtain ⟨a1, b1⟩ := h1
  obtain ⟨a2, b2⟩ := h2
  have hM := Rat.mul_nonneg (nq_nn X) (nq_nn Y)
  have e1 : 0 ≤ E1 - 1 := by grind
  have e2 : 0 ≤ E2 - 1 := by grind
  have t1 : nq (cm (csu x X) (csu y Y)) ≤ ((E1 - 1) * (E2 - 1)) * ((E1 - 1) * (E2 - 1)) * (nq X * nq Y) := by
    rw [nq_mul]
    have := Rat.mul_le_mul_of_nonneg_right b1 (nq_nn (csu y Y))
    have := Rat.mul_le_mul_of_nonneg_left b2 (Rat.mul_nonneg (sq_nn (E1 - 1)) (nq_nn X))
    grind
  have t2 : nq (cm (csu x X) Y) ≤ (E1 - 1) * (E1 - 1) * (nq X * nq Y) := by
    rw [nq_mul]
    have := Rat.mul_le_mul_of_nonneg_right b1 (nq_nn Y)
    grind
  have t3 : nq (cm X (csu y Y)) ≤ (E2 - 1) * (E2 - 1) * (nq X * nq Y) := by
    rw [nq_mul]
    have := Rat.mul_le_mul_of_nonneg_left b2 (nq_nn X)
    grind
  have s1 := tri (Rat.mul_nonneg e1 e2) e1 hM t1 t2
  have s2 := tri (by have := Rat.mul_nonneg e1 e2; grind) e2 hM s1 t3
  refine ⟨le_mul_one a1 a2, ?_⟩
  have e : csu (cm x y) (cm X Y) = ca (ca (cm (csu x X) (csu y Y)) (cm (csu x X) Y)) (cm X (csu y Y)) := by unfold csu cm ca; ext <;> grind
  rw [e, nq_mul X Y]
  have e3 : ((E1 - 1) * (E2 - 1) + (E1 - 1) + (E2 - 1)) = E1 * E2 - 1 := by grind
  rw [e3] at s2
  exact s2
theorem Nr.round {E δ : Rat} {r f z : CQ} (h : Nr E f z) (hδ : 0 ≤ δ) (hr : nq (csu r f) ≤ δ * δ * nq f) : Nr ((1 + δ) * E) r z := by
  obtain ⟨a, b⟩ := h
  have e1 : 0 ≤ E - 1 := by grind
  have hz := nq_nn z
  have s1 := tri (v := z) (q := 1) e1 (by decide) hz b (by grind)
  have e : ca (csu f z) z = f := by unfold ca csu; ext <;> grind
  rw [e] at s1
  have s2 := Rat.mul_le_mul_of_nonneg_left s1 (sq_nn δ)
  have s3 := tri (u := csu r f) (v := csu f z) (p := δ * E) (Rat.mul_nonneg hδ (by grind)) e1 hz (by grind) b
  have e2 : ca (csu r f) (csu f z) = csu r z := by unfold ca csu; ext <;> grind
  rw [e2] at s3
  refine ⟨le_mul_one (by grind) a, ?_⟩
  grind
def cp (u : CQ) : Nat → CQ
  | 0 => (1, 0)
  | n + 1 => cm (cp u n) u
theorem cm_one (u : CQ) : cm (1, 0) u = u := by unfold cm; ext <;> grind
theorem cm_one' (u : CQ) : cm u (1, 0) = u := by unfold cm; ext <;> grind
theorem cp_sq (u : CQ) : ∀ k : Nat, cp (cm u u) k = cp u (2 * k)
  | 0 => rfl
  | k + 1 => by
    show cm (cp (cm u u) k) (cm u u) = cm (cm (cp u (2 * k)) u) u
    rw [cp_sq u k, cm_assoc]
theorem rpow_sq (a : Rat) : ∀ k : Nat, (a * a) ^ k = a ^ (2 * k)
  | 0 => by rw [Nat.mul_zero, Rat.pow_zero, Rat.pow_zero]
  | k + 1 => by
    rw [Rat.pow_succ, rpow_sq a k, show 2 * (k + 1) = 2 * k + 1 + 1 by omega, Rat.pow_succ, Rat.pow_succ]; grind
def cval (z : Cx) : CQ := (val z.1, val z.2)
theorem cval_prod (x y : Cx) : cval (exactProduct x y) = cm (cval x) (cval y) := by
  unfold cval exactProduct cm
  simp only [val_add, val_mul, val_neg]
  ext <;> grind
def dl (d : Int) : Rat := T (1 - (d + 8)) / 2
theorem dl_nn (d : Int) : 0 ≤ dl d := by
  unfold dl
  have := T_pos (1 - (d + 8))
  grind
theorem A_sq_le {x δ y : Rat} (h : A x ≤ δ * A y) : x * x ≤ δ * δ * (y * y) := by
  have h1 := sq_mono (A_nonneg x) h
  have e1 := A_sq x
  have e2 := A_sq y
  have e3 : (δ * A y) * (δ * A y) = δ * δ * (A y * A y) := by grind
  rw [e3, e1, e2] at h1
  exact h1
theorem two_parts {a b c e δ : Rat} (h1 : (a - b) * (a - b) ≤ δ * δ * (b * b)) (h2 : (c - e) * (c - e) ≤ δ * δ * (e * e)) : nq (csu (a, c) (b, e)) ≤ δ * δ * nq (b, e) := by
  unfold nq csu
  grind
theorem gp_Nr {d : Int} {E : Rat} {x y : Cx} {z : CQ} (h : Nr E (cm (cval x) (cval y)) z) : Nr ((1 + dl d) * E) (cval (guardedProduct x y d)) z := by
  refine h.round (dl_nn d) ?_
  rw [← cval_prod]
  exact two_parts (A_sq_le (RD_rel (roundDigits_RD (exactProduct x y).1.1 (exactProduct x y).1.2 (d + 8)))) (A_sq_le (RD_rel (roundDigits_RD (exactProduct x y).2.1 (exactProduct x y).2.2 (d + 8))))
theorem raisedW_Nr {d : Int} : ∀ (n : Nat) {F G : Rat} {found x : Cx} {Φ Ξ : CQ}, Nr F (cval found) Φ → Nr G (cval x) Ξ → Nr (F * ((1 + dl d) * G) ^ n) (cval (raisedW d found x n)) (cm Φ (cp Ξ n)) := by
  intro n
  induction n using Nat.strongRecOn with
  | ind n ih =>
    intro F G found x Φ Ξ h1 h2
    rw [raisedW]
    split
    · rename_i h
      subst h
      show Nr (F * ((1 + dl d) * G) ^ 0) (cval found) (cm Φ (1, 0))
      rw [cm_one', Rat.pow_zero, Rat.mul_one]
      exact h1
    · rename_i h
      have hx := gp_Nr (d := d) (h2.mul h2)
      split
      · rename_i ho
        have hf := gp_Nr (d := d) (h1.mul h2)
        have key := ih (n / 2) (by omega) hf hx
        have e1 : cm (cm Φ Ξ) (cp (cm Ξ Ξ) (n / 2)) = cm Φ (cp Ξ n) := by
          rw [cp_sq]
          obtain ⟨k, hk⟩ : ∃ k, n = 2 * k + 1 := ⟨n / 2, by omega⟩
          rw [show n / 2 = k by omega, hk, cm_assoc, cm_comm Ξ]
          rfl
        have e2 : (1 + dl d) * (F * G) * ((1 + dl d) * ((1 + dl d) * (G * G))) ^ (n / 2) = F * ((1 + dl d) * G) ^ n := by
          rw [show (1 + dl d) * ((1 + dl d) * (G * G)) = ((1 + dl d) * G) * ((1 + dl d) * G) by grind, rpow_sq]
          obtain ⟨k, hk⟩ : ∃ k, n = 2 * k + 1 := ⟨n / 2, by omega⟩
          rw [show n / 2 = k by omega, hk, Rat.pow_succ]; grind
        rw [e1, e2] at key
        exact key
      · rename_i ho
        have key := ih (n / 2) (by omega) h1 hx
        have e1 : cp (cm Ξ Ξ) (n / 2) = cp Ξ n := by rw [cp_sq]; congr 1; omega
        have e2 : ((1 + dl d) * ((1 + dl d) * (G * G))) ^ (n / 2) = ((1 + dl d) * G) ^ n := by
          rw [show (1 + dl d) * ((1 + dl d) * (G * G)) = ((1 + dl d) * G) * ((1 + dl d) * G) by grind, rpow_sq]; congr 1; omega
        rw [e1, e2] at key
        exact key
theorem raised_Nr (x : Cx) (n : Nat) (d : Int) : Nr ((1 + dl d) ^ n) (cval (raised x n d)) (cp (cval x) n) := by
  have e : cval one = (1, 0) := by
    unfold cval one val
    ext <;> simp [T_zero]
  have h := raisedW_Nr (d := d) n (Nr.rfl' (cval one)) (Nr.rfl' (cval x))
  rw [e, cm_one, Rat.one_mul, Rat.mul_one] at h
  exact h
end Mine
end
section
namespace Mine
def e1 (d : Int) : Rat := T (-(d + 6)) * (321 / 100)
def e2 (d : Int) : Rat := T (-(d + 6)) * (322 / 100)
theorem seven {d : Int} (h1 : 1 ≤ d) (h7 : d ≤ 7) : d = 1 ∨ d = 2 ∨ d = 3 ∨ d = 4 ∨ d = 5 ∨ d = 6 ∨ d = 7 := by omega
theorem num1 : ∀ d ∈ ([1, 2, 3, 4, 5, 6, 7] : List Int), (1 + dl d) ^ 64 - 1 ≤ e1 d ∧ e1 d * e1 d ≤ e2 d * e2 d * (1 - 2 * e1 d) ∧ 0 < 1 - 2 * e1 d := by decide +kernel
theorem pow_le_pow {a : Rat} (ha : 1 ≤ a) {m : Nat} : ∀ {n : Nat}, m ≤ n → 1 ≤ a ^ m ∧ a ^ m ≤ a ^ n := by
  have h1 : ∀ m : Nat, 1 ≤ a ^ m := fun m => by
    induction m with
    | zero => rw [Rat.pow_zero]; exact Rat.le_refl
    | succ m ih => rw [Rat.pow_succ]; exact le_mul_one ih ha
  intro n h
  refine ⟨h1 m, ?_⟩
  induction n with
  | zero => rw [show m = 0 by omega]; exact Rat.le_refl
  | succ n ih =>
    by_cases e : m = n + 1
    · rw [e]; exact Rat.le_refl
    · have := ih (by omega)
      rw [Rat.pow_succ]
      have := Rat.mul_le_mul_of_nonneg_left ha (show 0 ≤ a ^ n by have := h1 n; grind)
      grind
theorem num_all {d : Int} (h1 : 1 ≤ d) (h7 : d ≤ 7) : (1 + dl d) ^ 64 - 1 ≤ e1 d ∧ e1 d * e1 d ≤ e2 d * e2 d * (1 - 2 * e1 d) ∧ 0 < 1 - 2 * e1 d :=
  num1 d (by rcases seven h1 h7 with rfl | rfl | rfl | rfl | rfl | rfl | rfl <;> decide)
theorem e1_nn (d : Int) : 0 ≤ e1 d := by unfold e1; have := T_pos (-(d + 6)); grind
theorem e2_nn (d : Int) : 0 ≤ e2 d := by unfold e2; have := T_pos (-(d + 6)); grind
theorem e1_le (d : Int) : e1 d ≤ e2 d := by unfold e1 e2; have := T_pos (-(d + 6)); grind
/-- the raised number is near the power -/
theorem raised_near {d : Int} {x : Cx} {n : Nat} (h1 : 1 ≤ d) (h7 : d ≤ 7) (hn : n ≤ 64) : nq (csu (cval (raised x n d)) (cp (cval x) n)) ≤ e1 d * e1 d * nq (cp (cval x) n) := by
  obtain ⟨a, b⟩ := raised_Nr x n d
  have h2 := (pow_le_pow (a := 1 + dl d) (by have := dl_nn d; grind) hn).2
  have h3 := (num_all h1 h7).1
  have h4 := sq_mono (x := (1 + dl d) ^ n - 1) (y := e1 d) (by grind) (by grind)
  have h5 := Rat.mul_le_mul_of_nonneg_right h4 (nq_nn (cp (cval x) n))
  exact Rat.le_trans b h5
theorem part_err {ε : Rat} {w v : CQ} (hε : 0 ≤ ε) (h : nq (csu w v) ≤ ε * ε * nq v) : A (w.1 - v.1) ≤ ε * (A v.1 + A v.2) ∧ A (w.2 - v.2) ≤ ε * (A v.1 + A v.2) := by
  have n1 := A_nonneg v.1
  have n2 := A_nonneg v.2
  have hS : 0 ≤ ε * (A v.1 + A v.2) := Rat.mul_nonneg hε (by grind)
  have h1 : nq v ≤ (A v.1 + A v.2) * (A v.1 + A v.2) := by
    have := A_sq v.1
    have := A_sq v.2
    have := Rat.mul_nonneg n1 n2
    unfold nq
    grind
  have h2 := Rat.mul_le_mul_of_nonneg_left h1 (sq_nn ε)
  have s1 := sq_nn (w.1 - v.1)
  have s2 := sq_nn (w.2 - v.2)
  unfold nq csu at h
  dsimp only at h
  refine ⟨sq_le hS ?_, sq_le hS ?_⟩
  · rw [A_sq]; unfold nq at h2; grind
  · rw [A_sq]; unfold nq at h2; grind
def cinv (u : CQ) : CQ := (u.1 / nq u, -u.2 / nq u)
theorem cinv_mul {u : CQ} (h : 0 < nq u) : cm u (cinv u) = (1, 0) := by
  have e0 : nq u ≠ 0 := by grind
  have h1 : u.1 / nq u * nq u = u.1 := Rat.div_mul_cancel e0
  have h2 : -u.2 / nq u * nq u = -u.2 := Rat.div_mul_cancel e0
  have hq : nq u = u.1 * u.1 + u.2 * u.2 := rfl
  unfold cm cinv
  ext
  · show u.1 * (u.1 / nq u) - u.2 * (-u.2 / nq u) = 1
    generalize u.1 / nq u = p at *
    generalize -u.2 / nq u = q at *
    have h4 : (u.1 * p - u.2 * q - 1) * nq u = 0 := by grind
    rcases Rat.mul_eq_zero.mp h4 with h | h
    · grind
    · exact absurd h e0
  · show u.1 * (-u.2 / nq u) + u.2 * (u.1 / nq u) = 0
    generalize u.1 / nq u = p at *
    generalize -u.2 / nq u = q at *
    have h4 : (u.1 * q + u.2 * p) * nq u = 0 := by grind
    rcases Rat.mul_eq_zero.mp h4 with h | h
    · grind
    · exact absurd h e0
theorem nq_one : nq (1, 0) = 1 := by unfold nq; grind
theorem near_pos {ε : Rat} {f V : CQ} (hε : 0 ≤ ε) (h : nq (csu f V) ≤ ε * ε * nq V) : (1 - 2 * ε) * nq V ≤ nq f := by
  have h1 := dot_le (u := (-V.1, -V.2)) (v := csu f V) (p := 1) (q := ε) (M := nq V) (by decide) hε (nq_nn V) (by unfold nq; grind) h
  have h2 := nq_nn (csu f V)
  unfold nq csu at *
  grind
theorem inv_near {ε ε' : Rat} {f V : CQ} (hε : 0 ≤ ε) (h : nq (csu f V) ≤ ε * ε * nq V) (hp : 0 < 1 - 2 * ε) (hc : ε * ε ≤ ε' * ε' * (1 - 2 * ε)) (hV : 0 < nq V) : 0 < nq f ∧ nq (csu (cinv f) (cinv V)) ≤ ε' * ε' * nq (cinv V) := by
  have h1 := near_pos hε h
  have hf : 0 < nq f := by have := Rat.mul_pos hp hV; grind
  refine ⟨hf, ?_⟩
  have ia := cinv_mul hf
  have ib := cinv_mul hV
  have na : nq f * nq (cinv f) = 1 := by rw [← nq_mul, ia]; exact nq_one
  have nb : nq V * nq (cinv V) = 1 := by rw [← nq_mul, ib]; exact nq_one
  generalize cinv f = a at *
  generalize cinv V = b at *
  have pa := nq_nn a
  have pb := nq_nn b
  have e : csu a b = cm (cm (csu V f) a) b := by
    have e3 : cm (cm (csu V f) a) b = csu (cm (cm V b) a) (cm (cm f a) b) := by unfold cm csu; ext <;> grind
    rw [e3, ia, ib, cm_one, cm_one]
  have es : nq (csu V f) = nq (csu f V) := by unfold nq csu; grind
  rw [e, nq_mul, nq_mul, es]
  have g1 := Rat.mul_le_mul_of_nonneg_right h (Rat.mul_nonneg pa pb)
  have g2 := Rat.mul_le_mul_of_nonneg_right h1 (Rat.mul_nonneg pa pb)
  have g3 := Rat.mul_le_mul_of_nonneg_right hc pa
  have g4 : (1 - 2 * ε) * nq a ≤ nq b := by
    have x1 : (1 - 2 * ε) * nq V * (nq a * nq b) = (1 - 2 * ε) * nq a * (nq V * nq b) := by grind
    have x2 : nq f * (nq a * nq b) = nq f * nq a * nq b := by grind
    rw [x1, x2, nb, na] at g2
    grind
  have g5 := Rat.mul_le_mul_of_nonneg_left g4 (sq_nn ε')
  have g6 : ε * ε * nq V * (nq a * nq b) = ε * ε * nq a := by
    have : ε * ε * nq V * (nq a * nq b) = ε * ε * nq a * (nq V * nq b) := by grind
    rw [this, nb]; grind
  grind
end Mine
end
section
namespace Mine
theorem lawLead_T {num den : Int} (hn : num ≠ 0) (hd : 0 < den) : T (lawLead num den) ≤ A ((num : Rat) / den) ∧ A ((num : Rat) / den) < T (lawLead num den + 1) := by
  have hdr : (0 : Rat) < (den : Rat) := Rat.intCast_lt_intCast.mpr hd
  have e : A ((num : Rat) / den) * den = A num := by
    rw [← A_mul_pos (Rat.le_of_lt hdr), Rat.div_mul_cancel (by grind)]
  obtain ⟨a1, a2⟩ := dg_T num hn
  obtain ⟨b1, b2⟩ := dg_T den (by omega)
  have ed : A (den : Rat) = den := by unfold A; grind
  rw [ed] at b1 b2
  generalize A ((num : Rat) / den) = q at *
  have le_of : ∀ x : Rat, x * den ≤ A num → x ≤ q := fun x h => Rat.le_of_mul_le_mul_right (by rw [e]; exact h) hdr
  have lt_of : ∀ x : Rat, A num < x * den → q < x := fun x h => Rat.lt_of_mul_lt_mul_right (by rw [e]; exact h) (Rat.le_of_lt hdr)
  unfold lawLead
  generalize hl : (dg num.natAbs : Int) - dg den.natAbs = l
  dsimp only
  have key : (((num.natAbs : Int) * 10 ^ (max 0 (-l)).toNat : Int) : Rat) = A num * T (max 0 (-l)) := by rw [Rat.intCast_mul, T_toNat (by omega), A_int]
  have key2 : ((den * 10 ^ (max 0 l).toNat : Int) : Rat) = den * T (max 0 l) := by rw [Rat.intCast_mul, T_toNat (by omega)]
  have pT := T_pos (max 0 (-l))
  have eT : T (max 0 l) = T l * T (max 0 (-l)) := by rw [← T_add]; congr 1; omega
  split
  · rename_i h
    have h' := Rat.intCast_lt_intCast.mpr h
    rw [key, key2, eT] at h'
    have h2 : A num < T l * den := Rat.lt_of_mul_lt_mul_right (c := T (max 0 (-l))) (by grind) (Rat.le_of_lt pT)
    refine ⟨le_of _ ?_, by rw [Int.sub_add_cancel]; exact lt_of _ h2⟩
    have h3 := Rat.mul_lt_mul_of_pos_left b2 (T_pos (l - 1))
    rw [← T_add, show l - 1 + (dg den.natAbs : Int) = (dg num.natAbs : Int) - 1 by omega] at h3
    grind
  · rename_i h
    have h' := Rat.intCast_le_intCast.mpr (Int.not_lt.mp h)
    rw [key, key2, eT] at h'
    have h2 : T l * den ≤ A num := Rat.le_of_mul_le_mul_right (c := T (max 0 (-l))) (by grind) pT
    refine ⟨le_of _ h2, lt_of _ ?_⟩
    have h3 := Rat.mul_le_mul_of_nonneg_left b1 (Rat.le_of_lt (T_pos (l + 1)))
    rw [← T_add, show l + 1 + ((dg den.natAbs : Int) - 1) = (dg num.natAbs : Int) by omega] at h3
    grind
theorem lawNear_of {p : Rl} {num den size d : Int} (hd : 0 < den) (h : A (val p - (num : Rat) / den) ≤ T (lawNearby size den d) + (if num ≠ 0 then T (lawUnit num den size d) else 0)) : LawNear p num den size d := by
  have hdr : (0 : Rat) < (den : Rat) := Rat.intCast_lt_intCast.mpr hd
  unfold LawNear
  have b1 : 0 ≤ p.2 - lawLow p num den size d ∧ 0 ≤ -lawLow p num den size d ∧ 0 ≤ lawNearby size den d - lawLow p num den size d ∧ 0 ≤ lawUnit num den size d - lawLow p num den size d := by unfold lawLow; omega
  generalize lawLow p num den size d = low at *
  obtain ⟨b1, b2, b3, b4⟩ := b1
  refine Rat.intCast_le_intCast.mp ?_
  rw [← A_int, Rat.intCast_sub, Rat.intCast_mul, Rat.intCast_mul, Rat.intCast_mul, Rat.intCast_mul, Rat.intCast_add, T_toNat b1, T_toNat b2, T_toNat b3]
  have e0 : ((if num ≠ 0 then (10 : Int) ^ (lawUnit num den size d - low).toNat else 0 : Int) : Rat) = if num ≠ 0 then T (lawUnit num den size d - low) else 0 := by
    split
    · exact T_toNat b4
    · rfl
  rw [e0]
  have pl := T_pos (-low)
  have e1 : (p.1 : Rat) * T (p.2 - low) * den - num * T (-low) = (val p - (num : Rat) / den) * (den * T (-low)) := by
    have h1 : (num : Rat) / den * den = num := Rat.div_mul_cancel (by grind)
    have h2 : T (p.2 - low) = T p.2 * T (-low) := by rw [← T_add]; congr 1
    unfold val
    rw [h2]
    generalize (num : Rat) / den = q at *
    grind
  have pp := Rat.mul_pos hdr pl
  rw [e1, A_mul_pos (Rat.le_of_lt pp)]
  have h2 := Rat.mul_le_mul_of_nonneg_right h (Rat.le_of_lt pp)
  have e3 : T (lawNearby size den d - low) = T (lawNearby size den d) * T (-low) := by rw [← T_add]; congr 1
  have e4 : T (lawUnit num den size d - low) = T (lawUnit num den size d) * T (-low) := by rw [← T_add]; congr 1
  rw [e3, e4]
  by_cases h0 : num ≠ 0
  · rw [if_pos h0] at h2 ⊢
    grind
  · rw [if_neg h0] at h2 ⊢
    grind
theorem roundReal_cases {m e d t : Int} {w : Rat} (hd : 1 ≤ d) (h : RD d w (val (roundDigits m e d))) :
    (roundReal m e d t = some (0, 0) ∧ A w < T (-t)) ∨ (roundReal m e d t = none ∧ T (t + 1) ≤ A (val (roundDigits m e d))) ∨ (roundReal m e d t = some (roundDigits m e d) ∧ A (val (roundDigits m e d)) < T (t + 1)) := by
  unfold roundReal
  generalize roundDigits m e d = x at *
  dsimp only
  by_cases h0 : x.1 = 0
  · left
    rw [if_pos (.inl h0)]
    refine ⟨rfl, ?_⟩
    rw [val_zero h0] at h
    rw [RD_zero hd h]
    exact T_pos _
  · obtain ⟨l1, l2⟩ := lead_T x h0
    by_cases h1 : x.2 + dg x.1.natAbs - 1 < -t
    · left
      rw [if_pos (.inr h1)]
      refine ⟨rfl, ?_⟩
      apply Classical.byContradiction
      intro q
      have h2 := RD_ge (j := -t) hd h (by grind)
      have h3 := T_le (a := x.2 + dg x.1.natAbs) (b := -t) (by omega)
      grind
    · right
      rw [if_neg (by omega)]
      by_cases h2 : x.2 + dg x.1.natAbs - 1 > t
      · left
        rw [if_pos h2]
        exact ⟨rfl, Rat.le_trans (T_le (by omega)) l1⟩
      · right
        rw [if_neg h2]
        have h3 := T_le (a := x.2 + dg x.1.natAbs) (b := t + 1) (by omega)
        exact ⟨rfl, by grind⟩
/-- one part of the answer -/
structure PartIn (w : Rat) (num den size d t : Int) : Prop where
  den0 : 0 < den
  size0 : size ≠ 0
  d1 : 1 ≤ d
  sz : A ((size : Rat) / den) = (size : Rat) / den
  err : A (w - (num : Rat) / den) ≤ e2 d * ((size : Rat) / den)
theorem PartIn.half {w : Rat} {num den size d t : Int} (h : PartIn w num den size d t) : 2 * A (w - (num : Rat) / den) < T (lawNearby size den d) := by
  have h1 := (lawLead_T h.size0 h.den0).2
  rw [h.sz] at h1
  have h2 := h.err
  have e : lawLead size den + 1 = lawNearby size den d + (d + 6) - 1 := by unfold lawNearby; omega
  rw [e] at h1
  have h3 : T (lawNearby size den d + (d + 6) - 1) * T (-(d + 6)) = T (lawNearby size den d - 1) := by rw [← T_add]; congr 1; omega
  have h4 : T (lawNearby size den d) = 10 * T (lawNearby size den d - 1) := by rw [← T_ten]; congr 1; omega
  have h5 := T_pos (lawNearby size den d - 1)
  have h6 := Rat.mul_lt_mul_of_pos_right h1 (T_pos (-(d + 6)))
  unfold e2 at h2
  grind
theorem PartIn.near {w : Rat} {num den size d t : Int} (h : PartIn w num den size d t) {p : Rl} (hr : RD d w (val p)) : LawNear p num den size d := by
  have hh := h.half
  have hdr : (0 : Rat) < (den : Rat) := Rat.intCast_lt_intCast.mpr h.den0
  refine lawNear_of h.den0 ?_
  have h0 : ((num : Rat) / den ≠ 0) → num ≠ 0 := fun q z => q (by
    rw [z]
    have : ((0 : Int) : Rat) = 0 := rfl
    rw [this, Rat.div_def]; grind)
  rcases RD_true (u := lawUnit num den size d) (v := (num : Rat) / den) h.d1 hr (fun q => by
    have h1 := (lawLead_T (h0 q) h.den0).2
    unfold lawUnit
    rw [if_pos (h0 q)]
    rwa [show lawLead num den - d + 1 + d = lawLead num den + 1 by omega]) with h1 | ⟨h1, h2⟩
  · have h3 : (0 : Rat) ≤ if num ≠ 0 then T (lawUnit num den size d) else 0 := by
      split
      · exact Rat.le_of_lt (T_pos _)
      · exact Rat.le_refl
    grind
  · rw [if_pos (h0 h1)]
    have := A_nonneg (w - (num : Rat) / den)
    grind
theorem PartIn.zero {w : Rat} {num den size d t : Int} (h : PartIn w num den size d t) (hw : A w < T (-t)) (hedge : num ≠ 0 → ¬ (t - 1 ≤ ((lawLead num den).natAbs : Int) ∧ ((lawLead num den).natAbs : Int) ≤ t + 1)) (ht : 2 ≤ t) : lawPartB (0, 0) num den size d t = true := by
  unfold lawPartB
  rw [Bool.or_eq_true]
  by_cases h0 : num = 0
  · left; exact decide_eq_true ⟨rfl, .inl h0⟩
  · by_cases h1 : lawLead num den < -t
    · left; exact decide_eq_true ⟨rfl, .inr h1⟩
    · right
      refine lawNearB_of (lawNear_of h.den0 ?_)
      have hh := h.half
      have h2 := hedge h0
      obtain ⟨l1, l2⟩ := lawLead_T h0 h.den0
      have h3 := T_le (a := -t + 2) (b := lawLead num den) (by omega)
      have h4 : T (-t + 2) = 100 * T (-t) := by rw [show -t + 2 = -t + 1 + 1 by omega, T_ten, T_ten]; grind
      have h5 := A_w_le ((num : Rat) / den) w
      rw [A_sub_comm] at h5
      have h6 : A (val (0, 0) - (num : Rat) / den) = A ((num : Rat) / den) := by
        rw [val_zero rfl, show (0 : Rat) - (num : Rat) / den = -((num : Rat) / den) by grind, A_neg]
      rw [h6, if_pos h0]
      have h7 := T_pos (lawUnit num den size d)
      have h8 := T_pos (-t)
      grind
end Mine
end
section
namespace Mine
theorem e2_small {d : Int} (h : 1 ≤ d) : e2 d ≤ 1 / 4 := by
  have h1 := T_le (a := -(d + 6)) (b := -2) (by omega)
  have h2 : T (-2 : Int) * (322 / 100) ≤ 1 / 4 := by decide +kernel
  have h3 := Rat.mul_le_mul_of_nonneg_right (c := 322 / 100) h1 (by decide +kernel)
  exact Rat.le_trans h3 h2
theorem strip_abs (m e : Int) : (strip m e).1.natAbs ≤ m.natAbs := by
  have h : ∀ m e, (stripW m e).1.natAbs ≤ m.natAbs := fun m e => by
    induction m, e using stripW.induct with
    | case1 m e h ih =>
      rw [stripW, dif_pos h]
      omega
    | case2 m e h => rw [stripW, dif_neg h]; exact Nat.le_refl _
  unfold strip
  split
  · exact Nat.zero_le _
  · exact h m e
theorem roundUp_le {a p c : Int} (hp : 0 < p) (ha : 0 ≤ a) (h : a < c * p) : 0 ≤ roundUp a p ∧ roundUp a p ≤ c := by
  have h1 : a / p < c := Int.ediv_lt_of_lt_mul hp h
  have h2 : 0 ≤ a / p := Int.ediv_nonneg ha (Int.le_of_lt hp)
  unfold roundUp
  split <;> omega
theorem roundDigits_abs {m e d : Int} (hd : 0 ≤ d) : (roundDigits m e d).1.natAbs ≤ 10 ^ d.toNat := by
  unfold roundDigits
  split
  · rename_i h
    dsimp only
    refine Nat.le_trans (strip_abs _ _) ?_
    have hm : m.natAbs ≠ 0 := fun z => by rw [z, dg_zero] at h; omega
    obtain ⟨_, h2, _⟩ := dg_spec m.natAbs hm
    have hp : (0 : Int) < 10 ^ ((dg m.natAbs : Int) - d).toNat := Int.pow_pos (by decide)
    have h3 : (m.natAbs : Int) < 10 ^ d.toNat * 10 ^ ((dg m.natAbs : Int) - d).toNat := by
      rw [← Int.pow_add, show d.toNat + ((dg m.natAbs : Int) - d).toNat = dg m.natAbs by omega]
      have := Int.ofNat_lt.mpr h2
      rwa [Int.natCast_pow] at this
    obtain ⟨k1, k2⟩ := roundUp_le hp (by omega) h3
    have h4 : ((10 ^ d.toNat : Nat) : Int) = (10 : Int) ^ d.toNat := Int.natCast_pow ..
    generalize (10 : Int) ^ d.toNat = c at *
    split <;> omega
  · rename_i h
    refine Nat.le_trans (strip_abs _ _) ?_
    by_cases hm : m.natAbs = 0
    · rw [hm]; exact Nat.zero_le _
    · obtain ⟨_, h2, _⟩ := dg_spec m.natAbs hm
      exact Nat.le_trans (Nat.le_of_lt h2) (Nat.pow_le_pow_right (by decide) (by omega))
theorem parts_none {x y : Rl} {d t : Int} (h : roundReal x.1 x.2 d t = none ∨ roundReal y.1 y.2 d t = none) : roundParts (x, y) d t = none := by
  unfold roundParts
  dsimp only
  rcases h with h | h
  · rw [h]; rfl
  · rw [h]; cases roundReal x.1 x.2 d t <;> rfl
theorem parts_some {x y a b : Rl} {d t : Int} (h1 : roundReal x.1 x.2 d t = some a) (h2 : roundReal y.1 y.2 d t = some b) : roundParts (x, y) d t = some (a, b) := by
  unfold roundParts
  dsimp only
  rw [h1, h2]; rfl
structure Both (x y : Rl) (w0 w1 : Rat) (n0 n1 den d t : Int) : Prop where
  den0 : 0 < den
  nz : ¬ (n0 = 0 ∧ n1 = 0)
  d1 : 1 ≤ d
  d7 : d ≤ 7
  t2 : 2 ≤ t
  r0 : RD d w0 (val (roundDigits x.1 x.2 d))
  r1 : RD d w1 (val (roundDigits y.1 y.2 d))
  err0 : A (w0 - (n0 : Rat) / den) ≤ e2 d * (A ((n0 : Rat) / den) + A ((n1 : Rat) / den))
  err1 : A (w1 - (n1 : Rat) / den) ≤ e2 d * (A ((n0 : Rat) / den) + A ((n1 : Rat) / den))
  g0 : n0 ≠ 0 → ¬ (t - 1 ≤ ((lawLead n0 den).natAbs : Int) ∧ ((lawLead n0 den).natAbs : Int) ≤ t + 1)
  g1 : n1 ≠ 0 → ¬ (t - 1 ≤ ((lawLead n1 den).natAbs : Int) ∧ ((lawLead n1 den).natAbs : Int) ≤ t + 1)
section
variable {x y : Rl} {w0 w1 : Rat} {n0 n1 den d t : Int}
theorem size_eq (hd : 0 < den) : (((n0.natAbs + n1.natAbs : Int) : Rat)) / den = A ((n0 : Rat) / den) + A ((n1 : Rat) / den) := by
  have hdr : (0 : Rat) < (den : Rat) := Rat.intCast_lt_intCast.mpr hd
  have e : ∀ n : Int, A ((n : Rat) / den) = ((n.natAbs : Int) : Rat) / den := fun n => by
    have h1 : A ((n : Rat) / den) * den = ((n.natAbs : Int) : Rat) := by
      rw [← A_mul_pos (Rat.le_of_lt hdr), Rat.div_mul_cancel (by grind), A_int]
    have h2 : ((n.natAbs : Int) : Rat) / den * den = ((n.natAbs : Int) : Rat) := Rat.div_mul_cancel (by grind)
    have h3 : (A ((n : Rat) / den) - ((n.natAbs : Int) : Rat) / den) * den = 0 := by grind
    rcases Rat.mul_eq_zero.mp h3 with h | h
    · grind
    · grind
  rw [e, e, Rat.intCast_add, Rat.div_def, Rat.div_def, Rat.div_def]; grind
theorem Both.in0 (h : Both x y w0 w1 n0 n1 den d t) : PartIn w0 n0 den (n0.natAbs + n1.natAbs) d t := by
  refine ⟨h.den0, by have := h.nz; omega, h.d1, ?_, ?_⟩
  · rw [size_eq h.den0]
    have := A_nonneg ((n0 : Rat) / den)
    have := A_nonneg ((n1 : Rat) / den)
    unfold A at *; grind
  · rw [size_eq h.den0]; exact h.err0
theorem Both.in1 (h : Both x y w0 w1 n0 n1 den d t) : PartIn w1 n1 den (n0.natAbs + n1.natAbs) d t := by
  refine ⟨h.den0, by have := h.nz; omega, h.d1, ?_, ?_⟩
  · rw [size_eq h.den0]
    have := A_nonneg ((n0 : Rat) / den)
    have := A_nonneg ((n1 : Rat) / den)
    unfold A at *; grind
  · rw [size_eq h.den0]; exact h.err1
theorem big_none {m e : Int} {w v S : Rat} (hd : 1 ≤ d) (ht : 2 ≤ t) (h : RD d w (val (roundDigits m e d))) (he : A (w - v) ≤ e2 d * S) (hS : S ≤ 2 * A v) (hv : T (t + 2) ≤ A v) : roundReal m e d t = none := by
  have h1 := A_w_le v w
  rw [A_sub_comm] at h1
  have h2 := e2_small hd
  have h3 := e2_nn d
  have h4 := Rat.mul_le_mul_of_nonneg_left hS h3
  have h5 := Rat.mul_le_mul_of_nonneg_right h2 (A_nonneg v)
  have h6 : T (t + 2) = 10 * T (t + 1) := by rw [← T_ten]; congr 1; omega
  have h7 := T_pos (t + 1)
  have h8 : T (t + 1) ≤ A w := by grind
  have h9 := RD_ge hd h h8
  rcases roundReal_cases (t := t) hd h with ⟨_, q⟩ | ⟨q, _⟩ | ⟨_, q⟩
  · have := T_le (a := -t) (b := t + 1) (by omega)
    grind
  · exact q
  · grind
theorem lead_big {n : Int} (hn : n ≠ 0) (hd : 0 < den) (ht : 2 ≤ t) (hg : ¬ (t - 1 ≤ ((lawLead n den).natAbs : Int) ∧ ((lawLead n den).natAbs : Int) ≤ t + 1)) (h : lawLead n den > t) : T (t + 2) ≤ A ((n : Rat) / den) :=
  Rat.le_trans (T_le (by omega)) (lawLead_T hn hd).1
theorem Both.none_of (h : Both x y w0 w1 n0 n1 den d t) (ho : (n0 ≠ 0 ∧ lawLead n0 den > t) ∨ (n1 ≠ 0 ∧ lawLead n1 den > t)) : roundParts (x, y) d t = none := by
  have hb : T (t + 2) ≤ A ((n0 : Rat) / den) ∨ T (t + 2) ≤ A ((n1 : Rat) / den) := by
    rcases ho with ⟨a, b⟩ | ⟨a, b⟩
    · exact .inl (lead_big a h.den0 h.t2 (h.g0 a) b)
    · exact .inr (lead_big a h.den0 h.t2 (h.g1 a) b)
  apply parts_none
  by_cases hc : A ((n0 : Rat) / den) ≤ A ((n1 : Rat) / den)
  · right; exact big_none h.d1 h.t2 h.r1 h.err1 (by grind) (by grind)
  · left; exact big_none h.d1 h.t2 h.r0 h.err0 (by grind) (by grind)
theorem lead_small {n : Int} (hd : 0 < den) (ht : 2 ≤ t) (hg : n ≠ 0 → ¬ (t - 1 ≤ ((lawLead n den).natAbs : Int) ∧ ((lawLead n den).natAbs : Int) ≤ t + 1)) (h : n ≠ 0 → ¬ lawLead n den > t) : A ((n : Rat) / den) < T (t - 1) := by
  by_cases hn : n = 0
  · rw [hn]
    have : ((0 : Int) : Rat) / den = 0 := by
      have : ((0 : Int) : Rat) = 0 := rfl
      rw [this, Rat.div_def]; grind
    rw [this]
    exact T_pos _
  · have h1 := hg hn
    have h2 := h hn
    have h3 := (lawLead_T hn hd).2
    have h4 := T_le (a := lawLead n den + 1) (b := t - 1) (by omega)
    grind
def SzP (x : Rl) : Prop := x.1.natAbs < 10 ^ 2600 ∧ x.2.natAbs < 100000
theorem part_some {m e n size : Int} {w S : Rat} (hin : PartIn w n den size d t) (h : RD d w (val (roundDigits m e d))) (hd7 : d ≤ 7) (ht : 2 ≤ t) (ht2 : t ≤ 100) (hS : S < 2 * T (t - 1)) (he : A (w - (n : Rat) / den) ≤ e2 d * S)
    (hg : n ≠ 0 → ¬ (t - 1 ≤ ((lawLead n den).natAbs : Int) ∧ ((lawLead n den).natAbs : Int) ≤ t + 1)) (hv : A ((n : Rat) / den) < T (t - 1)) : ∃ p, roundReal m e d t = some p ∧ lawPartB p n den size d t = true ∧ SzP p := by
  have hd := hin.d1
  have h1 := A_w_le w ((n : Rat) / den)
  have h2 := e2_small hd
  have h3 := Rat.mul_le_mul_of_nonneg_left (Rat.le_of_lt hS) (e2_nn d)
  have h4 := Rat.mul_le_mul_of_nonneg_right h2 (Rat.le_of_lt (T_pos (t - 1)))
  have h5 : T t = 10 * T (t - 1) := by rw [← T_ten]; congr 1; omega
  have h6 := T_pos (t - 1)
  have h7 : A w < T t := by grind
  have h8 := RD_le hd h h7
  rcases roundReal_cases (t := t) hd h with ⟨q, hw⟩ | ⟨_, q⟩ | ⟨q, _⟩
  · exact ⟨_, q, hin.zero hw hg ht, by decide +kernel, by decide⟩
  · have := T_lt (a := t) (b := t + 1) (by omega)
    grind
  · refine ⟨_, q, ?_, ?_⟩
    · unfold lawPartB
      rw [Bool.or_eq_true]
      exact .inr (lawNearB_of (hin.near h))
    · have b1 := roundDigits_abs (m := m) (e := e) (d := d) (by omega)
      refine ⟨Nat.lt_of_le_of_lt b1 (Nat.lt_of_le_of_lt (Nat.pow_le_pow_right (by decide) (show d.toNat ≤ 7 by omega)) (by decide +kernel)), ?_⟩
      unfold roundReal at q
      generalize roundDigits m e d = r at *
      dsimp only at q
      by_cases c1 : r.1 = 0 ∨ r.2 + dg r.1.natAbs - 1 < -t
      · rw [if_pos c1] at q
        have := (Option.some.inj q).symm
        rw [this]; decide
      · rw [if_neg c1] at q
        by_cases c2 : r.2 + dg r.1.natAbs - 1 > t
        · rw [if_pos c2] at q; cases q
        · have b3 : dg r.1.natAbs ≤ 8 := by
            have c3 := (dg_T r.1 (by omega)).1
            have c4 : A (r.1 : Rat) ≤ T d := by
              rw [A_int, ← T_toNat (e := d) (by omega)]
              refine Rat.intCast_le_intCast.mpr ?_
              have := Int.ofNat_le.mpr b1
              rwa [Int.natCast_pow] at this
            have c5 : T ((dg r.1.natAbs : Int) - 1) < T (d + 1) := by
              have := T_lt (a := d) (b := d + 1) (by omega)
              grind
            have := T_lt_iff c5
            omega
          omega
theorem Both.some_of (h : Both x y w0 w1 n0 n1 den d t) (ht : t ≤ 100) (o0 : n0 ≠ 0 → ¬ lawLead n0 den > t) (o1 : n1 ≠ 0 → ¬ lawLead n1 den > t) :
    ∃ z, roundParts (x, y) d t = some z ∧ SzP z.1 ∧ SzP z.2 ∧ lawPartB z.1 n0 den (n0.natAbs + n1.natAbs) d t = true ∧ lawPartB z.2 n1 den (n0.natAbs + n1.natAbs) d t = true := by
  have s0 := lead_small h.den0 h.t2 h.g0 o0
  have s1 := lead_small h.den0 h.t2 h.g1 o1
  obtain ⟨p, p1, p2, p3⟩ := part_some h.in0 h.r0 h.d7 h.t2 ht (by grind) h.err0 h.g0 s0
  obtain ⟨q, q1, q2, q3⟩ := part_some h.in1 h.r1 h.d7 h.t2 ht (by grind) h.err1 h.g1 s1
  exact ⟨(p, q), parts_some p1 q1, p3, q3, p2, q2⟩
end
end Mine
end
section
namespace Mine
/-- what the script's ranges give -/
structure Rg (q : Par) : Prop where
  d1 : 1 ≤ q.d
  d7 : q.d ≤ 7
  t1 : 10 ≤ q.t
  t2 : q.t ≤ 49
  n1 : 17 ≤ q.n.natAbs
  n2 : q.n.natAbs ≤ 64
  p : q.p = q.d - 1
  a : q.a.natAbs < 2 * 10 ^ q.p.toNat
  b : q.b.natAbs < 2 * 10 ^ q.p.toNat
theorem mod_bnd (v : Int) (p : Nat) : (v % (4 * 10 ^ p - 1) - (2 * 10 ^ p - 1)).natAbs < 2 * 10 ^ p := by
  have h : (0 : Int) < 10 ^ p := Int.pow_pos (by decide)
  have e : ((10 ^ p : Nat) : Int) = (10 : Int) ^ p := Int.natCast_pow ..
  have h1 := Int.emod_nonneg v (show (4 * 10 ^ p - 1 : Int) ≠ 0 by omega)
  have h2 := Int.emod_lt_of_pos v (show (0 : Int) < 4 * 10 ^ p - 1 by omega)
  generalize (10 : Int) ^ p = f at *
  generalize 10 ^ p = g at *
  omega
theorem rg_of (ns : List Int) : Rg (parOf ns) := by
  have hz : (0 : Nat) < 2 * 10 ^ (parOf ns).p.toNat := Nat.mul_pos (by decide) (Nat.pos_of_ne_zero (fun h => by have := Nat.pow_pos (n := (parOf ns).p.toNat) (show 0 < 10 by decide); omega))
  have ha : (parOf ns).a.natAbs < 2 * 10 ^ (parOf ns).p.toNat := by
    show (if lawAt ns 5 % 8 = 1 then (0 : Int) else _).natAbs < _
    split
    · exact hz
    · exact mod_bnd _ _
  refine ⟨?_, ?_, ?_, ?_, ?_, ?_, rfl, ha, ?_⟩
  · show 1 ≤ 1 + lawAt ns 0 % 7; omega
  · show 1 + lawAt ns 0 % 7 ≤ 7; omega
  · show 10 ≤ 10 + lawAt ns 1 % 40; omega
  · show 10 + lawAt ns 1 % 40 ≤ 49; omega
  · show 17 ≤ (if lawAt ns 2 / 48 % 2 = 0 then 17 + lawAt ns 2 % 48 else -(17 + lawAt ns 2 % 48)).natAbs
    split <;> omega
  · show (if lawAt ns 2 / 48 % 2 = 0 then 17 + lawAt ns 2 % 48 else -(17 + lawAt ns 2 % 48)).natAbs ≤ 64
    split <;> omega
  · show (if lawAt ns 5 % 8 = 2 then (0 : Int) else if lawAt ns 5 % 8 = 3 then (parOf ns).a else _).natAbs < _
    split
    · exact hz
    · split
      · exact ha
      · exact mod_bnd _ _
variable {q : Par}
theorem Par.cval_x (q : Par) : cval q.x = ((q.a : Rat) * T (-q.p), (q.b : Rat) * T (-q.p)) := by
  unfold cval Par.x
  rw [strip_val, strip_val]
theorem cp_law (a b : Int) (p : Int) : ∀ n : Nat, cp ((a : Rat) * T (-p), (b : Rat) * T (-p)) n = (((lawPower a b n).1 : Rat) * T (-(p * n)), ((lawPower a b n).2 : Rat) * T (-(p * n)))
  | 0 => by
    show ((1 : Rat), (0 : Rat)) = (((1 : Int) : Rat) * _, ((0 : Int) : Rat) * _)
    have e1 : ((1 : Int) : Rat) = 1 := rfl
    have e2 : ((0 : Int) : Rat) = 0 := rfl
    have e3 : T (-(p * ((0 : Nat) : Int))) = 1 := by rw [show -(p * ((0 : Nat) : Int)) = 0 by simp, T_zero]
    rw [e1, e2, e3]; ext <;> grind
  | n + 1 => by
    show cm (cp _ n) _ = _
    rw [cp_law a b p n]
    have e : T (-(p * ((n + 1 : Nat) : Int))) = T (-(p * n)) * T (-p) := by rw [← T_add]; congr 1; rw [Int.natCast_add, Int.mul_add]; omega
    have el : lawPower a b (n + 1) = ((lawPower a b n).1 * a - (lawPower a b n).2 * b, (lawPower a b n).1 * b + (lawPower a b n).2 * a) := rfl
    rw [e, el]
    generalize lawPower a b n = l
    unfold cm
    simp only [Rat.intCast_sub, Rat.intCast_add, Rat.intCast_mul]
    ext <;> grind
theorem cp_pos {u : CQ} (h : 0 < nq u) : ∀ n : Nat, 0 < nq (cp u n)
  | 0 => by rw [show cp u 0 = (1, 0) from rfl, nq_one]; decide
  | n + 1 => by
    rw [show cp u (n + 1) = cm (cp u n) u from rfl, nq_mul]
    exact Rat.mul_pos (cp_pos h n) h
theorem nq_pos {a b : Rat} (h : ¬ (a = 0 ∧ b = 0)) : 0 < nq (a, b) := by
  have h1 := sq_nn a
  have h2 := sq_nn b
  have h3 : nq (a, b) = a * a + b * b := rfl
  rw [h3]
  apply Classical.byContradiction
  intro hn
  have e1 : a * a = 0 := by grind
  have e2 : b * b = 0 := by grind
  refine h ⟨?_, ?_⟩
  · rcases Rat.mul_eq_zero.mp e1 with h | h <;> exact h
  · rcases Rat.mul_eq_zero.mp e2 with h | h <;> exact h
theorem int_ne {a : Int} (h : a ≠ 0) : (a : Rat) ≠ 0 := fun e => h (Rat.intCast_inj.mp (by rw [e]; rfl))
theorem Par.V_pos (hz : ¬ (q.a = 0 ∧ q.b = 0)) (n : Nat) : 0 < nq (cp (cval q.x) n) := by
  apply cp_pos
  rw [q.cval_x]
  have hp := T_pos (-q.p)
  refine nq_pos fun ⟨h1, h2⟩ => hz ⟨?_, ?_⟩
  · apply Classical.byContradiction
    intro c
    rcases Rat.mul_eq_zero.mp h1 with h | h
    · exact int_ne c h
    · grind
  · apply Classical.byContradiction
    intro c
    rcases Rat.mul_eq_zero.mp h2 with h | h
    · exact int_ne c h
    · grind
theorem div_of {a b c : Rat} (hb : b ≠ 0) (h : a = c * b) : a / b = c := by
  have h1 : a / b * b = a := Rat.div_mul_cancel hb
  have h2 : (a / b - c) * b = 0 := by grind
  rcases Rat.mul_eq_zero.mp h2 with h | h
  · grind
  · exact absurd h hb
theorem Par.ten_pos (q : Par) : 0 < q.ten := Int.pow_pos (by decide)
theorem Par.ten_T (g : Rg q) : (q.ten : Rat) * T (-(q.p * q.n.natAbs)) = 1 := by
  have h : 0 ≤ q.p * (q.n.natAbs : Int) := Int.mul_nonneg (by have := g.p; have := g.d1; omega) (by omega)
  unfold Par.ten
  rw [T_toNat h, ← T_add, show q.p * (q.n.natAbs : Int) + -(q.p * q.n.natAbs) = 0 by omega, T_zero]
/-- the power's parts by the law's whole numbers -/
theorem Par.V_eq (q : Par) : cp (cval q.x) q.n.natAbs = ((q.xy.1 : Rat) * T (-(q.p * q.n.natAbs)), (q.xy.2 : Rat) * T (-(q.p * q.n.natAbs))) := by
  rw [q.cval_x, cp_law]; rfl
theorem self_pos {x : Int} (h : x ≠ 0) : 0 < x * x := by
  rcases Int.lt_or_gt_of_ne h with h | h
  · exact Int.mul_pos_of_neg_of_neg h h
  · exact Int.mul_pos h h
theorem sum_sq {x y : Int} (h : ¬ (x = 0 ∧ y = 0)) : 0 < x * x + y * y := by
  by_cases c1 : x = 0
  · have := self_pos (x := y) fun z => h ⟨c1, z⟩
    rw [c1]; omega
  · have h1 := self_pos c1
    by_cases c2 : y = 0
    · rw [c2]; omega
    · have := self_pos c2
      omega
theorem Par.den_pos (hz : ¬ (q.a = 0 ∧ q.b = 0)) : 0 < q.den := by
  unfold Par.den
  split
  · exact q.ten_pos
  · have h := Par.V_pos hz q.n.natAbs
    rw [q.V_eq] at h
    by_cases c : q.xy.1 = 0 ∧ q.xy.2 = 0
    · rw [c.1, c.2] at h
      have e2 : ((0 : Int) : Rat) = 0 := rfl
      unfold nq at h
      rw [e2] at h
      grind
    · exact sum_sq c
/-- what the law tells as the true parts -/
theorem Par.true_pos (g : Rg q) (hn : q.n > 0) : ((q.P0 : Rat) / q.den, (q.P1 : Rat) / q.den) = cp (cval q.x) q.n.natAbs := by
  rw [q.V_eq]
  have e0 : q.P0 = q.xy.1 := if_pos hn
  have e1 : q.P1 = q.xy.2 := if_pos hn
  have e2 : q.den = q.ten := if_pos hn
  have h := Par.ten_T g
  have h0 := int_ne (Int.ne_of_gt q.ten_pos)
  rw [e0, e1, e2]
  ext
  · exact div_of h0 (by grind)
  · exact div_of h0 (by grind)
theorem Par.true_neg (g : Rg q) (hn : ¬ q.n > 0) (hz : ¬ (q.a = 0 ∧ q.b = 0)) : ((q.P0 : Rat) / q.den, (q.P1 : Rat) / q.den) = cinv (cp (cval q.x) q.n.natAbs) := by
  have e0 : q.P0 = q.xy.1 * q.ten := if_neg hn
  have e1 : q.P1 = -q.xy.2 * q.ten := if_neg hn
  have e2 : q.den = q.xy.1 * q.xy.1 + q.xy.2 * q.xy.2 := if_neg hn
  have h := Par.ten_T g
  have hV := Par.V_pos hz q.n.natAbs
  have hd := int_ne (Int.ne_of_gt (Par.den_pos hz))
  have hT := T_pos (-(q.p * q.n.natAbs))
  rw [q.V_eq] at hV ⊢
  have eN : nq ((q.xy.1 : Rat) * T (-(q.p * q.n.natAbs)), (q.xy.2 : Rat) * T (-(q.p * q.n.natAbs))) = (q.den : Rat) * (T (-(q.p * q.n.natAbs)) * T (-(q.p * q.n.natAbs))) := by
    rw [e2]
    simp only [Rat.intCast_add, Rat.intCast_mul]
    unfold nq
    grind
  have hV' : nq ((q.xy.1 : Rat) * T (-(q.p * q.n.natAbs)), (q.xy.2 : Rat) * T (-(q.p * q.n.natAbs))) ≠ 0 := by grind
  unfold cinv
  rw [eN] at hV' ⊢
  generalize T (-(q.p * (q.n.natAbs : Int))) = τ at *
  rw [e0, e1]
  generalize q.den = D at *
  simp only [Rat.intCast_mul, Rat.intCast_neg]
  generalize (q.ten : Rat) = K at *
  generalize (q.xy.1 : Rat) = X at *
  generalize (q.xy.2 : Rat) = Y at *
  have key : ∀ Z : Rat, Z * K / D = Z * τ / (D * (τ * τ)) := fun Z => by
    refine div_of hd ?_
    have h1 : Z * τ / (D * (τ * τ)) * (D * (τ * τ)) = Z * τ := Rat.div_mul_cancel hV'
    generalize Z * τ / (D * (τ * τ)) = r at *
    have h2 : (Z * K - r * D) * (τ * τ) = 0 := by grind
    rcases Rat.mul_eq_zero.mp h2 with h | h
    · grind
    · rcases Rat.mul_eq_zero.mp h with h | h <;> grind
  ext
  · exact key X
  · show -Y * K / D = -(Y * τ) / (D * (τ * τ))
    rw [key (-Y)]
    congr 1
    grind
end Mine
end
section
namespace Mine
variable {q : Par}
theorem Par.mem0 (q : Par) : q.P0 ∈ q.parts := .head _
theorem Par.mem1 (q : Par) : q.P1 ∈ q.parts := .tail _ (.head _)
theorem Par.lead_mem {v : Int} (h : v ∈ q.parts) (h0 : v ≠ 0) : lawLead v q.den ∈ q.leads := List.mem_map.mpr ⟨v, List.mem_filter.mpr ⟨h, decide_eq_true h0⟩, rfl⟩
theorem Par.edge_no (hE : q.edge = []) {v : Int} (h : v ∈ q.parts) (h0 : v ≠ 0) : ¬ (q.t - 1 ≤ ((lawLead v q.den).natAbs : Int) ∧ ((lawLead v q.den).natAbs : Int) ≤ q.t + 1) := fun ⟨c1, c2⟩ => by
  have hm : lawLead v q.den ∈ q.edge := List.mem_filter.mpr ⟨Par.lead_mem h h0, by rw [decide_eq_true c1, decide_eq_true c2]; rfl⟩
  rw [hE] at hm
  cases hm
theorem Par.over_no (hO : q.over = []) {v : Int} (h : v ∈ q.parts) (h0 : v ≠ 0) : ¬ lawLead v q.den > q.t := fun c => by
  have hm : lawLead v q.den ∈ q.over := List.mem_filter.mpr ⟨Par.lead_mem h h0, decide_eq_true c⟩
  rw [hO] at hm
  cases hm
theorem Par.over_yes (hO : q.over ≠ []) : (q.P0 ≠ 0 ∧ lawLead q.P0 q.den > q.t) ∨ (q.P1 ≠ 0 ∧ lawLead q.P1 q.den > q.t) := by
  obtain ⟨l, hl⟩ := List.exists_mem_of_ne_nil _ hO
  obtain ⟨h1, h2⟩ := List.mem_filter.mp hl
  obtain ⟨v, hv, rfl⟩ := List.mem_map.mp h1
  obtain ⟨h3, h4⟩ := List.mem_filter.mp hv
  have h4 := of_decide_eq_true h4
  have h2 := of_decide_eq_true h2
  have h3' : v = q.P0 ∨ v = q.P1 := by
    rcases List.mem_cons.mp h3 with h | h
    · exact .inl h
    · exact .inr (List.mem_singleton.mp h)
  rcases h3' with rfl | rfl
  · exact .inl ⟨h4, h2⟩
  · exact .inr ⟨h4, h2⟩
theorem Par.P_ne (hz : ¬ (q.a = 0 ∧ q.b = 0)) : ¬ (q.P0 = 0 ∧ q.P1 = 0) := fun ⟨h0, h1⟩ => by
  have hV := Par.V_pos hz q.n.natAbs
  rw [q.V_eq] at hV
  have ht := Int.ne_of_gt q.ten_pos
  have hxy : q.xy.1 = 0 ∧ q.xy.2 = 0 := by
    by_cases hn : q.n > 0
    · exact ⟨(if_pos hn : q.P0 = _) ▸ h0, (if_pos hn : q.P1 = _) ▸ h1⟩
    · have e0 : q.xy.1 * q.ten = 0 := (if_neg hn : q.P0 = _) ▸ h0
      have e1 : -q.xy.2 * q.ten = 0 := (if_neg hn : q.P1 = _) ▸ h1
      rcases Int.mul_eq_zero.mp e0 with c | c
      · rcases Int.mul_eq_zero.mp e1 with c' | c'
        · exact ⟨c, by omega⟩
        · exact absurd c' ht
      · exact absurd c ht
  rw [hxy.1, hxy.2] at hV
  have e2 : ((0 : Int) : Rat) = 0 := rfl
  unfold nq at hV
  rw [e2] at hV
  grind
theorem Par.both (g : Rg q) (hz : ¬ (q.a = 0 ∧ q.b = 0)) (hE : q.edge = []) : ∃ x y w0 w1, q.got = roundParts (x, y) q.d q.t ∧ Both x y w0 w1 q.P0 q.P1 q.den q.d q.t := by
  have hr := raised_near (x := q.x) g.d1 g.d7 g.n2
  have hV := Par.V_pos hz q.n.natAbs
  have hd := Par.den_pos hz
  have t2 : 2 ≤ q.t := by have := g.t1; omega
  have g0 := fun h0 => Par.edge_no hE q.mem0 h0
  have g1 := fun h0 => Par.edge_no hE q.mem1 h0
  by_cases hn : q.n > 0
  · have hv := Par.true_pos g hn
    have herr := part_err (e1_nn q.d) hr
    generalize hf : raised q.x q.n.natAbs q.d = f at *
    rw [← hv] at herr
    have hS := Rat.mul_le_mul_of_nonneg_right (e1_le q.d) (show 0 ≤ A ((q.P0 : Rat) / q.den) + A ((q.P1 : Rat) / q.den) by
      have := A_nonneg ((q.P0 : Rat) / q.den)
      have := A_nonneg ((q.P1 : Rat) / q.den)
      grind)
    refine ⟨f.1, f.2, val f.1, val f.2, ?_, ⟨hd, Par.P_ne hz, g.d1, g.d7, t2, roundDigits_RD _ _ _, roundDigits_RD _ _ _, Rat.le_trans herr.1 hS, Rat.le_trans herr.2 hS, g0, g1⟩⟩
    show (if q.n < 0 then _ else roundParts (raised q.x q.n.natAbs q.d) q.d q.t) = _
    rw [if_neg (by omega), hf]
  · have hv := Par.true_neg g hn hz
    obtain ⟨n1, n2, n3⟩ := num_all g.d1 g.d7
    obtain ⟨hfp, hin⟩ := inv_near (e1_nn q.d) hr n3 n2 hV
    have herr := part_err (e2_nn q.d) hin
    generalize hf : raised q.x q.n.natAbs q.d = f at *
    rw [← hv] at herr
    have es : val (sizeOf2 f) = nq (cval f) := by
      unfold sizeOf2 nq cval
      rw [val_add, val_mul, val_mul]
    have hs0 : (sizeOf2 f).1 ≠ 0 := fun z => by rw [val_zero z] at es; grind
    have hw : cval (exactProduct one (f.1, realNeg f.2)) = ((cval f).1, -(cval f).2) := by
      rw [cval_prod]
      have e : cval one = (1, 0) := by
        unfold cval one val
        ext <;> simp [T_zero]
      rw [e, cm_one]
      unfold cval
      rw [val_neg]
    generalize hW : exactProduct one (f.1, realNeg f.2) = w at *
    have hq : ∀ p : Rl, (p.1 : Rat) / (sizeOf2 f).1 * T (p.2 - (sizeOf2 f).2) = val p / nq (cval f) := fun p => by
      have h1 : (p.1 : Rat) / (sizeOf2 f).1 * (sizeOf2 f).1 = p.1 := Rat.div_mul_cancel (int_ne hs0)
      have h2 : T p.2 = T (p.2 - (sizeOf2 f).2) * T (sizeOf2 f).2 := by rw [← T_add]; congr 1; omega
      refine (div_of (by grind) ?_).symm
      rw [← es]
      unfold val
      rw [h2]
      generalize (p.1 : Rat) / (sizeOf2 f).1 = r at *
      grind
    have r0 := quot_RD (over := w.1.1) (e := w.1.2 - (sizeOf2 f).2) hs0 g.d1
    have r1 := quot_RD (over := w.2.1) (e := w.2.2 - (sizeOf2 f).2) hs0 g.d1
    rw [hq] at r0 r1
    have hw0 : val w.1 = (cval f).1 := congrArg Prod.fst hw
    have hw1 : val w.2 = -(cval f).2 := congrArg Prod.snd hw
    rw [hw0] at r0
    rw [hw1] at r1
    refine ⟨_, _, _, _, ?_, ⟨hd, Par.P_ne hz, g.d1, g.d7, t2, r0, r1, herr.1, herr.2, g0, g1⟩⟩
    show (if q.n < 0 then complexDiv one (raised q.x q.n.natAbs q.d) q.d q.t else _) = _
    rw [if_pos (by have := g.n1; omega), hf]
    unfold complexDiv
    dsimp only
    rw [if_neg hs0, hW]
theorem Par.overF (g : Rg q) (hz : ¬ (q.a = 0 ∧ q.b = 0)) (hE : q.edge = []) (hO : q.over ≠ []) : q.got = none := by
  obtain ⟨x, y, w0, w1, e, h⟩ := Par.both g hz hE
  rw [e]
  exact h.none_of (Par.over_yes hO)
theorem Par.nearF (g : Rg q) (hz : ¬ (q.a = 0 ∧ q.b = 0)) (hE : q.edge = []) (hO : q.over = []) : ∃ z, q.got = some z ∧ SzP z.1 ∧ SzP z.2 ∧ q.size ≠ 0 ∧ lawPartB z.1 q.P0 q.den q.size q.d q.t = true ∧ lawPartB z.2 q.P1 q.den q.size q.d q.t = true := by
  obtain ⟨x, y, w0, w1, e, h⟩ := Par.both g hz hE
  obtain ⟨z, e2, s0, s1, p0, p1⟩ := h.some_of (by have := g.t2; omega) (fun h0 => Par.over_no hO q.mem0 h0) (fun h0 => Par.over_no hO q.mem1 h0)
  refine ⟨z, by rw [e]; exact e2, s0, s1, ?_, p0, p1⟩
  have := Par.P_ne hz
  unfold Par.size
  omega
/-- nought to a power -/
theorem raised_nought : ∀ (n : Nat) {d : Int} {found x : Cx}, x = ((0, 0), (0, 0)) → n ≠ 0 → raisedW d found x n = ((0, 0), (0, 0)) := by
  intro n
  induction n using Nat.strongRecOn with
  | ind n ih =>
    intro d found x hx hn
    subst hx
    have gz : ∀ y : Cx, guardedProduct y ((0, 0), (0, 0)) d = ((0, 0), (0, 0)) := fun y => by
      have rz : ∀ e : Int, roundDigits 0 e (d + 8) = (0, 0) := fun e => by
        unfold roundDigits
        split
        · dsimp only
          rw [show ((0 : Int).natAbs : Int) = 0 from rfl, roundUp_zero (Int.pow_pos (by decide))]
          rfl
        · rfl
      have ez : ∀ x y : Rl, x.1 = 0 → y.1 = 0 → (exactAdd x y).1 = 0 := fun x y hx hy => by
        unfold exactAdd
        rw [if_pos hx]; exact hy
      have e1 : (exactProduct y ((0, 0), (0, 0))).1.1 = 0 := ez _ _ (Int.mul_zero _) (by show -(_ * (0 : Int)) = 0; rw [Int.mul_zero]; rfl)
      have e2 : (exactProduct y ((0, 0), (0, 0))).2.1 = 0 := ez _ _ (Int.mul_zero _) (Int.mul_zero _)
      unfold guardedProduct
      dsimp only
      rw [e1, e2, rz, rz]
    rw [raisedW, dif_neg hn]
    by_cases h1 : n = 1
    · subst h1
      rw [if_pos rfl, gz]
      rw [raisedW, dif_pos rfl]
    · exact ih (n / 2) (by omega) (gz _) (by omega)
theorem Par.zeroF (g : Rg q) (h : q.a = 0 ∧ q.b = 0) : q.got = if q.n < 0 then none else some ((0, 0), (0, 0)) := by
  have hx : q.x = ((0, 0), (0, 0)) := by
    unfold Par.x strip
    rw [h.1, h.2]
    rfl
  have hr : raised q.x q.n.natAbs q.d = ((0, 0), (0, 0)) := raised_nought _ hx (by have := g.n1; omega)
  show (if q.n < 0 then complexDiv one (raised q.x q.n.natAbs q.d) q.d q.t else roundParts (raised q.x q.n.natAbs q.d) q.d q.t) = _
  rw [hr]
  by_cases hn : q.n < 0
  · rw [if_pos hn, if_pos hn]
    rfl
  · rw [if_neg hn, if_neg hn]
    have rr : roundReal 0 0 q.d q.t = some (0, 0) := by
      unfold roundReal
      dsimp only
      rw [if_pos]
      left
      have := roundDigits_RD 0 0 q.d
      have e : ((0 : Int) : Rat) * T 0 = 0 := by
        have : ((0 : Int) : Rat) = 0 := rfl
        grind
      rw [e] at this
      refine val_eq_zero.mp ?_
      rcases this with c | ⟨gg, _, _, _, c1, _⟩
      · exact c
      · have := T_pos (gg + q.d - 1)
        have c3 : A 0 = 0 := rfl
        grind
    exact parts_some rr rr
end Mine
end
section
namespace Mine
/-- lowest exponent -a, value within T k, few figures -/
def Bd (a k : Int) (x : Rl) : Prop := (x.1 = 0 → x.2 = 0) ∧ -a ≤ x.2 ∧ A (val x) ≤ T k ∧ x.1.natAbs ≤ 10 ^ 15
theorem A_mul (x y : Rat) : A (x * y) = A x * A y := by
  by_cases h : 0 ≤ x
  · rw [A_pos_mul h]; congr 1; unfold A; grind
  · have e : x * y = (-x) * (-y) := by grind
    rw [e, A_pos_mul (by grind), A_neg]; congr 1; unfold A; grind
theorem T_le_iff {a b : Int} (h : T a ≤ T b) : a ≤ b := by
  apply Classical.byContradiction
  intro q
  have := T_lt (a := b) (b := a) (by omega)
  grind
theorem Bd.e_le {a k : Int} {x : Rl} (h : Bd a k x) (hk : 0 ≤ k) : x.2 ≤ k := by
  by_cases h0 : x.1 = 0
  · rw [h.1 h0]; exact hk
  · have h1 := (lead_T x h0).1
    have h2 := T_le_iff (Rat.le_trans h1 h.2.2.1)
    have h3 := (dg_spec x.1.natAbs (by omega)).2.2
    omega
theorem m_le {z : Rl} {a k : Int} (h : A (val z) ≤ T k) (h2 : -a ≤ z.2) (ha : 0 ≤ k + a) : z.1.natAbs ≤ 10 ^ (k + a).toNat := by
  have hp := T_pos z.2
  have e : A (val z) = A z.1 * T z.2 := A_mul_pos (Rat.le_of_lt hp) _
  rw [e, show T k = T (k - z.2) * T z.2 by rw [← T_add]; congr 1; omega] at h
  have h3 := Rat.le_of_mul_le_mul_right h hp
  have h4 := Rat.le_trans h3 (T_le (a := k - z.2) (b := k + a) (by omega))
  rw [A_int, ← T_toNat ha] at h4
  have h5 := Rat.intCast_le_intCast.mp h4
  have e2 : ((10 ^ (k + a).toNat : Nat) : Int) = (10 : Int) ^ (k + a).toNat := Int.natCast_pow ..
  omega
theorem stripW_e (m e : Int) : e ≤ (stripW m e).2 := by
  induction m, e using stripW.induct with
  | case1 m e h ih => rw [stripW, dif_pos h]; omega
  | case2 m e h => rw [stripW, dif_neg h]; exact Int.le_refl _
theorem strip_e (m e : Int) : ((strip m e).1 = 0 → (strip m e).2 = 0) ∧ ((strip m e).1 ≠ 0 → e ≤ (strip m e).2) := by
  unfold strip
  split
  · exact ⟨fun _ => rfl, fun h => absurd rfl h⟩
  · rename_i h
    exact ⟨fun q => absurd ((strip_zero m e).mp q) h, fun _ => stripW_e m e⟩
theorem roundDigits_e (m e d : Int) : ((roundDigits m e d).1 = 0 → (roundDigits m e d).2 = 0) ∧ ((roundDigits m e d).1 ≠ 0 → e ≤ (roundDigits m e d).2) := by
  unfold roundDigits
  split
  · rename_i h
    dsimp only
    obtain ⟨h1, h2⟩ := strip_e (if m > 0 then roundUp m.natAbs (10 ^ ((dg m.natAbs : Int) - d).toNat) else -roundUp m.natAbs (10 ^ ((dg m.natAbs : Int) - d).toNat)) (e + (dg m.natAbs - d))
    exact ⟨h1, fun q => by have := h2 q; omega⟩
  · exact strip_e m e
theorem exactAdd_e {x y : Rl} {a : Int} (hx : -a ≤ x.2) (hy : -a ≤ y.2) : -a ≤ (exactAdd x y).2 := by
  unfold exactAdd
  split
  · exact hy
  · split
    · exact hx
    · show -a ≤ min x.2 y.2; omega
theorem add_val {x y : Rl} {k : Int} (hx : A (val x) ≤ T k) (hy : A (val y) ≤ T k) : A (val (exactAdd x y)) < T (k + 1) := by
  rw [val_add, T_ten]
  have := A_add (val x) (val y)
  have := T_pos k
  grind
theorem Bd.mul {a1 k1 a2 k2 : Int} {x y : Rl} (hx : Bd a1 k1 x) (hy : Bd a2 k2 y) : A (val (exactMul x y)) ≤ T (k1 + k2) ∧ -(a1 + a2) ≤ (exactMul x y).2 ∧ (exactMul x y).1.natAbs ≤ 10 ^ 30 := by
  obtain ⟨_, x2, x3, x4⟩ := hx
  obtain ⟨_, y2, y3, y4⟩ := hy
  refine ⟨?_, by show -(a1 + a2) ≤ x.2 + y.2; omega, ?_⟩
  · rw [val_mul, A_mul, T_add]
    have h1 := Rat.mul_le_mul_of_nonneg_right x3 (A_nonneg (val y))
    have h2 := Rat.mul_le_mul_of_nonneg_left y3 (Rat.le_of_lt (T_pos k1))
    exact Rat.le_trans h1 h2
  · show (x.1 * y.1).natAbs ≤ _
    rw [Int.natAbs_mul]
    exact Nat.le_trans (Nat.mul_le_mul x4 y4) (by decide +kernel)
theorem neg_val (x : Rl) : A (val (realNeg x)) = A (val x) := by rw [val_neg, A_neg]
theorem prod_val {a1 k1 a2 k2 : Int} {x y : Cx} (x1 : Bd a1 k1 x.1) (x2 : Bd a1 k1 x.2) (y1 : Bd a2 k2 y.1) (y2 : Bd a2 k2 y.2) :
    (A (val (exactProduct x y).1) < T (k1 + k2 + 1) ∧ -(a1 + a2) ≤ (exactProduct x y).1.2) ∧ (A (val (exactProduct x y).2) < T (k1 + k2 + 1) ∧ -(a1 + a2) ≤ (exactProduct x y).2.2) := by
  obtain ⟨p1, p2, _⟩ := x1.mul y1
  obtain ⟨q1, q2, _⟩ := x2.mul y2
  obtain ⟨r1, r2, _⟩ := x1.mul y2
  obtain ⟨s1, s2, _⟩ := x2.mul y1
  exact ⟨⟨add_val p1 (by rw [neg_val]; exact q1), exactAdd_e p2 q2⟩, add_val r1 s1, exactAdd_e r2 s2⟩
theorem round_Bd {z : Rl} {a k d : Int} (hd : 0 ≤ d) (hd7 : d ≤ 7) (ha : 0 ≤ a) (h : A (val z) < T k) (h2 : -a ≤ z.2) : Bd a k (roundDigits z.1 z.2 (d + 8)) := by
  obtain ⟨e1, e2⟩ := roundDigits_e z.1 z.2 (d + 8)
  refine ⟨e1, ?_, RD_le (by omega) (roundDigits_RD z.1 z.2 (d + 8)) h, ?_⟩
  · by_cases h0 : (roundDigits z.1 z.2 (d + 8)).1 = 0
    · rw [e1 h0]; omega
    · have := e2 h0; omega
  · refine Nat.le_trans (roundDigits_abs (by omega)) (Nat.pow_le_pow_right (by decide) (by omega))
theorem gp_Bd {a1 k1 a2 k2 d : Int} {x y : Cx} (hd : 0 ≤ d) (hd7 : d ≤ 7) (h1 : 0 ≤ a1) (h2 : 0 ≤ a2) (x1 : Bd a1 k1 x.1) (x2 : Bd a1 k1 x.2) (y1 : Bd a2 k2 y.1) (y2 : Bd a2 k2 y.2) :
    Bd (a1 + a2) (k1 + k2 + 1) (guardedProduct x y d).1 ∧ Bd (a1 + a2) (k1 + k2 + 1) (guardedProduct x y d).2 := by
  obtain ⟨⟨p1, p2⟩, q1, q2⟩ := prod_val x1 x2 y1 y2
  exact ⟨round_Bd hd hd7 (by omega) p1 p2, round_Bd hd hd7 (by omega) q1 q2⟩
theorem Bd.sz {a k : Int} {x : Rl} (h : Bd a k x) (ha : a ≤ 1000) (hk : 0 ≤ k) (hk2 : k ≤ 1000) : Sz x := by
  have h1 := h.e_le hk
  have h2 := h.2.1
  refine ⟨Nat.lt_of_le_of_lt h.2.2.2 (by decide +kernel), by omega⟩
theorem Bd.szm {a1 k1 a2 k2 : Int} {x y : Rl} (hx : Bd a1 k1 x) (hy : Bd a2 k2 y) (h1 : a1 ≤ 1000) (h2 : a2 ≤ 1000) (p1 : 0 ≤ k1) (q1 : k1 ≤ 1000) (p2 : 0 ≤ k2) (q2 : k2 ≤ 1000) : Sz (exactMul x y) := by
  refine ⟨Nat.lt_of_le_of_lt (hx.mul hy).2.2 (by decide +kernel), ?_⟩
  have := hx.e_le p1
  have := hy.e_le p2
  have := hx.2.1
  have := hy.2.1
  show (x.2 + y.2).natAbs < 100000
  omega
theorem pow_small {n : Nat} {k : Nat} (h : n ≤ 10 ^ k) (hk : k < 2600) : n < 10 ^ 2600 := Nat.lt_of_le_of_lt h (Nat.pow_lt_pow_right (by decide) hk)
theorem pr_ok {a1 k1 a2 k2 : Int} {x y : Cx} (h1 : a1 ≤ 400) (h2 : a2 ≤ 400) (p1 : 0 ≤ k1) (q1 : k1 ≤ 200) (p2 : 0 ≤ k2) (q2 : k2 ≤ 200) (x1 : Bd a1 k1 x.1) (x2 : Bd a1 k1 x.2) (y1 : Bd a2 k2 y.1) (y2 : Bd a2 k2 y.2) : PrOK x y :=
  ⟨x1.sz (by omega) p1 (by omega), x2.sz (by omega) p1 (by omega), y1.sz (by omega) p2 (by omega), y2.sz (by omega) p2 (by omega),
    x1.szm y1 (by omega) (by omega) p1 (by omega) p2 (by omega), x2.szm y2 (by omega) (by omega) p1 (by omega) p2 (by omega), x1.szm y2 (by omega) (by omega) p1 (by omega) p2 (by omega), x2.szm y1 (by omega) (by omega) p1 (by omega) p2 (by omega)⟩
theorem gp_ok {a1 k1 a2 k2 : Int} {x y : Cx} (g1 : 0 ≤ a1) (g2 : 0 ≤ a2) (h1 : a1 ≤ 400) (h2 : a2 ≤ 400) (p1 : 0 ≤ k1) (q1 : k1 ≤ 200) (p2 : 0 ≤ k2) (q2 : k2 ≤ 200) (x1 : Bd a1 k1 x.1) (x2 : Bd a1 k1 x.2) (y1 : Bd a2 k2 y.1) (y2 : Bd a2 k2 y.2) : GpOK x y := by
  obtain ⟨⟨r1, r2⟩, s1, s2⟩ := prod_val x1 x2 y1 y2
  exact ⟨pr_ok h1 h2 p1 q1 p2 q2 x1 x2 y1 y2, pow_small (m_le (Rat.le_of_lt r1) r2 (by omega)) (by omega), pow_small (m_le (Rat.le_of_lt s1) s2 (by omega)) (by omega)⟩
theorem ra_ok {d : Int} (hd : 0 ≤ d) (hd7 : d ≤ 7) : ∀ (n : Nat) {af kf ax kx : Int} {f x : Cx}, 0 ≤ af → 0 ≤ kf → 0 ≤ ax → 0 ≤ kx → af + n * ax ≤ 400 → kf + 1 + n * (kx + 1) ≤ 200 → Bd af kf f.1 → Bd af kf f.2 → Bd ax kx x.1 → Bd ax kx x.2 →
    RaOK d f x n ∧ ∃ a k, 0 ≤ a ∧ 0 ≤ k ∧ a ≤ 400 ∧ k ≤ 200 ∧ Bd a k (raisedW d f x n).1 ∧ Bd a k (raisedW d f x n).2 := by
  intro n
  induction n using Nat.strongRecOn with
  | ind n ih =>
    intro af kf ax kx f x af0 kf0 ax0 kx0 ha hk f1 f2 x1 x2
    rw [RaOK, raisedW]
    by_cases h : n = 0
    · subst h
      rw [dif_pos rfl, dif_pos rfl]
      exact ⟨trivial, af, kf, af0, kf0, by omega, by omega, f1, f2⟩
    · rw [dif_neg h, dif_neg h]
      have b1 : ax ≤ (n : Int) * ax := by
        have := Int.mul_le_mul_of_nonneg_right (show (1 : Int) ≤ n by omega) ax0
        omega
      have b2 : kx + 1 ≤ (n : Int) * (kx + 1) := by
        have := Int.mul_le_mul_of_nonneg_right (show (1 : Int) ≤ n by omega) (show 0 ≤ kx + 1 by omega)
        omega
      have gx := gp_ok ax0 ax0 (by omega) (by omega) kx0 (by omega) kx0 (by omega) x1 x2 x1 x2
      obtain ⟨xx1, xx2⟩ := gp_Bd hd hd7 ax0 ax0 x1 x2 x1 x2
      by_cases ho : n % 2 = 1
      · obtain ⟨m, hm⟩ : ∃ m : Nat, n = 2 * m + 1 := ⟨n / 2, by omega⟩
        obtain ⟨fx1, fx2⟩ := gp_Bd hd hd7 af0 ax0 f1 f2 x1 x2
        have e1 : (n : Int) * ax = 2 * (m * ax) + ax := by rw [hm]; push_cast; grind
        have e2 : (n : Int) * (kx + 1) = 2 * (m * (kx + 1)) + (kx + 1) := by rw [hm]; push_cast; grind
        have key := ih (n / 2) (by omega) (f := guardedProduct f x d) (x := guardedProduct x x d) (af := af + ax) (kf := kf + kx + 1) (ax := ax + ax) (kx := kx + kx + 1) (by omega) (by omega) (by omega) (by omega)
          (by rw [show n / 2 = m by omega]; have : (m : Int) * (ax + ax) = 2 * (m * ax) := by grind
              omega)
          (by rw [show n / 2 = m by omega]; have : (m : Int) * (kx + kx + 1 + 1) = 2 * (m * (kx + 1)) := by grind
              omega) fx1 fx2 xx1 xx2
        rw [if_pos ho]
        exact ⟨⟨fun _ => gp_ok af0 ax0 (by omega) (by omega) kf0 (by omega) kx0 (by omega) f1 f2 x1 x2, gx, key.1⟩, key.2⟩
      · obtain ⟨m, hm⟩ : ∃ m : Nat, n = 2 * m := ⟨n / 2, by omega⟩
        have e1 : (n : Int) * ax = 2 * (m * ax) := by rw [hm]; push_cast; grind
        have e2 : (n : Int) * (kx + 1) = 2 * (m * (kx + 1)) := by rw [hm]; push_cast; grind
        have key := ih (n / 2) (by omega) (f := f) (x := guardedProduct x x d) (af := af) (kf := kf) (ax := ax + ax) (kx := kx + kx + 1) (by omega) (by omega) (by omega) (by omega)
          (by rw [show n / 2 = m by omega]; have : (m : Int) * (ax + ax) = 2 * (m * ax) := by grind
              omega)
          (by rw [show n / 2 = m by omega]; have : (m : Int) * (kx + kx + 1 + 1) = 2 * (m * (kx + 1)) := by grind
              omega) f1 f2 xx1 xx2
        rw [if_neg ho]
        exact ⟨⟨fun h => absurd h ho, gx, key.1⟩, key.2⟩
theorem one_Bd : Bd 0 0 one.1 ∧ Bd 0 0 one.2 := by
  refine ⟨⟨fun h => (by cases h), by decide, ?_, by decide⟩, ⟨fun _ => rfl, by decide, ?_, by decide⟩⟩
  · rw [T_zero]
    show A (((1 : Int) : Rat) * T 0) ≤ 1
    rw [T_zero]; decide +kernel
  · rw [T_zero]
    show A (((0 : Int) : Rat) * T 0) ≤ 1
    rw [T_zero]; decide +kernel
theorem hundred (x : Nat) : 100 * 10 ^ x = 10 ^ (x + 2) := by rw [Nat.pow_add]; omega
theorem quot_small {over under e d : Int} {a b : Nat} (ho : over.natAbs ≤ 10 ^ a) (hu : dg under.natAbs ≤ b) (hd : 0 ≤ d) (hd7 : d ≤ 7) (h : a + b + 11 < 2600) : (quot over under e d).1.natAbs < 10 ^ 2600 := by
  have hs : (qShift over under d).toNat ≤ b + 9 := by unfold qShift; omega
  unfold quot
  generalize (qShift over under d) = sh at *
  dsimp only
  have h1 : ((over.natAbs : Int) * 10 ^ sh.toNat) / (under.natAbs : Int) ≤ (over.natAbs : Int) * 10 ^ sh.toNat := Int.ediv_le_self _ (Int.mul_nonneg (by omega) (Int.le_of_lt (Int.pow_pos (by decide))))
  have h2 : 0 ≤ ((over.natAbs : Int) * 10 ^ sh.toNat) / (under.natAbs : Int) := Int.ediv_nonneg (Int.mul_nonneg (by omega) (Int.le_of_lt (Int.pow_pos (by decide)))) (by omega)
  have h3 : over.natAbs * 10 ^ sh.toNat ≤ 10 ^ (a + (b + 9)) := by
    rw [Nat.pow_add]
    exact Nat.mul_le_mul ho (Nat.pow_le_pow_right (by decide) hs)
  have h4 : ((over.natAbs * 10 ^ sh.toNat : Nat) : Int) = (over.natAbs : Int) * 10 ^ sh.toNat := by rw [Int.natCast_mul, Int.natCast_pow]; rfl
  have h5 : 100 * 10 ^ (a + (b + 9)) < 10 ^ 2600 := by
    rw [hundred]
    exact Nat.pow_lt_pow_right (by decide) (by omega)
  have h6 : 0 < 10 ^ (a + (b + 9)) := Nat.pow_pos (by decide)
  generalize ((over.natAbs : Int) * 10 ^ sh.toNat) / (under.natAbs : Int) = q at *
  generalize 10 ^ (a + (b + 9)) = c at *
  generalize 10 ^ 2600 = c2 at *
  generalize (10 ^ sh.toNat : Int) = u at *
  split <;> split <;> omega
theorem dg_le_of {n k : Nat} (h : n ≤ 10 ^ k) : dg n ≤ k + 1 := by
  by_cases h0 : n = 0
  · rw [h0, dg_zero]; omega
  · obtain ⟨h1, _, _⟩ := dg_spec n h0
    have h2 : 10 ^ (dg n - 1) < 10 ^ (k + 1) := Nat.lt_of_le_of_lt (Nat.le_trans h1 h) (Nat.pow_lt_pow_right (by decide) (by omega))
    have := (Nat.pow_lt_pow_iff_right (show 1 < 10 by decide)).mp h2
    omega
theorem pow_ok {x : Cx} {n d : Int} (hd : 1 ≤ d) (hd7 : d ≤ 7) (n1 : 17 ≤ n.natAbs) (n2 : n.natAbs ≤ 64) (x1 : Bd 6 1 x.1) (x2 : Bd 6 1 x.2) : PowOK x n d := by
  obtain ⟨o1, o2⟩ := one_Bd
  obtain ⟨hr, a, k, a0, k0, a1, k1, b1, b2⟩ := ra_ok (d := d) (by omega) hd7 n.natAbs (f := one) (x := x) (af := 0) (kf := 0) (ax := 6) (kx := 1) (by decide) (by decide) (by decide) (by decide) (by omega) (by omega) o1 o2 x1 x2
  have hrd : raised x n.natAbs d = raisedW d one x n.natAbs := rfl
  rw [← hrd] at b1 b2
  refine ⟨by omega, by omega, hr, fun _ => ?_, (b1.sz (by omega) k0 (by omega)).1, (b2.sz (by omega) k0 (by omega)).1⟩
  generalize raised x n.natAbs d = f at *
  have c2 : Bd a k (realNeg f.2) := ⟨fun h => b2.1 (by have : -f.2.1 = 0 := h; omega), b2.2.1, by rw [neg_val]; exact b2.2.2.1, by show (-f.2.1).natAbs ≤ _; rw [Int.natAbs_neg]; exact b2.2.2.2⟩
  obtain ⟨⟨p1, p2⟩, q1, q2⟩ := prod_val (y := (f.1, realNeg f.2)) o1 o2 b1 c2
  have m1 := m_le (Rat.le_of_lt p1) p2 (by omega)
  have m2 := m_le (Rat.le_of_lt q1) q2 (by omega)
  obtain ⟨s1, s2, _⟩ := b1.mul b1
  obtain ⟨t1, t2, _⟩ := b2.mul b2
  have hs := m_le (Rat.le_of_lt (add_val s1 t1)) (exactAdd_e s2 t2) (by omega)
  have hs' : (sizeOf2 f).1.natAbs ≤ 10 ^ (k + k + 1 + (a + a)).toNat := hs
  have hdg := dg_le_of hs'
  exact ⟨b1.sz (by omega) k0 (by omega), b2.sz (by omega) k0 (by omega), b1.szm b1 (by omega) (by omega) k0 (by omega) k0 (by omega), b2.szm b2 (by omega) (by omega) k0 (by omega) k0 (by omega), pow_small hs' (by omega),
    pr_ok (y := (f.1, realNeg f.2)) (by decide) a1 (by decide) (by decide) k0 k1 o1 o2 b1 c2, pow_small m1 (by omega), pow_small m2 (by omega), by omega, by omega,
    quot_small m1 hdg (by omega) hd7 (by omega), quot_small m2 hdg (by omega) hd7 (by omega)⟩
end Mine
end
section
namespace Mine
/-- the powers of the unit upward -/
def un : Nat → Cx
  | 0 => ((1, 0), (0, 0))
  | 1 => ((0, 0), (1, 0))
  | 2 => ((-1, 0), (0, 0))
  | _ => ((0, 0), (-1, 0))
def Tri (c : Int) : Prop := c = 0 ∨ c = 1 ∨ c = -1
theorem dg_one : dg 1 = 1 := by rw [dg_succ (by decide)]; rw [show 1 / 10 = 0 by decide, dg_zero]
theorem strip_tri {c : Int} (h : Tri c) : strip c 0 = (c, 0) := by
  unfold strip
  split
  · rename_i e; rw [e]
  · rename_i e
    rw [stripW, dif_neg]
    rcases h with rfl | rfl | rfl <;> omega
theorem rd_tri {c d : Int} (h : Tri c) (hd : 1 ≤ d) : roundDigits c 0 d = (c, 0) := by
  unfold roundDigits
  rw [if_neg, strip_tri h]
  rcases h with rfl | rfl | rfl
  · rw [show (0 : Int).natAbs = 0 from rfl, dg_zero]; omega
  · rw [show (1 : Int).natAbs = 1 from rfl, dg_one]; omega
  · rw [show (-1 : Int).natAbs = 1 from rfl, dg_one]; omega
theorem un_prod : ∀ i j, i < 4 → j < 4 → exactProduct (un i) (un j) = un ((i + j) % 4) := by
  have h : ∀ i, i < 4 → ∀ j, j < 4 → exactProduct (un i) (un j) = un ((i + j) % 4) := by decide +kernel
  exact fun i j hi hj => h i hi j hj
theorem un_tri : ∀ i : Nat, Tri (un i).1.1 ∧ Tri (un i).2.1 ∧ (un i).1.2 = 0 ∧ (un i).2.2 = 0
  | 0 => ⟨.inr (.inl rfl), .inl rfl, rfl, rfl⟩
  | 1 => ⟨.inl rfl, .inr (.inl rfl), rfl, rfl⟩
  | 2 => ⟨.inr (.inr rfl), .inl rfl, rfl, rfl⟩
  | _ + 3 => ⟨.inl rfl, .inr (.inr rfl), rfl, rfl⟩
theorem un_eta (i : Nat) : un i = (((un i).1.1, 0), ((un i).2.1, 0)) := by
  obtain ⟨_, _, h1, h2⟩ := un_tri i
  generalize un i = z at *
  obtain ⟨⟨a, b⟩, c, e⟩ := z
  dsimp only at h1 h2
  rw [h1, h2]
theorem un_gp {i j : Nat} {d : Int} (hi : i < 4) (hj : j < 4) (hd : 1 ≤ d) : guardedProduct (un i) (un j) d = un ((i + j) % 4) := by
  unfold guardedProduct
  rw [un_prod i j hi hj]
  obtain ⟨h1, h2, h3, h4⟩ := un_tri ((i + j) % 4)
  have e := un_eta ((i + j) % 4)
  generalize un ((i + j) % 4) = z at *
  dsimp only
  rw [h3, h4, rd_tri h1 (by omega), rd_tri h2 (by omega), ← e]
theorem un_raised {d : Int} (hd : 1 ≤ d) : ∀ (n i j : Nat), i < 4 → j < 4 → raisedW d (un i) (un j) n = un ((i + j * n) % 4) := by
  intro n
  induction n using Nat.strongRecOn with
  | ind n ih =>
    intro i j hi hj
    rw [raisedW]
    by_cases h : n = 0
    · subst h; rw [dif_pos rfl]; congr 1; omega
    · rw [dif_neg h, un_gp hj hj hd]
      by_cases ho : n % 2 = 1
      · rw [if_pos ho, un_gp hi hj hd, ih (n / 2) (by omega) _ _ (Nat.mod_lt _ (by decide)) (Nat.mod_lt _ (by decide))]
        congr 1
        obtain ⟨m, hm⟩ : ∃ m, n = 2 * m + 1 := ⟨n / 2, by omega⟩
        rw [show n / 2 = m by omega, hm]
        have h4 : j = 0 ∨ j = 1 ∨ j = 2 ∨ j = 3 := by omega
        rcases h4 with rfl | rfl | rfl | rfl <;> omega
      · rw [if_neg ho, ih (n / 2) (by omega) _ _ hi (Nat.mod_lt _ (by decide))]
        congr 1
        obtain ⟨m, hm⟩ : ∃ m, n = 2 * m := ⟨n / 2, by omega⟩
        rw [show n / 2 = m by omega, hm]
        have h4 : j = 0 ∨ j = 1 ∨ j = 2 ∨ j = 3 := by omega
        rcases h4 with rfl | rfl | rfl | rfl <;> omega
/-- a rounded number that is a whole power of ten stands as it is -/
theorem strip_canon (m e : Int) : (strip m e).1 = 0 ∨ (strip m e).1 % 10 ≠ 0 := by
  have h : ∀ m e, (stripW m e).1 = 0 ∨ (stripW m e).1 % 10 ≠ 0 := fun m e => by
    induction m, e using stripW.induct with
    | case1 m e h ih => rw [stripW, dif_pos h]; exact ih
    | case2 m e h => rw [stripW, dif_neg h]; show m = 0 ∨ m % 10 ≠ 0; omega
  unfold strip
  split
  · exact .inl rfl
  · exact h m e
theorem rd_canon (m e d : Int) : (roundDigits m e d).1 = 0 ∨ (roundDigits m e d).1 % 10 ≠ 0 := by
  unfold roundDigits
  split
  · exact strip_canon _ _
  · exact strip_canon _ _
theorem canon_eq {x : Rl} {c : Int} (hc : Tri c) (h0 : x.1 = 0 → x.2 = 0) (h : x.1 = 0 ∨ x.1 % 10 ≠ 0) (hv : val x = (c : Rat)) : x = (c, 0) := by
  obtain ⟨m, e⟩ := x
  dsimp only at h0 h
  by_cases hm : m = 0
  · rw [h0 hm]
    rw [val_zero hm] at hv
    have : (0 : Int) = c := Rat.intCast_inj.mp hv
    rw [hm, this]
  · have hc0 : c ≠ 0 := fun z => by
      rw [z] at hv
      exact hm (val_eq_zero.mp hv)
    unfold val at hv
    dsimp only at hv
    by_cases he : 0 ≤ e
    · rw [← T_toNat he, ← Rat.intCast_mul] at hv
      have h1 := Rat.intCast_inj.mp hv
      by_cases e0 : e = 0
      · rw [e0] at h1 ⊢
        have : m = c := by simpa using h1
        rw [this]
      · obtain ⟨k, hk⟩ : ∃ k : Int, (10 : Int) ^ e.toNat = 10 * k := ⟨10 ^ (e.toNat - 1), ten_split (by omega)⟩
        rw [hk] at h1
        have h2 : 10 * (m * k) = c := by rw [← h1]; grind
        rcases hc with rfl | rfl | rfl <;> omega
    · have h1 : (m : Rat) = c * T (-e) := by
        have h2 : T e * T (-e) = 1 := by rw [← T_add, show e + -e = 0 by omega, T_zero]
        rw [← hv]; grind
      rw [← T_toNat (e := -e) (by omega), ← Rat.intCast_mul] at h1
      have h2 := Rat.intCast_inj.mp h1
      obtain ⟨k, hk⟩ : ∃ k : Int, (10 : Int) ^ (-e).toNat = 10 * k := ⟨10 ^ ((-e).toNat - 1), ten_split (by omega)⟩
      rw [hk] at h2
      have h3 : m = 10 * (c * k) := by rw [h2]; grind
      omega
theorem RD_tri {c d : Int} {r : Rat} (hc : Tri c) (hd : 1 ≤ d) (h : RD d (c : Rat) r) : r = (c : Rat) := by
  rcases h with h | ⟨g, k, rfl, h1, h2, h3⟩
  · exact h
  · have hA : A (c : Rat) ≤ 1 := by
      rcases hc with rfl | rfl | rfl <;> decide +kernel
    have hT : T 1 = 10 := Rat.zpow_one 10
    have h4 := T_lt_iff (a := g + d - 1) (b := 1) (by grind)
    have h5 := near_best (j := c * 10 ^ (-g).toNat) h1 (T_pos g)
    rw [Rat.intCast_mul, T_toNat (e := -g) (by omega)] at h5
    have h6 : T (-g) * T g = 1 := by rw [← T_add, show -g + g = 0 by omega, T_zero]
    rw [show (c : Rat) - c * T (-g) * T g = 0 by grind] at h5
    have h7 : A 0 = 0 := rfl
    rw [h7] at h5
    unfold A at h5
    grind
theorem quot_tri {c d : Int} (hc : Tri c) (hd : 1 ≤ d) : roundDigits (quot c 1 0 d).1 (quot c 1 0 d).2 d = (c, 0) := by
  have h := quot_RD (over := c) (under := 1) (e := 0) (by decide) hd
  have e : (c : Rat) / ((1 : Int) : Rat) * T 0 = c := by
    rw [T_zero]
    have h1 : ((1 : Int) : Rat) = 1 := rfl
    have : (c : Rat) / ((1 : Int) : Rat) = c := div_of (by decide) (by rw [h1]; grind)
    rw [this]; grind
  rw [e] at h
  exact canon_eq hc (roundDigits_e _ _ _).1 (rd_canon _ _ _) (RD_tri hc hd h)
theorem real_tri {m e c d t : Int} (hc : Tri c) (ht : 0 ≤ t) (h : roundDigits m e d = (c, 0)) : roundReal m e d t = some (c, 0) := by
  unfold roundReal
  rw [h]
  dsimp only
  rcases hc with rfl | rfl | rfl
  · rfl
  · rw [if_neg, if_neg]
    · rw [show (1 : Int).natAbs = 1 from rfl, dg_one]; omega
    · rw [show (1 : Int).natAbs = 1 from rfl, dg_one]; omega
  · rw [if_neg, if_neg]
    · rw [show (-1 : Int).natAbs = 1 from rfl, dg_one]; omega
    · rw [show (-1 : Int).natAbs = 1 from rfl, dg_one]; omega
theorem un_conj : ∀ i, i < 4 → exactProduct one ((un i).1, realNeg (un i).2) = un ((4 - i) % 4) ∧ sizeOf2 (un i) = (1, 0) := by decide +kernel
theorem un_power {j : Nat} {n d t : Int} (hj : j < 4) (hd : 1 ≤ d) (ht : 0 ≤ t) : complexPower (un j) n d t = some (un (if n < 0 then (4 - (j * n.natAbs) % 4) % 4 else (j * n.natAbs) % 4)) := by
  have hr : raised (un j) n.natAbs d = un ((j * n.natAbs) % 4) := by
    have := un_raised hd n.natAbs 0 j (by decide) hj
    rw [Nat.zero_add] at this
    exact this
  unfold complexPower
  rw [hr]
  have hk : (j * n.natAbs) % 4 < 4 := Nat.mod_lt _ (by decide)
  generalize (j * n.natAbs) % 4 = k at *
  split
  · obtain ⟨c1, c2⟩ := un_conj k hk
    unfold complexDiv
    dsimp only
    rw [c1, c2, if_neg (by decide)]
    obtain ⟨h1, h2, h3, h4⟩ := un_tri ((4 - k) % 4)
    have e := un_eta ((4 - k) % 4)
    generalize un ((4 - k) % 4) = z at *
    dsimp only
    rw [h3, h4, Int.sub_zero]
    rw [parts_some (real_tri h1 ht (quot_tri h1 hd)) (real_tri h2 ht (quot_tri h2 hd)), ← e]
  · obtain ⟨h1, h2, h3, h4⟩ := un_tri k
    have e := un_eta k
    generalize un k = z at *
    rw [e]
    rw [parts_some (x := (z.1.1, 0)) (y := (z.2.1, 0)) (real_tri h1 ht (rd_tri h1 hd)) (real_tri h2 ht (rd_tri h2 hd))]
theorem units_at : ∀ u ∈ units, ∃ j, j < 4 ∧ u.1 = un j ∧ ∀ k, k < 4 → ∃ due, u.2[k]? = some due ∧ (un ((j * k) % 4)).1.1 = due.1 ∧ (un ((j * k) % 4)).2.1 = due.2 := by
  intro u hu
  have h4 : ∀ k : Nat, k < 4 → k = 0 ∨ k = 1 ∨ k = 2 ∨ k = 3 := fun k h => by omega
  simp only [units, List.mem_cons, List.not_mem_nil, or_false] at hu
  rcases hu with rfl | rfl | rfl
  · refine ⟨0, by decide, rfl, fun k hk => ?_⟩
    rcases h4 k hk with rfl | rfl | rfl | rfl <;> exact ⟨_, rfl, rfl, rfl⟩
  · refine ⟨2, by decide, rfl, fun k hk => ?_⟩
    rcases h4 k hk with rfl | rfl | rfl | rfl <;> exact ⟨_, rfl, rfl, rfl⟩
  · refine ⟨1, by decide, rfl, fun k hk => ?_⟩
    rcases h4 k hk with rfl | rfl | rfl | rfl <;> exact ⟨_, rfl, rfl, rfl⟩
theorem un_idx (n : Int) (j : Nat) (hj : j < 4) : (if n < 0 then (4 - (j * n.natAbs) % 4) % 4 else (j * n.natAbs) % 4) = (j * (n % 4).toNat) % 4 := by
  have h4 : j = 0 ∨ j = 1 ∨ j = 2 ∨ j = 3 := by omega
  rcases h4 with rfl | rfl | rfl | rfl <;> split <;> omega
theorem unitF {n d t : Int} (hd : 1 ≤ d) (ht : 0 ≤ t) (u : Cx × List Rl) (hu : u ∈ units) : ∃ due, u.2[(n % 4).toNat]? = some due ∧ complexPower u.1 n d t = some ((due.1, 0), (due.2, 0)) := by
  obtain ⟨j, hj, e, h⟩ := units_at u hu
  obtain ⟨due, h1, h2, h3⟩ := h (n % 4).toNat (by omega)
  refine ⟨due, h1, ?_⟩
  rw [e, un_power hj hd ht, un_idx n j hj, un_eta, h2, h3]
end Mine
end
section
namespace Mine
variable {q : Par}
theorem x_Bd {a p : Int} (h0 : 0 ≤ p) (h6 : p ≤ 6) (ha : a.natAbs < 2 * 10 ^ p.toNat) : Bd 6 1 (strip a (-p)) := by
  obtain ⟨e1, e2⟩ := strip_e a (-p)
  refine ⟨e1, ?_, ?_, ?_⟩
  · by_cases h : (strip a (-p)).1 = 0
    · rw [e1 h]; decide
    · have := e2 h; omega
  · rw [strip_val, A_mul_pos (Rat.le_of_lt (T_pos _)), A_int]
    have h1 : ((a.natAbs : Int) : Rat) ≤ ((2 * 10 ^ p.toNat : Int) : Rat) := Rat.intCast_le_intCast.mpr (by
      have := Int.ofNat_le.mpr (Nat.le_of_lt ha)
      rwa [Int.natCast_mul, Int.natCast_pow] at this)
    rw [Rat.intCast_mul, T_toNat h0] at h1
    have h2 := Rat.mul_le_mul_of_nonneg_right h1 (Rat.le_of_lt (T_pos (-p)))
    have h3 : T p * T (-p) = 1 := by rw [← T_add, show p + -p = 0 by omega, T_zero]
    have h4 : T 1 = 10 := Rat.zpow_one 10
    have h5 : ((2 : Int) : Rat) = 2 := rfl
    rw [h4]
    rw [h5] at h2
    grind
  · have h1 : 10 ^ p.toNat ≤ 10 ^ 6 := Nat.pow_le_pow_right (by decide) (by omega)
    have := strip_abs a (-p)
    omega
theorem lp_le {a b : Int} {M : Nat} (h : a.natAbs + b.natAbs ≤ M) : ∀ j : Nat, (lawPower a b j).1.natAbs ≤ M ^ j ∧ (lawPower a b j).2.natAbs ≤ M ^ j
  | 0 => ⟨by rw [Nat.pow_zero]; exact Nat.le_refl 1, by rw [Nat.pow_zero]; exact Nat.zero_le 1⟩
  | j + 1 => by
    obtain ⟨h1, h2⟩ := lp_le h j
    have el : lawPower a b (j + 1) = ((lawPower a b j).1 * a - (lawPower a b j).2 * b, (lawPower a b j).1 * b + (lawPower a b j).2 * a) := rfl
    rw [el]
    generalize lawPower a b j = l at *
    dsimp only
    have m1 := Nat.mul_le_mul_right a.natAbs h1
    have m2 := Nat.mul_le_mul_right b.natAbs h2
    have m3 := Nat.mul_le_mul_right b.natAbs h1
    have m4 := Nat.mul_le_mul_right a.natAbs h2
    have m5 := Nat.mul_le_mul_left (M ^ j) h
    rw [Nat.mul_add] at m5
    rw [Nat.pow_succ]
    refine ⟨?_, ?_⟩
    · have := Int.natAbs_sub_le (l.1 * a) (l.2 * b)
      rw [Int.natAbs_mul, Int.natAbs_mul] at this
      omega
    · have := Int.natAbs_add_le (l.1 * b) (l.2 * a)
      rw [Int.natAbs_mul, Int.natAbs_mul] at this
      omega
theorem Rg.ab (g : Rg q) : q.a.natAbs + q.b.natAbs ≤ 10 ^ 7 := by
  have h1 : 10 ^ q.p.toNat ≤ 10 ^ 6 := Nat.pow_le_pow_right (by decide) (by have := g.p; have := g.d7; omega)
  have := g.a
  have := g.b
  omega
theorem Rg.lp (g : Rg q) {j : Nat} (hj : j ≤ 64) : (lawPower q.a q.b j).1.natAbs ≤ 10 ^ 448 ∧ (lawPower q.a q.b j).2.natAbs ≤ 10 ^ 448 := by
  obtain ⟨h1, h2⟩ := lp_le g.ab j
  have h3 : (10 ^ 7) ^ j ≤ 10 ^ 448 := by rw [← Nat.pow_mul]; exact Nat.pow_le_pow_right (by decide) (by omega)
  exact ⟨Nat.le_trans h1 h3, Nat.le_trans h2 h3⟩
theorem Rg.ten (g : Rg q) : q.ten.natAbs ≤ 10 ^ 384 := by
  unfold Par.ten
  rw [Int.natAbs_pow]
  have h1 := g.p
  have h2 := g.d7
  have h3 := g.d1
  have h4 := g.n2
  have h5 : q.p * (q.n.natAbs : Int) ≤ 6 * 64 := Int.mul_le_mul (by omega) (by omega) (by omega) (by decide)
  exact Nat.pow_le_pow_right (by decide) (by omega)
theorem b448 : 10 ^ 448 < 2 ^ 9000 := by decide +kernel
theorem b384 : 10 ^ 384 < 2 ^ 9000 := by decide +kernel
theorem mul_b {x y : Int} {a b : Nat} (hx : x.natAbs ≤ 10 ^ a) (hy : y.natAbs ≤ 10 ^ b) : (x * y).natAbs ≤ 10 ^ (a + b) := by
  rw [Int.natAbs_mul, Nat.pow_add]
  exact Nat.mul_le_mul hx hy
theorem add_b {x y : Int} {a : Nat} (hx : x.natAbs ≤ 10 ^ a) (hy : y.natAbs ≤ 10 ^ a) : (x + y).natAbs ≤ 10 ^ (a + 1) := by
  have h := Int.natAbs_add_le x y
  have h2 : 10 ^ (a + 1) = 10 ^ a * 10 := Nat.pow_succ ..
  omega
theorem Rg.P0 (g : Rg q) : q.P0.natAbs ≤ 10 ^ (448 + 384) := by
  have h := (g.lp g.n2).1
  unfold Par.P0
  split
  · exact Nat.le_trans h (Nat.pow_le_pow_right (by decide) (by decide))
  · exact mul_b h g.ten
theorem Rg.P1 (g : Rg q) : q.P1.natAbs ≤ 10 ^ (448 + 384) := by
  have h := (g.lp g.n2).2
  unfold Par.P1
  split
  · exact Nat.le_trans h (Nat.pow_le_pow_right (by decide) (by decide))
  · exact mul_b (by rw [Int.natAbs_neg]; exact h) g.ten
theorem Rg.den (g : Rg q) : q.den.natAbs ≤ 10 ^ (448 + 448 + 1) := by
  have h := g.lp g.n2
  unfold Par.den
  split
  · exact Nat.le_trans g.ten (Nat.pow_le_pow_right (by decide) (by decide))
  · exact add_b (mul_b h.1 h.1) (mul_b h.2 h.2)
theorem Rg.size (g : Rg q) : q.size.natAbs ≤ 10 ^ (448 + 384 + 1) := by
  have h1 := g.P0
  have h2 := g.P1
  unfold Par.size
  exact add_b (by rw [Int.natAbs_natCast]; exact h1) (by rw [Int.natAbs_natCast]; exact h2)
theorem unit_Bd : ∀ u ∈ units, Bd 6 1 u.1.1 ∧ Bd 6 1 u.1.2 := by
  have h4 : T 1 = 10 := Rat.zpow_one 10
  have hb : ∀ c : Int, c = 0 ∨ c = 1 ∨ c = -1 → Bd 6 1 (c, 0) := fun c hc => by
    refine ⟨fun _ => rfl, (by show (-6 : Int) ≤ 0; decide), ?_, ?_⟩
    · rw [h4]
      show A ((c : Rat) * T 0) ≤ 10
      rw [T_zero]
      rcases hc with rfl | rfl | rfl <;> decide +kernel
    · rcases hc with rfl | rfl | rfl <;> decide
  intro u hu
  simp only [units, List.mem_cons, List.not_mem_nil, or_false] at hu
  rcases hu with rfl | rfl | rfl
  · exact ⟨hb 1 (.inr (.inl rfl)), hb 0 (.inl rfl)⟩
  · exact ⟨hb (-1) (.inr (.inr rfl)), hb 0 (.inl rfl)⟩
  · exact ⟨hb 0 (.inl rfl), hb 1 (.inr (.inl rfl))⟩
theorem lawF_of (ns : List Int) : LawF (parOf ns) := by
  have g := rg_of ns
  generalize parOf ns = q at *
  have hp := g.p
  have d1 := g.d1
  have d7 := g.d7
  have n2 := g.n2
  have t1 := g.t1
  have a1 := g.ab
  have s64 : (10 : Nat) ^ 7 < 2 ^ 9000 := by decide +kernel
  have lp := g.lp n2
  refine ⟨pow_ok d1 d7 g.n1 n2 (x_Bd (by omega) (by omega) g.a) (x_Bd (by omega) (by omega) g.b), by omega, fun u hu => pow_ok d1 d7 g.n1 n2 (unit_Bd u hu).1 (unit_Bd u hu).2, fun u hu => unitF d1 (by omega) u hu, Par.zeroF g,
    fun j hj => ⟨Nat.lt_of_le_of_lt (g.lp (by omega)).1 b448, Nat.lt_of_le_of_lt (g.lp (by omega)).2 b448⟩, pow_small g.P0 (by decide), pow_small g.P1 (by decide), pow_small g.den (by decide), pow_small g.size (by decide),
    ⟨Nat.lt_of_le_of_lt (by omega) s64, Nat.lt_of_le_of_lt (by omega) s64⟩, by omega, ⟨Int.mul_nonneg (by omega) (by omega), ?_⟩, ?_, ⟨Nat.lt_of_le_of_lt lp.1 b448, Nat.lt_of_le_of_lt lp.2 b448, Nat.lt_of_le_of_lt g.ten b384⟩, Par.den_pos, fun hz hE hO => Par.overF g hz hE hO, fun hz hE hO => Par.nearF g hz hE hO⟩
  · have h5 : q.p * (q.n.natAbs : Int) ≤ 6 * 64 := Int.mul_le_mul (by omega) (by omega) (by omega) (by decide)
    omega
  · exact Nat.lt_of_le_of_lt (show q.p.natAbs ≤ 10 ^ 7 by omega) s64
end Mine
end
section
set_option maxHeartbeats 8000000
open PySem PySem.W PyProof.Rows
theorem Mine.frag_to {K K' : Frag} {h : Heap} (e : K = K') (x : K.In h) : K'.In h := e ▸ x
theorem Mine.short_of {n : Nat} (h : ¬ ((63 : Nat) : Int) < (n : Int)) : n ≤ 63 := by omega
theorem Mine.fin.tw2824846461999071874 : True := True.intro
theorem Mine.fin.tw16662015018518951326 : True := True.intro
theorem Mine.fin.tw15675102808854859970 : True := True.intro
theorem Mine.fin.tw4949113720966933930 : True := True.intro
theorem Mine.fin.tw6147431913426189103 : True := True.intro
theorem Mine.fin.tw9472922817969101911 : True := True.intro
theorem Mine.fin.tw17540074137200004976 : True := True.intro
theorem Mine.fin.tw12030731908666236713 : True := True.intro
theorem Mine.fin.tw6515953530934532768 : True := True.intro
theorem Mine.fin.tw16713330848119998941 : True := True.intro
theorem Mine.fin.tw16252508478716706905 : True := True.intro
theorem Mine.fin.tw3827041629858089107 : True := True.intro
theorem Mine.fin.tw4769821431679368130 : True := True.intro
theorem Mine.fin.tw5011227242324532581 : True := True.intro
theorem Mine.fin.tw6650461044873433052 : True := True.intro
theorem Mine.fin.tw1909631409943697231 : True := True.intro
theorem Mine.fin.tw15989303212955285315 : True := True.intro
theorem Mine.fin.tw13724452099449386491 : True := True.intro
theorem Mine.fin.tw10874316729293906858 : True := True.intro
theorem Mine.fin.tw11336253725339858928 : True := True.intro
theorem Mine.fin.tw4868334931027891882 : True := True.intro
theorem Mine.fin.tw12135189313929291683 : True := True.intro
theorem Mine.fin.tw2910385600587045654 : True := True.intro
theorem Mine.fin.tw6667815254911646788 : True := True.intro
theorem Mine.fin.tw18230178534529381785 : True := True.intro
theorem Mine.fin.tw14517287926952318261 : True := True.intro
theorem Mine.fin.tw7675655780812522254 : True := True.intro
theorem Mine.fin.tw13870153662132920491 : True := True.intro
theorem Mine.fin.tw4218790737952374519 : True := True.intro
theorem Mine.fin.tw13929302177132474383 : True := True.intro
theorem Mine.fin.tw3810570522144960214 : True := True.intro
theorem Mine.fin.tw12711679700452659978 : True := True.intro
theorem Mine.fin.tw9001875181463519149 : True := True.intro
theorem Mine.fin.tw6766378078585498003 : True := True.intro
theorem Mine.fin.tw10936777179133785780 : True := True.intro
theorem Mine.fin.tw12740692763255036000 : True := True.intro
theorem Mine.fin.tw12180539936304867106 : True := True.intro
theorem Mine.fin.tw17896612028031085017 : True := True.intro
theorem Mine.fin.tw3459265974087741279 : True := True.intro
theorem Mine.fin.tw11615019562542576733 : True := True.intro
theorem Mine.fin.tw1535588207084551279 : True := True.intro
theorem Mine.fin.tw5901363791540438844 : True := True.intro
theorem Mine.fin.tw2304379251839397102 : True := True.intro
theorem Mine.fin.tw8559517257967667466 : True := True.intro
theorem Mine.fin.tw17801579834951734752 : True := True.intro
theorem Mine.fin.tw12284014389350100970 : True := True.intro
theorem Mine.fin.tw452842511749404161 : True := True.intro
theorem Mine.fin.tw6712194924023145494 : True := True.intro
theorem Mine.fin.tw757079261281740938 : True := True.intro
theorem Mine.fin.tw16401934584784274106 : True := True.intro
theorem Mine.fin.tw744865244796547220 : True := True.intro
theorem Mine.fin.tw10895054467252067526 : True := True.intro
theorem Mine.fin.tw2375283059286425376 : True := True.intro
theorem Mine.fin.tw4588413851689716618 : True := True.intro
theorem Mine.fin.tw10383673109516279431 : True := True.intro
theorem Mine.fin.tw6127190174262240918 : True := True.intro
theorem Mine.fin.tw380778119907437045 : True := True.intro
theorem Mine.fin.tw3343445320678177929 : True := True.intro
theorem Mine.fin.tw16103849850496634939 : True := True.intro
theorem Mine.fin.tw15533503492667675913 : True := True.intro
theorem Mine.fin.tw17861066769153400444 : True := True.intro
theorem Mine.fin.tw6381419901266130222 : True := True.intro
theorem Mine.fin.tw2321816554428607280 : True := True.intro
theorem Mine.fin.tw12876064707754696378 : True := True.intro
theorem Mine.fin.tw13199158710529813207 : True := True.intro
theorem Mine.fin.tw10580198807604790814 : True := True.intro
theorem Mine.fin.tw216489041496292469 : True := True.intro
set_option Elab.async true in
theorem Mine.fin : PySem.Challenge.rw_pf0118_01.Holds := by
  w_on
  o_law
  k_head
  (case hw => w_witness2)
  w_strict (k_go0
            have hns := Mine.short_of ‹¬ ((63 : Nat) : Int) < _›
            refine' Mine.law_enter (Mine.frag_to (by kernel_rfl) ‹Frag.In _ _›) ‹Top _ _ _ _ _ _› ‹Fr _ _ _ _› ‹News _ _ _ _› ‹CellsAre _ _ _› ‹Heap.IsList _ _ _› ‹IntsAre _ _› ?my1 ?my2 ?my3 ?my4 hns (Mine.lawF_of _) ?my5
            case my1 => exact rfl
            case my2 => exact rfl
            case my3 => exact rfl
            case my4 =>
              refine' (Mine.bodyOf_eq ?my6).symm
              case my6 => k_is
            case my5 =>
              intro h' tk' keep
              refine' ⟨.inl ⟨_, _, _, rfl, raisesW_false ?my7, ReadsW.bool _, ?my8, ?my9⟩, keep, rfl, ‹_›⟩
              case my7 => wrow_none_raised
              case my8 => kc_post
              case my9 => exact unshared_nil)
end
theorem PySem.Challenge.cw_pf0118_01_holds : PySem.Challenge.rw_pf0118_01.Holds := by
  exact Mine.fin
