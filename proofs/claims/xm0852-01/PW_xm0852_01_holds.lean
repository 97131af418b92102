import PyProof.Rows.All
import Wide.All
import OpenK.AllK
import Wide.FinOn
import Lean
import PySem.Challenge.RW_xm0852_01
open PySem PySem.W PySem.Calls PyProof.Rows
set_option Elab.async false
set_option compiler.extract_closed false
set_option genInjectivity false
set_option genSizeOf false
section
namespace Mine.Sh
open Lean Meta
abbrev E := Lean.Expr
structure St where
  lctx : LocalContext
  lev : Std.HashMap E Nat := {}
  nv : Nat := 0
  no : Std.HashMap E Nat := {}
  post : Array (E × Option (E × E)) := #[]
def getN (m : Std.HashMap E Nat) (e : E) : Option Nat := m[e]?
def setN (m : Std.HashMap E Nat) (e : E) (n : Nat) : Std.HashMap E Nat := m.insert e n
def kids (e : E) : List E := match e with
  | .app .. => e.getAppFn :: e.getAppArgs.toList
  | .lam _ d _ _ => [d]
  | .forallE _ d _ _ => [d]
  | .letE _ t v _ _ => [t, v]
  | .mdata _ b => [b]
  | .proj _ _ b => [b]
  | _ => []
def inner : E → Option E
  | .lam _ _ b _ => some b
  | .forallE _ _ b _ => some b
  | .letE _ _ _ b _ => some b
  | _ => none
def visit : Nat → St → E → St
  | 0, s, _ => s
  | k + 1, s, e =>
    if !e.hasFVar || e.isFVar || (getN s.no e).isSome then s else
    let s := (kids e).foldl (visit k) s
    let fin (s : St) (b : Option (E × E)) : St := { s with no := setN s.no e s.post.size, post := s.post.push (e, b) }
    match inner e with
    | none => fin s none
    | some b =>
      let id : FVarId := ⟨.num `z s.nv⟩
      let lctx := match e with
        | .letE n t v _ _ => s.lctx.mkLetDecl id n t v
        | _ => s.lctx.mkLocalDecl id e.bindingName! e.bindingDomain!
      let b := b.instantiate1 (.fvar id)
      fin (visit k { s with lctx, lev := setN s.lev (.fvar id) (s.nv + 1), nv := s.nv + 1 } b) (some (.fvar id, b))
def bits (s : St) (fv : Array Nat) (e : E) : Nat :=
  match getN s.lev e, getN s.no e with
  | some l, _ => 1 <<< l
  | none, some i => fv.getD i 0
  | none, none => if e.isFVar then 1 else 0
def level (s : St) (x : E) : Nat := (getN s.lev x).getD 0
def leans (s : St) (fv : Array Nat) (p : E × Option (E × E)) : Array Nat :=
  let b := (kids p.1).foldl (fun b c => b ||| bits s fv c) 0
  fv.push (match p.2 with
    | some (x, d) =>
      let w := 1 <<< level s x
      let v := bits s fv d
      b ||| (if v &&& w == w then v - w else v)
    | none => b)
structure Ctx where
  s : St
  fv : Array Nat
  places : Array (List Nat)
  named : Array (Option (E × E))
  lets : Array (List Nat)
def put (s : St) (ps : List Nat) (places : Array (List Nat)) (c : E) : Array (List Nat) :=
  match getN s.no c with
  | some j => places.modify j fun q => ps.foldl (fun q p => if q.length < 6 && !q.contains p then p :: q else q) q
  | none => places
def decide (c : Ctx) : Nat → MetaM Ctx
  | 0 => return c
  | i + 1 => do
    let (e, b) := c.s.post.getD i (.bvar 0, none)
    let ps := c.places.getD i []
    let size := if e.isApp then e.getAppNumArgs else if b.isSome then 4 else 0
    let ty ← if (ps.length - 1) * size ≥ 3 then withLCtx c.s.lctx {} (inferType e) else pure e
    let l := (c.fv.getD i 0).log2
    let (c, ps) := if ty.hasFVar || ty.hasMVar then (c, ps) else ({ c with named := c.named.setIfInBounds i (some (.fvar ⟨.num `y i⟩, ty)), lets := c.lets.modify l (i :: ·) }, [l])
    let places := (kids e).foldl (put c.s ps) c.places
    decide { c with places := match b with | some (x, d) => put c.s [level c.s x] places d | none => places } i
def look (c : Ctx) (memo : Array (Option E)) (e : E) : E :=
  match getN c.s.no e with
  | some j => match c.named.getD j none with
    | some z => z.1
    | none => (memo.getD j none).getD e
  | none => e
def close (c : Ctx) (memo : Array (Option E)) (b : E) (xs : Array E) : List Nat → E
  | [] => (look c memo b).abstract xs
  | j :: js => match c.named.getD j none with
    | some (z, t) => .letE `z t (((memo.getD j none).getD z).abstract xs) (close c memo b (xs.push z) js) false
    | none => b
def raw : Nat → Ctx → Array (Option E) → Nat → Array (Option E)
  | 0, _, memo, _ => memo
  | k + 1, c, memo, i =>
    if (memo.getD i none).isSome then memo else
    let (e, b) := c.s.post.getD i (.bvar 0, none)
    let one (memo : Array (Option E)) (d : E) : Array (Option E) := match getN c.s.no d with
      | some j => if (c.named.getD j none).isSome then memo else raw k c memo j
      | none => memo
    let memo := (kids e).foldl one memo
    let (memo, b) := match b with
      | some (x, d) =>
        let js := c.lets.getD (level c.s x) []
        let memo := js.foldl (raw k c) (one memo d)
        (memo, close c memo d #[x] js)
      | none => (memo, e)
    memo.setIfInBounds i (some (match e with
      | .lam n d _ bi => .lam n (look c memo d) b bi
      | .forallE n d _ bi => .forallE n (look c memo d) b bi
      | .letE n t v _ nd => .letE n (look c memo t) (look c memo v) b nd
      | .mdata m d => .mdata m (look c memo d)
      | .proj n j d => .proj n j (look c memo d)
      | e => mkAppN (look c memo e.getAppFn) (e.getAppArgs.map (look c memo))))
def told (e : E) : MetaM E := do
  let s := visit 1000000 { lctx := ← getLCtx } e
  let n := s.post.size
  let c ← decide { s, fv := s.post.foldl (leans s) #[], places := put s [0] (Array.replicate n []) e, named := Array.replicate n none, lets := Array.replicate (s.nv + 1) [] } n
  let js := c.lets.getD 0 []
  return close c (js.foldl (raw 1000000 c) (raw 1000000 c (Array.replicate n none) (n - 1))) e #[] js

def nats (l : List Nat) : E := l.foldr (fun i r => mkApp3 (mkConst ``List.cons [0]) (mkConst ``Nat) (mkRawNatLit i) r) (.app (mkConst ``List.nil [0]) (mkConst ``Nat))
def cellT : E := mkApp2 (mkConst ``Prod [0, 0]) (mkConst `PySem.Addr) (mkConst `PySem.Obj)
def consC (a l : E) : E := mkApp3 (mkConst ``List.cons [0]) cellT a l
def yes : E := mkApp2 (mkConst ``Eq.refl [1]) (mkConst ``Bool) (mkConst ``Bool.true)
def place (hd tl : Name) : Nat → E → Option Nat
  | 0, _ => none
  | k + 1, h => if h.isAppOf hd then some 0 else if h.isAppOf tl then (place hd tl k h.appArg!).map (· + 1) else none
def placesOf (nil cons hd tl : Name) : Nat → E → Option (List Nat)
  | 0, _ => none
  | k + 1, h =>
    if h.isAppOf nil then some []
    else if h.isAppOf cons then
      match place hd tl 1000 h.appFn!.appArg!, placesOf nil cons hd tl k h.appArg! with
      | some i, some l => some (i :: l)
      | _, _ => none
    else none
def plainEq : Nat → E → Bool
  | 0, _ => false
  | k + 1, h =>
    let a := h.getAppArgs
    if h.isAppOfArity ``Eq.trans 6 then plainEq k a[4]! && plainEq k a[5]!
    else if h.isAppOfArity ``congr 8 then plainEq k a[6]! && plainEq k a[7]!
    else if h.isAppOfArity ``congrArg 6 || h.isAppOf ``Eq.symm || h.isAppOf ``id then plainEq k h.appArg!
    else if h.isAppOfArity ``congrFun 6 || h.isAppOfArity ``congrFun' 6 then plainEq k a[4]!
    else h.isAppOf ``List.map_cons || h.isAppOf ``List.map_nil || h.isAppOf ``Eq.refl || h.isAppOf ``rfl
def optV : E := .app (mkConst ``Option [0]) (mkConst `PySem.Value)
def drops : List (Name × Nat) := [(`Mine.nodup_addrs, 4), (`Mine.nodup_addrs1, 5), (`Mine.nodup_addrs2, 7)]
def pre : Nat → E → E
  | 0, e => e
  | k + 1, e => e.replace fun e =>
    let a := e.getAppArgs
    let at_ (i : Nat) : E := pre k (a.getD i e)
    match e with
    | .lam n d b bi =>
      let r : E := if b.isApp then b.appArg! else b
      if b.isAppOfArity ``ite 5 && b.getAppArgs[0]! == optV && r.hasLooseBVar 0 && !(r.isApp && r.appArg! == .bvar 0 && !r.appFn!.hasLooseBVar 0) then
        some (.lam n d (.app (pre k b.appFn!) (.app (pre k (.lam n (d.liftLooseBVars 0 1) (r.liftLooseBVars 1 1) bi)) (.bvar 0))) bi)
      else none
    | _ =>
      match e.getAppFn.constName? with
      | none => none
      | some n =>
        let to (nil cons hd tl : Name) (f : E → E) : Option E := (placesOf nil cons hd tl 1000 e).map fun l => f (nats l)
        let one (hd tl : Name) (f : E → E) : Option E := (place hd tl 1000 e).map fun i => f (mkRawNatLit i)
        if drops.contains (n, a.size) then some (at_ (a.size - 1))
        else match n, a.size with
        | `Mine.map_eq, 5 => some (mkApp2 (mkConst ``Eq.refl [1]) (.app (mkConst ``List [0]) (mkConst `PySem.Addr)) (at_ 2))
        | `Mine.freshExt, 17 => some (mkAppN (mkConst `Mine.freshExt') (((a.eraseIdx! 15).eraseIdx! 9).map (pre k)))
        | ``Eq.mp, 4 =>
          if plainEq 10000 a[2]! then some (at_ 3)
          else if a[0]!.isAppOf `PySem.W.AllLt then some (mkApp3 (mkConst `Mine.ltC_of) (pre k a[0]!.appFn!.appArg!) (pre k a[0]!.appArg!) (at_ 3))
          else none
        | ``Eq.mpr, 4 => if plainEq 10000 a[2]! then some (at_ 3) else none
        | `Mine.Takes.cons, 7 => to `Mine.Takes.nil n `Mine.Rem.head `Mine.Rem.tail fun l => mkApp3 (mkConst `Mine.takes_at) (at_ 2) l yes
        | `Mine.Puts.cons, 9 => to `Mine.Puts.nil n `Mine.Put.head `Mine.Put.tail fun l => mkApp4 (mkConst `Mine.puts_at) (at_ 4) l (consC (at_ 1) (at_ 3)) yes
        | `Mine.Rem.tail, 5 => one `Mine.Rem.head n fun i => mkApp3 (mkConst `Mine.rem_at) (consC (at_ 1) (at_ 2)) i yes
        | `Mine.Put.tail, 6 => one `Mine.Put.head n fun i => mkApp4 (mkConst `Mine.put_at) (consC (at_ 2) (at_ 3)) i (at_ 1) yes
        | `Mine.PutF.tail, 6 => one `Mine.PutF.head n fun i => mkApp3 (mkConst `Mine.putF_at) (consC (at_ 2) (at_ 3)) i yes
        | ``List.Mem.tail, 5 => if a[0]! == cellT then one ``List.Mem.head n fun i => mkApp3 (mkConst `Mine.mem_at) (consC (at_ 2) (at_ 3)) i yes else none
        | _, _ => none
def shrink : Lean.Elab.Tactic.TacticM Unit := do
  let best := (← getMCtx).decls.foldl (fun (b : Option (MVarId × Nat)) m d => if d.userName == `whole && (match b with | some b => d.index < b.2 | none => true) then some (m, d.index) else b) none
  match best with
  | none => throwError "shrink: no whole"
  | some (m, _) => m.withContext do m.assign (← told (pre 1000000 (← instantiateMVars (.mvar m))))
def now : Lean.Elab.Tactic.TacticM Unit := Lean.Elab.Tactic.liftMetaFinishingTactic fun g => do
  match (← instantiateMVars (← g.getType)).eq? with
  | some (_, a, _) => g.assign (← mkEqRefl a)
  | none => throwError "now: no equation"
end Mine.Sh
end
section
namespace Mine.Om
open Lean.Omega
inductive T where
  | lit (n : Int) | x (i : Nat) | add (a b : T) | sub (a b : T) | mul (a b : T) | neg (a : T)
noncomputable def nth : List Int → Nat → Int
  | [], _ => 0
  | a :: _, 0 => a
  | _ :: l, i + 1 => nth l i
noncomputable def T.den (v : List Int) : T → Int
  | lit n => n | x i => nth v i | add a b => a.den v + b.den v | sub a b => a.den v - b.den v | mul a b => a.den v * b.den v | neg a => -a.den v
noncomputable def T.lc : T → LinearCombo
  | lit n => { const := n } | x i => .coordinate i | add a b => a.lc + b.lc | sub a b => a.lc - b.lc | mul a b => .mul a.lc b.lc | neg a => -a.lc
noncomputable def zeros : List Int → Bool
  | [] => true
  | a :: l => decide (a = 0) && zeros l
noncomputable def T.ok : T → Bool
  | lit _ => true | x _ => true | add a b => a.ok && b.ok | sub a b => a.ok && b.ok | mul a b => (a.ok && b.ok) && (zeros a.lc.coeffs || zeros b.lc.coeffs) | neg a => a.ok
theorem zeros_all (l : List Int) : zeros l = true → ∀ x, x ∈ l → x = 0 := by
  induction l with
  | nil => exact fun _ _ m => nomatch m
  | cons a l ih => exact fun h x m => (List.mem_cons.mp m).elim (fun e => e.trans (of_decide_eq_true (Bool.and_eq_true_iff.mp h).1)) (ih (Bool.and_eq_true_iff.mp h).2 x)
theorem nth_get (v : List Int) : ∀ i : Nat, Coeffs.get v i = nth v i := by
  induction v with
  | nil => exact fun _ => rfl
  | cons a l ih => exact fun i => Nat.casesOn i rfl ih
theorem T.ev {v : List Int} (t : T) : t.ok = true → t.lc.eval v = t.den v := by
  induction t with
  | lit n => exact fun _ => Int.add_zero n
  | x i => exact fun _ => (LinearCombo.coordinate_eval i v).trans (nth_get v i)
  | add a b ha hb => exact fun h => (LinearCombo.add_eval a.lc b.lc v).trans (congr (congrArg _ (ha (Bool.and_eq_true_iff.mp h).1)) (hb (Bool.and_eq_true_iff.mp h).2))
  | sub a b ha hb => exact fun h => (LinearCombo.sub_eval a.lc b.lc v).trans (congr (congrArg _ (ha (Bool.and_eq_true_iff.mp h).1)) (hb (Bool.and_eq_true_iff.mp h).2))
  | mul a b ha hb =>
    intro h
    obtain ⟨h1, h2⟩ := Bool.and_eq_true_iff.mp h
    exact (LinearCombo.mul_eval a.lc b.lc v ((Bool.or_eq_true_iff.mp h2).imp (zeros_all _) (zeros_all _))).trans (congr (congrArg _ (ha (Bool.and_eq_true_iff.mp h1).1)) (hb (Bool.and_eq_true_iff.mp h1).2))
  | neg a ha => exact fun h => (LinearCombo.neg_eval a.lc v).trans (congrArg _ (ha h))
inductive F where
  | le (a b : T) | lt (a b : T) | eq (a b : T) | raw (c : Constraint) (x : Coeffs)
noncomputable def F.den (v : List Int) : F → Prop
  | le a b => a.den v ≤ b.den v | lt a b => a.den v < b.den v | eq a b => a.den v = b.den v | raw c x => c.sat' x v
noncomputable def F.con : F → Constraint × Coeffs
  | le a b => ({ lowerBound := some (-(b.lc - a.lc).const), upperBound := none }, (b.lc - a.lc).coeffs)
  | lt a b => ({ lowerBound := some (-(b.lc - (a.lc + { const := 1 })).const), upperBound := none }, (b.lc - (a.lc + { const := 1 })).coeffs)
  | eq a b => ({ lowerBound := some (-(a.lc - b.lc).const), upperBound := some (-(a.lc - b.lc).const) }, (a.lc - b.lc).coeffs)
  | raw c x => (c, x)
noncomputable def F.ok : F → Bool
  | le a b => a.ok && b.ok | lt a b => a.ok && b.ok | eq a b => a.ok && b.ok | raw _ _ => true
theorem ge_sat {l : LinearCombo} {n : Int} {v : List Int} (e : l.eval v = n) (h : 0 ≤ n) : Constraint.sat' { lowerBound := some (-l.const), upperBound := none } l.coeffs v := Constraint.addInequality_sat (le_of_le_of_eq h e.symm)
theorem eq_sat {l : LinearCombo} {n : Int} {v : List Int} (e : l.eval v = n) (h : n = 0) : Constraint.sat' { lowerBound := some (-l.const), upperBound := some (-l.const) } l.coeffs v := Constraint.addEquality_sat (e.trans h)
theorem F.sat {v : List Int} (f : F) (h : f.ok = true) (d : f.den v) : f.con.1.sat' f.con.2 v := by
  cases f with
  | le a b =>
    obtain ⟨h1, h2⟩ := (Bool.and_eq_true _ _).mp h
    exact ge_sat ((LinearCombo.sub_eval b.lc a.lc v).trans (congr (congrArg _ (T.ev b h2)) (T.ev a h1))) (Int.sub_nonneg_of_le d)
  | lt a b =>
    obtain ⟨h1, h2⟩ := (Bool.and_eq_true _ _).mp h
    exact ge_sat ((LinearCombo.sub_eval b.lc (a.lc + { const := 1 }) v).trans (congr (congrArg _ (T.ev b h2)) ((LinearCombo.add_eval a.lc { const := 1 } v).trans (congr (congrArg _ (T.ev a h1)) (T.ev (.lit 1) rfl))))) (Int.sub_nonneg_of_le (Int.add_one_le_of_lt d))
  | eq a b =>
    obtain ⟨h1, h2⟩ := (Bool.and_eq_true _ _).mp h
    exact eq_sat ((LinearCombo.sub_eval a.lc b.lc v).trans (congr (congrArg _ (T.ev a h1)) (T.ev b h2))) (Int.sub_eq_zero_of_eq d)
  | raw c x => exact d
inductive J where
  | f (i : Nat) | tidy (j : J) | both (j k : J) | combo (a : Int) (j : J) (b : Int) (k : J)
noncomputable def pick : List F → Nat → Constraint × Coeffs
  | [], _ => (.trivial, [])
  | a :: _, 0 => a.con
  | _ :: l, i + 1 => pick l i
noncomputable def J.run (fs : List F) : J → Constraint × Coeffs
  | f i => pick fs i
  | tidy j => Lean.Omega.tidy (j.run fs)
  | both j k => if (j.run fs).2 = (k.run fs).2 then ((j.run fs).1.combine (k.run fs).1, (j.run fs).2) else j.run fs
  | combo a j b k => (Constraint.combo a (j.run fs).1 b (k.run fs).1, Coeffs.combo a (j.run fs).2 b (k.run fs).2)
theorem pick_sat {v : List Int} (fs : List F) : (∀ f ∈ fs, f.con.1.sat' f.con.2 v) → ∀ i : Nat, (pick fs i).1.sat' (pick fs i).2 v := by
  induction fs with
  | nil => exact fun _ _ => rfl
  | cons a l ih => exact fun h i => Nat.casesOn (motive := fun i => (pick (a :: l) i).1.sat' (pick (a :: l) i).2 v = true) i (h a (.head _)) (ih fun f m => h f (.tail _ m))
theorem both_sat {v : List Int} {p q : Constraint × Coeffs} (h : p.1.sat' p.2 v) (k : q.1.sat' q.2 v) : (if p.2 = q.2 then (p.1.combine q.1, p.2) else p).1.sat' (if p.2 = q.2 then (p.1.combine q.1, p.2) else p).2 v := by
  by_cases e : p.2 = q.2
  · rw [if_pos e]; exact Constraint.combine_sat' h (e ▸ k)
  · rw [if_neg e]; exact h
theorem J.sat {v : List Int} {fs : List F} (h : ∀ f ∈ fs, f.con.1.sat' f.con.2 v) (j : J) : (j.run fs).1.sat' (j.run fs).2 v := by
  induction j with
  | f i => exact pick_sat fs h i
  | tidy j hj => exact tidy_sat hj
  | both j k hj hk => exact both_sat hj hk
  | combo a j b k hj hk => exact combo_sat' _ _ a _ b _ v hj hk
noncomputable def allOk : List F → Bool
  | [] => true
  | f :: l => f.ok && allOk l
noncomputable def bad (fs : List F) (j : J) : Bool := allOk fs && (j.run fs).1.isImpossible
noncomputable def Imp (v : List Int) (G : Prop) : List F → Prop
  | [] => G
  | f :: l => f.den v → Imp v G l
theorem imp_of {v : List Int} {G : Prop} (fs : List F) : ((∀ f ∈ fs, f.den v) → G) → Imp v G fs := by
  induction fs with
  | nil => exact fun h => h fun _ m => nomatch m
  | cons a l ih => exact fun h d => ih fun hs => h fun f m => (List.mem_cons.mp m).elim (fun e => e ▸ d) (hs f)
theorem allOk_of (fs : List F) : allOk fs = true → ∀ f ∈ fs, f.ok = true := by
  induction fs with
  | nil => exact fun _ _ m => nomatch m
  | cons a l ih => exact fun h f m => (List.mem_cons.mp m).elim (fun e => e ▸ (Bool.and_eq_true_iff.mp h).1) (ih (Bool.and_eq_true_iff.mp h).2 f)
theorem out (v : List Int) (fs : List F) (j : J) (h : bad fs j = true) : Imp v False fs := imp_of fs fun hs =>
  Constraint.not_sat'_of_isImpossible (Bool.and_eq_true_iff.mp h).2 (J.sat (v := v) (fun f m => F.sat f (allOk_of fs (Bool.and_eq_true_iff.mp h).1 f m) (hs f m)) j)
end Mine.Om
namespace Mine.Om
open Lean Meta
abbrev E := Lean.Expr
def c1 (n : Name) (a : E) : E := .app (.const n []) a
def c2 (n : Name) (a b : E) : E := .app (c1 n a) b
def int (n : Int) : E := match n with
  | .ofNat n => c1 ``Int.ofNat (mkRawNatLit n)
  | .negSucc n => c1 ``Int.negSucc (mkRawNatLit n)
def tx (i : Nat) : E := c1 ``T.x (mkRawNatLit i)
def isLit (e : E) : Bool := e.isAppOf ``T.lit
def term (as : Array E) : Nat → E → Option E
  | 0, _ => none
  | k + 1, e =>
    match as.findIdx? (· == e), e.int? with
    | some i, _ => some (tx i)
    | none, some n => some (c1 ``T.lit (int n))
    | none, none =>
      let cast := e.isAppOfArity ``Nat.cast 3
      let h := if cast then e.appArg! else e
      let up (a : E) : E := if cast then .app e.appFn! a else a
      let a := h.getAppArgs
      if a.size == 6 then
        match term as k (up a[4]!), term as k (up a[5]!) with
        | some s, some t =>
          if h.isAppOf ``HAdd.hAdd then some (c2 ``T.add s t) else if h.isAppOf ``HSub.hSub && !cast then some (c2 ``T.sub s t) else if h.isAppOf ``HMul.hMul && (isLit s || isLit t) then some (c2 ``T.mul s t) else none
        | _, _ => none
      else if a.size == 3 && h.isAppOf ``Neg.neg then (term as k a[2]!).map (c1 ``T.neg)
      else if cast then h.nat?.map fun n => c1 ``T.lit (int n)
      else none
def fact (as : Array E) (n : Name) (a b pf : E) : Option (E × E) :=
  match term as 1000 a, term as 1000 b with
  | some s, some t => some (c2 n s t, pf)
  | _, _ => none
def leaf (as : Array E) (w : E) (iq : Bool) : Option (E × E) :=
  let a := w.getAppArgs
  let zero := int 0
  if iq && w.isAppOfArity ``le_of_le_of_eq 7 then
    let h := a[5]!
    if h.isAppOfArity ``Int.sub_nonneg_of_le 3 then
      let b := h.appArg!.getAppArgs
      if h.appArg!.isAppOfArity ``Int.add_one_le_of_lt 3 then fact as ``F.lt b[0]! b[1]! b[2]!
      else fact as ``F.le h.appFn!.appArg! h.appFn!.appFn!.appArg! h.appArg!
    else (term as 1000 a[2]!).map fun t => (c2 ``F.le (c1 ``T.lit zero) t, h)
  else if !iq && w.isAppOfArity ``Eq.trans 6 then
    let h := a[5]!
    let b := h.getAppArgs
    if h.isAppOfArity ``Int.sub_eq_zero_of_eq 3 then fact as ``F.eq b[0]! b[1]! b[2]!
    else (term as 1000 a[2]!).map fun t => (c2 ``F.eq t (c1 ``T.lit zero), h)
  else none
def way (as : Array E) : Nat → E → Array (E × E) → Option (E × Array (E × E))
  | 0, _, _ => none
  | k + 1, e, s =>
    let a := e.getAppArgs
    let two (x y : E) (f : E → E → E) : Option (E × Array (E × E)) :=
      match way as k x s with
      | some (j, s) => (way as k y s).map fun (l, s) => (f j l, s)
      | none => none
    if e.isAppOfArity ``Lean.Omega.tidy_sat 4 then (way as k a[3]! s).map fun (j, s) => (c1 ``J.tidy j, s)
    else if e.isAppOfArity ``Lean.Omega.combo_sat' 9 then
      match a[2]!.int?, a[4]!.int? with
      | some m, some n => two a[7]! a[8]! fun j l => .app (.app (c2 ``J.combo (int m) j) (int n)) l
      | _, _ => none
    else if e.isAppOfArity ``Lean.Omega.Constraint.combine_sat' 6 then two a[4]! a[5]! (c2 ``J.both)
    else
      let iq := e.isAppOf ``Lean.Omega.Constraint.addInequality_sat
      if a.size == 4 && (iq || e.isAppOf ``Lean.Omega.Constraint.addEquality_sat) then
        let I := mkConst ``Int
        let no := .app (mkConst ``Option.none [0]) I
        let lo := mkApp2 (mkConst ``Option.some [0]) I (mkApp3 (mkConst ``Neg.neg [0]) I (mkConst ``Int.instNegInt) a[0]!)
        let f := (leaf as a[3]! iq).getD (c2 ``F.raw (c2 ``Lean.Omega.Constraint.mk lo (if iq then no else lo)) a[1]!, e)
        match s.findIdx? (·.2 == f.2) with
        | some i => some (c1 ``J.f (mkRawNatLit i), s)
        | none => some (c1 ``J.f (mkRawNatLit s.size), s.push f)
      else none
def list (t : E) (l : List E) : E := l.foldr (fun a b => mkApp3 (mkConst ``List.cons [0]) t a b) (.app (mkConst ``List.nil [0]) t)
def items : Nat → E → Array E → Array E
  | 0, _, s => s
  | k + 1, e, s => if e.isAppOfArity ``List.cons 3 then items k e.appArg! (s.push e.appFn!.appArg!) else s
def slim (fs : List E) : Nat → Nat → List E → List E × List E
  | _, _, [] => ([], fs)
  | i, j, a :: as =>
    if fs.any fun f => (f.find? (· == tx i)).isSome || f.isAppOf ``F.raw then
      let p := slim (fs.map fun f => f.replace fun e => if e == tx i then some (tx j) else none) (i + 1) (j + 1) as
      (a :: p.1, p.2)
    else slim fs (i + 1) j as
def conv (e : E) : Option E :=
  let a := e.getAppArgs
  if a.size == 5 && a[3]!.isAppOf ``Lean.Omega.Coeffs.ofList then
    let as := items 1000 a[3]!.appArg! #[]
    (way as 100000 a[4]! #[]).map fun (j, fs) =>
      let (v, l) := slim (fs.toList.map (·.1)) 0 0 as.toList
      mkAppN (mkApp4 (mkConst ``out) (list (mkConst ``Int) v) (list (mkConst ``F) l) j (mkApp2 (mkConst ``Eq.refl [1]) (mkConst ``Bool) (mkConst ``Bool.true))) (fs.map (·.2))
  else none
def sq (e : E) : E := e.replace fun e => if e.isAppOf ``Lean.Omega.Constraint.not_sat'_of_isImpossible then conv e else none
def go : Lean.Elab.Tactic.TacticM Unit := Lean.Elab.Tactic.liftMetaFinishingTactic fun g => do
  let some g ← g.falseOrByContra | return ()
  g.withContext do
    let g' ← mkFreshExprSyntheticOpaqueMVar (← g.getType)
    Lean.Elab.Tactic.Omega.omega (← getLocalHyps).toList g'.mvarId! {}
    g.assign (sq (← instantiateMVars g'))
end Mine.Om
end
example : True := by (k_with "o" => first | with_reducible_and_instances assumption | run_tac Mine.Om.go); trivial
section
namespace Mine
open Sem (wp)

def stackSays (t : Sem Bool) (st : List (Code × Pos)) : Option Bool := match t with
  | .stack k => (match k st with | .pure b => some b | _ => none)
  | _ => none
def OkSt (st : List (Code × Pos)) : Prop := ∀ self, stackSays (Builtin.Bytes.exported self) st = some false
def OkCode (c : Code) : Prop := ∀ p, OkSt [(c, p)]
theorem okSt_nil : OkSt [] := fun _ => rfl
theorem okSt_cons {c : Code} {p : Pos} {st : List (Code × Pos)} (h : OkCode c) (h' : OkSt st) : OkSt ((c, p) :: st) := fun self => by
  have a := h p self
  have b := h' self
  unfold Builtin.Bytes.exported at a b ⊢
  change some (List.any [(c, p)] _) = some false at a
  change some (List.any st _) = some false at b
  show some (List.any ((c, p) :: st) _) = some false
  rw [List.any_cons] at a ⊢
  rw [List.any_nil, Bool.or_false] at a
  rw [Option.some.inj a, Option.some.inj b]; rfl

def GoodC (Γ : Ctx) : Prop := OkCode Γ.code ∧ OkSt Γ.below

def wpG {α : Type} (M : Model) (A : Around) (t : Sem α) (Q : α → Shared → Prop) (E : Value → Shared → Prop) (s : Shared) : Prop :=
  ∀ Γ p, Γ.In A → GoodC Γ → wp M Γ t (fun a _ s' => Q a s') (fun e _ s' => E e s') p s
def codeG (M : Model) (A : Around) (c : Code) (R : Result → Shared → Prop) (s : Shared) : Prop :=
  ∀ Γ p, Γ.code = c → Γ.Below A → OkSt Γ.below → wpCode M Γ R p s

section
variable {α β : Type} {M : Model} {A : Around} {E : Value → Shared → Prop} {s : Shared}
theorem wpG_of_any {t : Sem α} {Q : α → Shared → Prop} (h : wpAny M A t Q E s) : wpG M A t Q E s := fun Γ p hΓ _ => h Γ p hΓ
theorem codeG_of_any {c : Code} {R : Result → Shared → Prop} (h : codeAny M A c R s) : codeG M A c R s := fun Γ p hc hΓ _ => h Γ p hc hΓ
theorem wpG_pure {a : α} {Q : α → Shared → Prop} (h : Q a s) : wpG M A (pure a) Q E s := fun _ _ _ _ => h
theorem wpG_throw {e : Value} {Q : α → Shared → Prop} (h : E e s) : wpG M A (throw e : Sem α) Q E s := fun _ _ _ _ => h
theorem wpG_mono {t : Sem α} {Q Q' : α → Shared → Prop} {E' : Value → Shared → Prop} (h : wpG M A t Q E s)
    (hQ : ∀ a s, Q a s → Q' a s) (hE : ∀ e s, E e s → E' e s) : wpG M A t Q' E' s :=
  fun Γ p hΓ g => Sem.wp_mono M Γ t (fun a _ s => hQ a s) (fun e _ s => hE e s) p s (h Γ p hΓ g)
theorem codeG_mono {c : Code} {R R' : Result → Shared → Prop} (h : codeG M A c R s) (hR : ∀ r s, R r s → R' r s) : codeG M A c R' s :=
  fun Γ p hc hΓ g => wpCode_mono hR (h Γ p hc hΓ g)
theorem wpG_bind {m : Sem α} {f : α → Sem β} {Q : β → Shared → Prop} (h : wpG M A m (fun a s' => wpG M A (f a) Q E s') E s) :
    wpG M A (m >>= f) Q E s := fun Γ p hΓ g => by
  rw [Sem.wp_bind']
  exact Sem.wp_mono M Γ m (fun a p' s' h' => h' Γ p' hΓ g) (fun _ _ _ h' => h') p s (h Γ p hΓ g)
theorem wpG_tryCatch {m : Sem α} {k : Value → Sem α} {Q : α → Shared → Prop} (h : wpG M A m Q (fun e s' => wpG M A (k e) Q E s') s) :
    wpG M A (tryCatch m k) Q E s := fun Γ p hΓ g => by
  rw [Sem.wp_tryCatch']
  exact Sem.wp_mono M Γ m (fun _ _ _ h' => h') (fun e p' s' h' => h' Γ p' hΓ g) p s (h Γ p hΓ g)
theorem wpG_onRaise {m : Sem α} {k : Value → Sem Unit} {Q : α → Shared → Prop}
    (h : wpG M A m Q (fun e s' => wpG M A (k e) (fun _ s'' => E e s'') E s') s) : wpG M A (m.onRaise k) Q E s := fun Γ p hΓ g => by
  rw [Sem.wp_onRaise]
  exact Sem.wp_mono M Γ m (fun _ _ _ h' => h') (fun e p' s' h' => h' Γ p' hΓ g) p s (h Γ p hΓ g)
theorem wpG_attempt {m : Sem α} {Q : Except Value α → Shared → Prop} (h : wpG M A m (fun a => Q (.ok a)) (fun e => Q (.error e)) s) :
    wpG M A m.attempt Q E s := fun Γ p hΓ g => by rw [Sem.wp_attempt]; exact h Γ p hΓ g
theorem wpG_holding {vs : List Value} {m : Sem α} {Q : α → Shared → Prop} (h : wpG M A m Q E s) : wpG M A (holding vs m) Q E s :=
  fun Γ p hΓ g => by rw [Sem.wp_holding]; exact h Γ p hΓ g
theorem wpG_standAt {pos : Pos} {Q : Unit → Shared → Prop} (h : Q () s) : wpG M A (standAt pos) Q E s := fun _ _ _ _ => h
theorem wpG_rule {tag : String} {Q : Unit → Shared → Prop} (h : Q () s) : wpG M A (rule tag) Q E s := fun _ _ _ _ => h
theorem wpG_point {Q : Unit → Shared → Prop} (h : Q () s) : wpG M A point Q E s := fun _ _ _ _ => h
theorem wpG_operate {vs : List Value} {m : Sem Value} {Q : Value → Shared → Prop} (h : wpG M A m Q E s) : wpG M A (operate vs m) Q E s :=
  fun Γ p hΓ g => by rw [Sem.wp_operate]; exact h Γ p hΓ g
theorem wpG_run {c : Code} {h : Option Value} {Q : Flow → Shared → Prop}
    (hc : codeG M (A.mark h) c (fun r s' => match r with | .ok f => Q f s' | .error e => E e s') s) (hnb : h ≠ some byPass := by intro x; cases x) :
    wpG M A (run c h) Q E s :=
  fun Γ p hΓ g => by rw [Sem.wp_run]; exact hc _ p rfl (hΓ.enter c h p hnb) (okSt_cons g.1 g.2)
theorem wpG_runValue {c : Code} {Q : Value → Shared → Prop}
    (hc : codeG M A c (fun r s' => match r with | .ok (.ret v) => Q v s' | .ok _ => False | .error e => E e s') s) :
    wpG M A (runValue c) Q E s := fun Γ p hΓ g => by rw [Sem.wp_runValue]; exact hc _ p rfl (hΓ.enter c none p (by intro x; cases x)) (okSt_cons g.1 g.2)
theorem wpG_call {f : Value} {pos : List Value} {kw : List (Str × Value)} {Q : Value → Shared → Prop}
    (hc : codeG M A (.call f ⟨pos, kw⟩) (fun r s' => match r with | .ok (.ret v) => Q v s' | .ok _ => False | .error e => E e s') s) :
    wpG M A (call f pos kw) Q E s := wpG_runValue hc
theorem codeG_of_tree {c : Code} {R : Result → Shared → Prop} (hok : OkCode c)
    (h : wpG M (A.under c) (M.den c) (fun fin s' => match fin with | .done f => R (.ok f) s' | .again c' => c'.quiet = true ∧ codeG M A c' R s')
      (fun e s' => R (.error e) s') s) : codeG M A c R s := fun Γ p hc hΓ g => by
  rw [wpCode_iff_wp, hc]
  refine Sem.wp_mono M Γ _ (fun fin p' s' h' => ?_) (fun _ _ _ h' => h') p s (h Γ p (hc ▸ hΓ.in) ⟨hc ▸ hok, g⟩)
  cases fin with
  | done f => exact h'
  | again c' => exact ⟨h'.1, h'.2 (Γ.goto c') p' rfl (hΓ.goto c') g⟩
theorem wpG_exported {self : Value} {Q : Bool → Shared → Prop} (h : Q false s) : wpG M A (Builtin.Bytes.exported self) Q E s := fun Γ p _ g => by
  have z := okSt_cons (p := p) g.1 g.2 self
  unfold Builtin.Bytes.exported at z ⊢
  change some (List.any ((Γ.code, p) :: Γ.below) _) = some false at z
  show Q (List.any ((Γ.code, p) :: Γ.below) _) s
  rw [Option.some.inj z]; exact h
end

theorem codeG_builtin {prog : Program} {w : World} {A : Around} {s : Shared} {R : Result → Shared → Prop} {id : String} {args : Args} {b : Builtin} (hb : entryFor table id = some b) (ok : OkCode (.builtin id args))
    (h : wpG (model prog w) (A.under (.builtin id args)) (b args) (fun fin s' => match fin with | .done f => R (.ok f) s' | .again c' => c'.quiet = true ∧ codeG (model prog w) A c' R s')
      (fun e s' => R (.error e) s') s) : codeG (model prog w) A (.builtin id args) R s := by
  refine codeG_of_tree ok ?_
  show wpG _ _ (match entryFor table id with | some b => b args | none => unsupported ((withoutEnding? id "#data").getD id)) _ _ s
  rw [hb]; exact h
theorem wpG_of_eq {α : Type} {M : Model} {A : Around} {E : Value → Shared → Prop} {s : Shared} {t : Sem α} {a : α} {Q : α → Shared → Prop} (e : t = pure a) (h : Q a s) : wpG M A t Q E s := by rw [e]; exact wpG_pure h
theorem ok_func (body : List Stmt) (env : Env) : OkCode (.func body env) := fun _ _ => rfl
theorem ok_call (f : Value) (args : Args) : OkCode (.call f args) := fun _ _ => rfl
theorem ok_while (t : Expr) (b o : List Stmt) (env : Env) : OkCode (.whileLoop t b o env) := fun _ _ => rfl
theorem ok_for (t : Expr) (v : Value) (b o : List Stmt) (env : Env) : OkCode (.forLoop t v b o env) := fun _ _ => rfl
theorem ok_block (b : List Stmt) (env : Env) : OkCode (.block b env) := fun _ _ => rfl
theorem ok_handlers (e : Value) (h : List ExceptHandler) (env : Env) : OkCode (.handlers e h env) := fun _ _ => rfl
theorem ok_init (args : Args) : OkCode (.builtin "bytearray.__init__" args) := fun p self => by
  obtain ⟨pos, kw⟩ := args
  cases pos with
  | nil => rfl
  | cons v r =>
    show stackSays (Builtin.Bytes.exported self) [(.builtin "bytearray.__init__" ⟨v :: r, kw⟩, p)] = some false
    have e : stackSays (Builtin.Bytes.exported self) [(.builtin "bytearray.__init__" ⟨v :: r, kw⟩, p)] = some ((Builtin.Bytes.sameRef v self && Builtin.Bytes.decodersThatHold.contains "bytearray.__init__") || false) := by kernel_rfl
    rw [e, show Builtin.Bytes.decodersThatHold.contains "bytearray.__init__" = false by kernel_rfl, Bool.and_false]; rfl
theorem ok_caller : OkCode (.builtin "claim.caller" {}) := fun _ _ => rfl
end Mine
end
section
namespace Mine
open PySem.Spec

theorem ends_of_wpG {prog : Program} {w : World} {t : Sem Fin} {s : Shared} {R : Result → Shared → Prop} (hreg : s.asleep)
    (h : wpG (model prog w) callerA t (fun fin s' => ∃ f, fin = .done f ∧ (R (.ok f) s' ∧ leftWithCleanup s'.gens = false)) (fun e s' => R (.error e) s' ∧ leftWithCleanup s'.gens = false) s) :
    ∃ n r s' s'', runN (denote table) prog w n s ⟨t, .builtin "claim.caller" {}, default, []⟩ = .halted (outcomeOf r) s' ∧
      schedN (denote table) prog w n (.single s ⟨t, .builtin "claim.caller" {}, default, []⟩) = .halted (outcomeOf r) s' ∧ s'.forget = s''.forget ∧ R r s'' := by
  refine ?whole
  have z : Sem.wp (model prog w) ⟨.builtin "claim.caller" {}, none, none, [], none⟩ t
      (Sem.finPost (model prog w) ⟨.builtin "claim.caller" {}, none, none, [], none⟩ fun r s' => R r s' ∧ leftWithCleanup s'.gens = false)
      (fun e _ s' => R (.error e) s' ∧ leftWithCleanup s'.gens = false) default s :=
    Sem.wp_mono _ _ _ (fun fin p' s' h' => by obtain ⟨f, rfl, hf⟩ := h'; exact hf) (fun _ _ _ h' => h') _ _ (h _ _ caller_in ⟨ok_caller, okSt_nil⟩)
  obtain ⟨n, r, s₁, s₂, hs, hn, hfo, hR⟩ := wp_halts_full (M := model prog w) (R := R) hreg z
  exact ⟨n, r, s₂, s₁, hn, hs, hfo, hR⟩
  run_tac Mine.Sh.shrink
theorem callFromG {c : ClaimW} {tree : List Value → Sem Fin} {w : World} {s : Shared} {free : Addr → Prop} {gens : Prop} {kept : Heap → Prop} (hz : s.asleep) (hgens : s.gens = #[])
    (hspec : ∀ args, c.pre args = true → WData.layableAll args = true → ∀ ord : List DictEntry → List DictEntry, (∀ l, (ord l).Perm l) →
      ∃ vs s₁, layAllW c.records (classAt s.heap) w.params ord args s = some (vs, s₁) ∧
        wpG (model c.prog w) callerA (tree vs) (fun fin s' => ∃ f, fin = .done f ∧ (c.Ends s args vs s₁ (.ok f) s' ∧ s'.os = s.os ∧ AllBare s'.gens ∧ kept s'.heap))
          (fun e s' => c.Ends s args vs s₁ (.error e) s' ∧ s'.os = s.os ∧ AllBare s'.gens ∧ kept s'.heap) s₁) :
    c.CallFrom (fun vs => ⟨tree vs, .builtin "claim.caller" {}, default, []⟩) w free gens kept s := by
  refine ?whole
  intro args hpre hlay ord hord
  obtain ⟨vs, s₁, hlaid, hcode⟩ := hspec args hpre hlay ord hord
  have hal := layAllW_rest _ _ _ hlaid
  obtain ⟨k, r, s', s'', hrun, hsched, hfo, hcase, hos, hkp⟩ := ends_of_wpG (prog := c.prog) (w := w) (t := tree vs) (s := s₁)
    (R := fun r s' => c.Ends s args vs s₁ r s' ∧ s'.os = s.os ∧ kept s'.heap) (Shared.asleep_of_life hal.2.2.2 hz)
    (wpG_mono hcode (fun _ _ ⟨f, e, h1, h2, h3, h4⟩ => ⟨f, e, ⟨h1, h2, h4⟩, leftWithCleanup_false_of_bare h3⟩)
      fun _ _ ⟨h1, h2, h3, h4⟩ => ⟨⟨h1, h2, h4⟩, leftWithCleanup_false_of_bare h3⟩)
  obtain ⟨eh, _, _, eo, _⟩ := Shared.forget_eq hfo
  have hcase := hcase.congr eh
  rw [← eh] at hkp
  rw [← eo] at hos
  have hlife : s'.heap.life = s.heap.life := (runN_life _ _ _ hrun).trans hal.2.2.2
  refine ⟨vs, s₁, hlaid, k, _, s', hsched, ?_, (fun _ i x hx => by rw [hgens] at hx; simp at hx), hkp, by rw [hlife], Shared.rest_eq hos⟩
  rcases hcase with ⟨v, rfl, d1, d2, d3, d4, d5⟩ | ⟨e, ob, cls, rfl, d1, d2, d3, d4, d5⟩
  · exact .inl ⟨v, rfl, d1, d2, d3, fun b o y _ => d4 b o y, d5⟩
  · exact .inr ⟨e, ob, cls, rfl, d1, d2, d3, d4, fun b o y _ => d5 b o y⟩
  run_tac Mine.Sh.shrink
abbrev WalkG (q : Program) (loose : List Str) (XP : (Str → Option Value) → Heap → Prop) (YP : World → Heap → Prop) (r : RowW) (d : DefRec) (kwd : List (Str × Expr)) : Prop :=
  ∀ (w : World) (s₀ s₁ : Shared) (mg mb : Str → Option Value), Ground q loose r.records XP w s₀ mg mb s₁.heap → YP w s₁.heap → ∀ (a : Addr) (o : Obj) (pm cd doc dV kV : Value), s₁.heap.get? a = some o →
    o.data = .func { docDef d.name d.params d.body d.scope pm cd doc with defaults := dV, kwdefaults := kV } → s₁.heap.CodeRec cd d.name → Dflts mg s₁.heap d.params kwd dV kV → mg d.name = some (.ref a) → s₁.gens = #[] →
    ∀ (args : List WData) (vals : List Value) (as : List Addr), r.claim.pre args = true → WData.layableAll args = true → ReadsAllW r.records (classAt s₀.heap) s₁.heap vals args as → WellAll w.params s₁.heap vals args → (∀ a ∈ as, (a == sysModules) = false) →
      wpG (model r.prog w) callerA (PySem.call (.ref a) vals) (fun v s' => GoodWG r.claim (classAt s₀.heap) (ExcName.means s₀.heap) args s₁ (.ok (.ret v)) s')
        (fun e s' => GoodWG r.claim (classAt s₀.heap) (ExcName.means s₀.heap) args s₁ (.error e) s') s₁

theorem PySem.W.holds_open {r : OpenRow} {q : Program} {loose : List Str} {Xt : Shared → Bool} {XP : (Str → Option Value) → Heap → Prop} {α : Type} {Yf : Shared → α} {Ya : World → α} {YP : World → Heap → Prop} {d : DefRec} {kwd : List (Str × Expr)} {N : Nat}
    (left : LeftO r.prog q loose Xt Yf Ya N) (hY : ∀ w s, Yf s = Ya w → YP w s.heap) (hYk : ∀ w h h', YP w h → (∀ b o, h.get? b = some o → h'.get? b = some o) → YP w h')
    (hX : ∀ s, Xt s = true → XP (s.heap.nsMap mainGlobals) s.heap) (hXk : ∀ mg h h', XP mg h → (∀ b o, h.get? b = some o → h'.get? b = some o) → XP mg h')
    (hdef : defOf q r.name = some (d, kwd)) (hp : r.prog.theDef r.name = some (d.params, d.body, d.scope)) (hk : kwWritten? d.params.kwonlyargs d.params.kw_defaults = some kwd) (hRf : ∀ s, Xt s = true → RecFacts r.records s.heap) (hwr : (!r.writes || r.records.isEmpty) = true)
    (k1 : r.wellSaid = true) (ok : (chainsOk q && opensWell r.prog && (frees r.toRowW && r.within.isEmpty)) = true) (hb : r.prog.bare) (hw : r.toRowW.promised)
    (call : WalkG q loose XP YP r.toRowW d kwd) : r.Holds := by
  refine ?whole
  obtain ⟨ok, k5⟩ := Bool.and_eq_true_iff.mp ok
  obtain ⟨hch, o1⟩ := Bool.and_eq_true_iff.mp ok
  obtain ⟨k5, k6⟩ := Bool.and_eq_true_iff.mp k5
  obtain ⟨hsame, hu, ha, hap, hm⟩ := frees_parts k5
  refine ⟨k1, hw, ⟨hb, o1, by show r.toRowW.makers.map _ = []; rw [hm]; rfl⟩, hw.witness, fun w => ⟨(left.behind hX hch w).1, fun s' hs' => ?_⟩⟩
  obtain ⟨s₀, hf, hg0, s, hT, hz, hgens, hg, G00, y⟩ := (left.behind (XP := fun mg h => XP mg h ∧ RecFacts r.records h) (fun s hs => ⟨hX s hs, hRf s hs⟩) hch w).2 s' hs'
  have G0 : Ground q loose [] XP w s (s.heap.nsMap mainGlobals) (s.heap.nsMap builtinsNs) s.heap := ⟨G00.T, G00.B, G00.D, G00.TE, G00.TD, G00.W, G00.X.1, G00.cls, G00.has, G00.apart, G00.once, G00.K⟩
  have RF := G00.X.2
  refine ⟨s₀, hf, hg0, s, hT, (fun n hn => ?_), RF.1, RF.2.1, ?_⟩
  · obtain rfl : n = r.name := by split at hn <;> simp_all
    exact pinned_of_view hg G0 hdef hp hk
  have hgens : s.gens = #[] := Array.eq_empty_of_size_eq_zero (beq_iff_eq.mp hgens)
  have G : Ground q loose r.records XP w s _ _ s.heap := RF.ground G0
  refine callFromG (c := r.toRowW.claim) hz hgens fun args hpre hlay ord hord => ?_
  obtain ⟨⟨vs, s₁⟩, hlaid⟩ := Option.isSome_iff_exists.mp (layAllW_isSome (P := w.params) (ord := ord) G.has args r.args s (pre_splitW hpre).1)
  have keeps := layAllW_keeps _ _ _ hlaid
  have hal := layAllW_rest _ _ _ hlaid
  obtain ⟨as, hrd, hin, hold⟩ := reads_layAllW hord _ _ _ hlaid hlay s₁.heap (fun _ _ e => e)
  have L : Laid r.records w s s₁ args vs as := ⟨⟨ord, hord, hlaid⟩, hrd, hin, hold, keeps, hal.1.trans hgens, hal.2.2.1⟩
  have G₁ := G.keeps hXk keeps
  have Y₁ := hYk _ _ _ (hY w s y) keeps
  obtain ⟨a, o, pm, cd, doc, dV, kV, h1, h2, h3, h4, h5⟩ := G₁.fn hdef
  have h := call w s s₁ _ _ G₁ Y₁ a o pm cd doc dV kV h2 h3 h4 h5 (defOf_name hdef ▸ h1) L.gens args vs as hpre hlay L.reads L.well (L.low G.low)
  have hi := ident_freeW hu ha hap
  have hwi : r.toRowW.claim.within = [] := List.isEmpty_iff.mp k6
  refine ⟨vs, s₁, hlaid, ?_⟩
  refine wpG_bind (wpG_of_any (wpAny_nsGet G₁.T.g ?_))
  rw [h1]
  refine wpG_bind (wpG_mono h (fun v s' g => ?_) fun e s' g => ?_)
  · have z := g.laid (c := r.toRowW.claim) hsame hwi hi L
    exact wpG_pure ⟨_, rfl, z.1, z.2.1, z.2.2, fun q => ⟨namesKept_of hT hg _ keeps g.2.1.old, noTable hwr q⟩⟩
  · have z := g.laid (c := r.toRowW.claim) hsame hwi hi L
    exact ⟨z.1, z.2.1, z.2.2, fun q => ⟨namesKept_of hT hg _ keeps g.2.1.old, noTable hwr q⟩⟩
  run_tac Mine.Sh.shrink
end Mine
end
section
set_option linter.unusedVariables false
set_option maxRecDepth 1000000
noncomputable section
namespace Mine
noncomputable def sv (x : String) (t : Tok) : Value := .str (Str.ofString x) t
noncomputable def iv (x : Int) (t : Tok) : Value := .int x t
noncomputable def rv (a : Addr) : Value := .ref a
noncomputable def tv (x : String) : Value := .type x
noncomputable def bv (x : String) : Value := .builtin x
noncomputable def en (P : Params) (k : String) (t : Tok) (v : Value) : DictEntry := ⟨PyData.keyHash P (Str.ofString k), .str (Str.ofString k) t, v⟩
noncomputable def tu (l : Array Value) : Obj := { cls := .type "tuple", data := .seq l }
noncomputable def fi (c : Value) (l : Array Value) : Obj := { cls := c, data := .fields l }
noncomputable def topL : List Stmt := Challenge.rw_xm0852_01.row.toRowW.1.main.body
noncomputable def stL : List Stmt → Nat → Stmt
  | [], _ => .Pass default
  | a :: _, 0 => a
  | _ :: r, k + 1 => stL r k
noncomputable def clL : Stmt → List Stmt
  | .ClassDef _ _ _ b _ _ _ _ _ _ _ => b
  | _ => []
noncomputable def fdL : Stmt → FuncData
  | .FunctionDef n a b _ _ _ sc _ _ _ => { name := n, qualname := n, params := a, body := .stmts b, scope := sc, globals := 0, closure := [], defaults := .none, kwdefaults := .none }
  | _ => default
noncomputable def fnA (i : Nat) : FuncData := fdL (stL topL i)
noncomputable def meA (i j : Nat) : FuncData := fdL (stL (clL (stL topL i)) j)
noncomputable def fu (c : Value) (f : FuncData) (q : String) (g : FuncData → FuncData) : Obj := { cls := c, data := .func (g { f with qualname := Str.ofString q }) }
noncomputable def setL : List Obj → Nat → Obj → List Obj
  | [], _, _ => []
  | _ :: r, 0, o => o :: r
  | a :: r, k + 1, o => a :: setL r k o
noncomputable def up : List Obj → List (Nat × Obj) → List Obj
  | l, [] => l
  | l, (i, o) :: r => up (setL l i o) r
noncomputable def evL : List Obj → List Obj
  | [] => []
  | [a] => [a]
  | a :: _ :: r => a :: evL r
noncomputable def odL : List Obj → List Obj
  | [] => []
  | [_] => []
  | _ :: b :: r => b :: odL r
noncomputable def btL : Nat → List Obj → BT
  | 0, _ => .nil
  | _ + 1, [] => .nil
  | k + 1, a :: r => .node a (btL k (evL r)) (btL k (odL r))
noncomputable def cutL (i n : Nat) : List Stmt := (topL.drop i).take n
noncomputable def f0 : FuncData := (fun {k : FuncData} (_ : k = fnA 0) => k) (by conv => rhs; whnf)
noncomputable def f18 : FuncData := (fun {k : FuncData} (_ : k = fnA 18) => k) (by conv => rhs; whnf)
noncomputable def f19 : FuncData := (fun {k : FuncData} (_ : k = fnA 19) => k) (by conv => rhs; whnf)
noncomputable def f20 : FuncData := (fun {k : FuncData} (_ : k = fnA 20) => k) (by conv => rhs; whnf)
noncomputable def f21 : FuncData := (fun {k : FuncData} (_ : k = fnA 21) => k) (by conv => rhs; whnf)
noncomputable def f22 : FuncData := (fun {k : FuncData} (_ : k = fnA 22) => k) (by conv => rhs; whnf)
noncomputable def f23 : FuncData := (fun {k : FuncData} (_ : k = fnA 23) => k) (by conv => rhs; whnf)
noncomputable def f34 : FuncData := (fun {k : FuncData} (_ : k = fnA 34) => k) (by conv => rhs; whnf)
noncomputable def f35 : FuncData := (fun {k : FuncData} (_ : k = fnA 35) => k) (by conv => rhs; whnf)
noncomputable def f36 : FuncData := (fun {k : FuncData} (_ : k = fnA 36) => k) (by conv => rhs; whnf)
noncomputable def f37_0 : FuncData := (fun {k : FuncData} (_ : k = meA 37 0) => k) (by conv => rhs; whnf)
noncomputable def f37_1 : FuncData := (fun {k : FuncData} (_ : k = meA 37 1) => k) (by conv => rhs; whnf)
noncomputable def f37_2 : FuncData := (fun {k : FuncData} (_ : k = meA 37 2) => k) (by conv => rhs; whnf)
noncomputable def f37_3 : FuncData := (fun {k : FuncData} (_ : k = meA 37 3) => k) (by conv => rhs; whnf)
noncomputable def f38_0 : FuncData := (fun {k : FuncData} (_ : k = meA 38 0) => k) (by conv => rhs; whnf)
noncomputable def f38_1 : FuncData := (fun {k : FuncData} (_ : k = meA 38 1) => k) (by conv => rhs; whnf)
noncomputable def f38_2 : FuncData := (fun {k : FuncData} (_ : k = meA 38 2) => k) (by conv => rhs; whnf)
noncomputable def f38_3 : FuncData := (fun {k : FuncData} (_ : k = meA 38 3) => k) (by conv => rhs; whnf)
noncomputable def f38_4 : FuncData := (fun {k : FuncData} (_ : k = meA 38 4) => k) (by conv => rhs; whnf)
noncomputable def f39 : FuncData := (fun {k : FuncData} (_ : k = fnA 39) => k) (by conv => rhs; whnf)
noncomputable def f40 : FuncData := (fun {k : FuncData} (_ : k = fnA 40) => k) (by conv => rhs; whnf)
noncomputable def f45_0 : FuncData := (fun {k : FuncData} (_ : k = meA 45 0) => k) (by conv => rhs; whnf)
noncomputable def f45_1 : FuncData := (fun {k : FuncData} (_ : k = meA 45 1) => k) (by conv => rhs; whnf)
noncomputable def f45_2 : FuncData := (fun {k : FuncData} (_ : k = meA 45 2) => k) (by conv => rhs; whnf)
noncomputable def f46_0 : FuncData := (fun {k : FuncData} (_ : k = meA 46 0) => k) (by conv => rhs; whnf)
noncomputable def f46_1 : FuncData := (fun {k : FuncData} (_ : k = meA 46 1) => k) (by conv => rhs; whnf)
noncomputable def f47_0 : FuncData := (fun {k : FuncData} (_ : k = meA 47 0) => k) (by conv => rhs; whnf)
noncomputable def f47_1 : FuncData := (fun {k : FuncData} (_ : k = meA 47 1) => k) (by conv => rhs; whnf)
noncomputable def f47_2 : FuncData := (fun {k : FuncData} (_ : k = meA 47 2) => k) (by conv => rhs; whnf)
noncomputable def f47_3 : FuncData := (fun {k : FuncData} (_ : k = meA 47 3) => k) (by conv => rhs; whnf)
noncomputable def f47_4 : FuncData := (fun {k : FuncData} (_ : k = meA 47 4) => k) (by conv => rhs; whnf)
noncomputable def f47_5 : FuncData := (fun {k : FuncData} (_ : k = meA 47 5) => k) (by conv => rhs; whnf)
noncomputable def f48_0 : FuncData := (fun {k : FuncData} (_ : k = meA 48 0) => k) (by conv => rhs; whnf)
noncomputable def f48_1 : FuncData := (fun {k : FuncData} (_ : k = meA 48 1) => k) (by conv => rhs; whnf)
noncomputable def f48_2 : FuncData := (fun {k : FuncData} (_ : k = meA 48 2) => k) (by conv => rhs; whnf)
noncomputable def f48_3 : FuncData := (fun {k : FuncData} (_ : k = meA 48 3) => k) (by conv => rhs; whnf)
noncomputable def f48_4 : FuncData := (fun {k : FuncData} (_ : k = meA 48 4) => k) (by conv => rhs; whnf)
noncomputable def f48_5 : FuncData := (fun {k : FuncData} (_ : k = meA 48 5) => k) (by conv => rhs; whnf)
noncomputable def f48_6 : FuncData := (fun {k : FuncData} (_ : k = meA 48 6) => k) (by conv => rhs; whnf)
noncomputable def f48_7 : FuncData := (fun {k : FuncData} (_ : k = meA 48 7) => k) (by conv => rhs; whnf)
noncomputable def f48_8 : FuncData := (fun {k : FuncData} (_ : k = meA 48 8) => k) (by conv => rhs; whnf)
noncomputable def f48_9 : FuncData := (fun {k : FuncData} (_ : k = meA 48 9) => k) (by conv => rhs; whnf)
noncomputable def f48_10 : FuncData := (fun {k : FuncData} (_ : k = meA 48 10) => k) (by conv => rhs; whnf)
noncomputable def f48_11 : FuncData := (fun {k : FuncData} (_ : k = meA 48 11) => k) (by conv => rhs; whnf)
noncomputable def f48_12 : FuncData := (fun {k : FuncData} (_ : k = meA 48 12) => k) (by conv => rhs; whnf)
noncomputable def f48_13 : FuncData := (fun {k : FuncData} (_ : k = meA 48 13) => k) (by conv => rhs; whnf)
noncomputable def f48_14 : FuncData := (fun {k : FuncData} (_ : k = meA 48 14) => k) (by conv => rhs; whnf)
noncomputable def f48_15 : FuncData := (fun {k : FuncData} (_ : k = meA 48 15) => k) (by conv => rhs; whnf)
noncomputable def f48_16 : FuncData := (fun {k : FuncData} (_ : k = meA 48 16) => k) (by conv => rhs; whnf)
noncomputable def f48_17 : FuncData := (fun {k : FuncData} (_ : k = meA 48 17) => k) (by conv => rhs; whnf)
noncomputable def f48_18 : FuncData := (fun {k : FuncData} (_ : k = meA 48 18) => k) (by conv => rhs; whnf)
noncomputable def f48_19 : FuncData := (fun {k : FuncData} (_ : k = meA 48 19) => k) (by conv => rhs; whnf)
noncomputable def f48_20 : FuncData := (fun {k : FuncData} (_ : k = meA 48 20) => k) (by conv => rhs; whnf)
noncomputable def f50 : FuncData := (fun {k : FuncData} (_ : k = fnA 50) => k) (by conv => rhs; whnf)
noncomputable def f51 : FuncData := (fun {k : FuncData} (_ : k = fnA 51) => k) (by conv => rhs; whnf)
noncomputable def f52 : FuncData := (fun {k : FuncData} (_ : k = fnA 52) => k) (by conv => rhs; whnf)
noncomputable def f53 : FuncData := (fun {k : FuncData} (_ : k = fnA 53) => k) (by conv => rhs; whnf)
noncomputable def f54 : FuncData := (fun {k : FuncData} (_ : k = fnA 54) => k) (by conv => rhs; whnf)
noncomputable def f55 : FuncData := (fun {k : FuncData} (_ : k = fnA 55) => k) (by conv => rhs; whnf)
noncomputable def f56 : FuncData := (fun {k : FuncData} (_ : k = fnA 56) => k) (by conv => rhs; whnf)
noncomputable def o43 (P : Params) : Obj := tu #[]
noncomputable def o44 (P : Params) : Obj := fi (Value.none) #[]
noncomputable def o45 (P : Params) : Obj := fi (tv "code") #[sv "<module>" 182, sv "<module>" 183, sv "/claim/cut.py" 184, iv 1 0, iv 0 0, iv 0 0, iv 0 0, iv 0 0, rv 11, Value.bool false, iv 181 0, rv 12, Value.none, Value.none, Value.none, Value.none, iv 185 0, iv 1 0, sv "/claim/cut.py" 186]
noncomputable def o46 (P : Params) : Obj := { cls := tv "frame", slots := #[some (rv 13), some (rv 3), some (rv 3), none, some (sv "__main__" 164), none, some (rv 0)] }
noncomputable def o49 (P : Params) : Obj := { cls := Value.none, data := Data.dict #[en P "type.__subclasses__.Exception.0" 212 (iv 31 0), en P "type.__subclasses__.Exception.n" 213 (iv 1 0)] 2 }
noncomputable def o50 (P : Params) : Obj := { cls := tv "dict", data := Data.dict #[en P "__name__" 165 (sv "raftkeep.errors" 194), en P "__doc__" 166 (Value.none), en P "__package__" 167 (Value.none), en P "__loader__" 168 (bv "__main__.__loader__#opaque"), en P "__spec__" 169 (Value.none), en P "__annotations__" 170 (rv 6), en P "__builtins__" 171 (rv 4), en P "__file__" 173 (sv "/claim/cut.py" 172), en P "__cached__" 174 (Value.none), en P "_wall" 193 (rv 21), en P "KeepError" 215 (rv 31)] 11 }
noncomputable def o51 (P : Params) : Obj := fi (Value.none) #[iv 1 0, iv 0 0, rv 20, iv 5 0, iv 0 0, rv 27]
noncomputable def o52 (P : Params) : Obj := tu #[]
noncomputable def o53 (P : Params) : Obj := fi (Value.none) #[]
noncomputable def o54 (P : Params) : Obj := tu #[sv "k" 190]
noncomputable def o55 (P : Params) : Obj := tu #[]
noncomputable def o56 (P : Params) : Obj := fu (Value.none) (f0) "_wall" fun f => { f with globals := 0, closure := [], defaults := Value.none, kwdefaults := Value.none }
noncomputable def o57 (P : Params) : Obj := fi (tv "code") #[sv "_wall" 187, sv "_wall" 188, sv "/claim/cut.py" 189, iv 1 0, iv 1 0, iv 0 0, iv 0 0, iv 3 0, rv 15, Value.bool true, iv 181 0, rv 16, Value.none, rv 17, rv 18, rv 19, iv 191 0, iv 1 0, sv "/claim/cut.py" 192]
noncomputable def o58 (P : Params) : Obj := fu (tv "function") (f0) "_wall" fun f => { f with globals := 3, closure := [], defaults := Value.none, kwdefaults := Value.none, pyModule := sv "__main__" 164, code := rv 20 }
noncomputable def o59 (P : Params) : Obj := tu #[tv "Exception"]
noncomputable def o60 (P : Params) : Obj := fi (tv "builtin_function_or_method") #[bv "type.__prepare__", tv "type"]
noncomputable def o61 (P : Params) : Obj := { cls := tv "dict", data := Data.dict #[en P "__module__" 203 (sv "raftkeep.errors" 194), en P "__qualname__" 205 (sv "KeepError" 204), en P "__firstlineno__" 207 (iv 5 206), en P "__static_attributes__" 208 (rv 29)] 4 }
noncomputable def o62 (P : Params) : Obj := tu #[]
noncomputable def o63 (P : Params) : Obj := fi (Value.none) #[]
noncomputable def o64 (P : Params) : Obj := fi (tv "code") #[sv "KeepError" 198, sv "KeepError" 199, sv "/claim/cut.py" 200, iv 5 0, iv 0 0, iv 0 0, iv 0 0, iv 0 0, rv 25, Value.bool false, iv 181 0, rv 26, Value.none, Value.none, Value.none, Value.none, iv 201 0, iv 5 0, sv "/claim/cut.py" 202]
noncomputable def o65 (P : Params) : Obj := { cls := tv "frame", slots := #[some (rv 27), some (rv 3), some (rv 24), none, some (sv "raftkeep.errors" 194), none, some (rv 0)] }
noncomputable def o66 (P : Params) : Obj := tu #[]
noncomputable def o67 (P : Params) : Obj := { cls := tv "dict", data := Data.dict #[en P "__module__" 203 (sv "raftkeep.errors" 194), en P "__firstlineno__" 207 (iv 5 206), en P "__static_attributes__" 208 (rv 29), en P "__weakref__" 210 (rv 32), en P "__doc__" 211 (Value.none)] 3 }
noncomputable def o68 (P : Params) : Obj := { cls := tv "type", data := Data.cls { name := Str.ofString "KeepError", bases := [tv "Exception"], mro := [rv 31, tv "Exception", tv "BaseException", tv "object"], ns := 30, qualname := Str.ofString "KeepError" }, slots := #[some (rv 22), none, some (sv "KeepError" 196), some (sv "KeepError" 204), some (bv "Exception.__new__"), some (Value.bool true)] }
noncomputable def o69 (P : Params) : Obj := fi (tv "getset_descriptor") #[sv "__weakref__" 209, rv 31, bv "ExceptionGroup.__weakref__", Value.none]
noncomputable def o70 (P : Params) : Obj := fi (tv "super") #[rv 31, rv 31, rv 31]
noncomputable def o71 (P : Params) : Obj := fi (tv "builtin_function_or_method") #[bv "object.__init_subclass__", rv 31]
noncomputable def o72 (P : Params) : Obj := { cls := tv "dict", data := Data.dict #[en P "__name__" 165 (sv "raftkeep.errors" 194), en P "__doc__" 166 (Value.none), en P "__package__" 167 (Value.none), en P "__loader__" 168 (bv "__main__.__loader__#opaque"), en P "__spec__" 169 (Value.none), en P "__annotations__" 170 (rv 6), en P "__builtins__" 171 (rv 4), en P "__file__" 173 (sv "/claim/cut.py" 172), en P "__cached__" 174 (Value.none), en P "_wall" 193 (rv 21), en P "KeepError" 215 (rv 31), en P "StoreError" 231 (rv 44)] 12 }
noncomputable def o73 (P : Params) : Obj := fi (Value.none) #[iv 1 0, iv 0 0, rv 20, iv 5 0, iv 0 0, rv 27, iv 7 0, iv 0 0, rv 40]
noncomputable def o74 (P : Params) : Obj := { cls := tv "type", data := Data.cls { name := Str.ofString "KeepError", bases := [tv "Exception"], mro := [rv 31, tv "Exception", tv "BaseException", tv "object"], ns := 30, qualname := Str.ofString "KeepError", subclasses := [rv 44] }, slots := #[some (rv 22), none, some (sv "KeepError" 196), some (sv "KeepError" 204), some (bv "Exception.__new__"), some (Value.bool true)] }
noncomputable def o75 (P : Params) : Obj := tu #[rv 31]
noncomputable def o76 (P : Params) : Obj := fi (tv "builtin_function_or_method") #[bv "type.__prepare__", tv "type"]
noncomputable def o77 (P : Params) : Obj := { cls := tv "dict", data := Data.dict #[en P "__module__" 223 (sv "raftkeep.errors" 194), en P "__qualname__" 225 (sv "StoreError" 224), en P "__firstlineno__" 227 (iv 7 226), en P "__static_attributes__" 228 (rv 42)] 4 }
noncomputable def o78 (P : Params) : Obj := tu #[]
noncomputable def o79 (P : Params) : Obj := fi (Value.none) #[]
noncomputable def o80 (P : Params) : Obj := fi (tv "code") #[sv "StoreError" 218, sv "StoreError" 219, sv "/claim/cut.py" 220, iv 7 0, iv 0 0, iv 0 0, iv 0 0, iv 0 0, rv 38, Value.bool false, iv 181 0, rv 39, Value.none, Value.none, Value.none, Value.none, iv 221 0, iv 7 0, sv "/claim/cut.py" 222]
noncomputable def o81 (P : Params) : Obj := { cls := tv "frame", slots := #[some (rv 40), some (rv 3), some (rv 37), none, some (sv "raftkeep.errors" 194), none, some (rv 0)] }
noncomputable def o82 (P : Params) : Obj := tu #[]
noncomputable def o83 (P : Params) : Obj := { cls := tv "dict", data := Data.dict #[en P "__module__" 223 (sv "raftkeep.errors" 194), en P "__firstlineno__" 227 (iv 7 226), en P "__static_attributes__" 228 (rv 42), en P "__doc__" 229 (Value.none)] 2 }
noncomputable def o84 (P : Params) : Obj := { cls := tv "type", data := Data.cls { name := Str.ofString "StoreError", bases := [rv 31], mro := [rv 44, rv 31, tv "Exception", tv "BaseException", tv "object"], ns := 43, qualname := Str.ofString "StoreError" }, slots := #[some (rv 35), none, some (sv "StoreError" 216), some (sv "StoreError" 224), some (bv "Exception.__new__"), some (Value.bool true)] }
noncomputable def o85 (P : Params) : Obj := fi (tv "super") #[rv 44, rv 44, rv 44]
noncomputable def o86 (P : Params) : Obj := fi (tv "builtin_function_or_method") #[bv "object.__init_subclass__", rv 44]
noncomputable def o87 (P : Params) : Obj := { cls := tv "dict", data := Data.dict #[en P "__name__" 165 (sv "raftkeep.errors" 194), en P "__doc__" 166 (Value.none), en P "__package__" 167 (Value.none), en P "__loader__" 168 (bv "__main__.__loader__#opaque"), en P "__spec__" 169 (Value.none), en P "__annotations__" 170 (rv 6), en P "__builtins__" 171 (rv 4), en P "__file__" 173 (sv "/claim/cut.py" 172), en P "__cached__" 174 (Value.none), en P "_wall" 193 (rv 21), en P "KeepError" 215 (rv 31), en P "StoreError" 231 (rv 44), en P "Corrupt" 247 (rv 56)] 13 }
noncomputable def o88 (P : Params) : Obj := fi (Value.none) #[iv 1 0, iv 0 0, rv 20, iv 5 0, iv 0 0, rv 27, iv 7 0, iv 0 0, rv 40, iv 9 0, iv 0 0, rv 52]
noncomputable def o89 (P : Params) : Obj := { cls := tv "type", data := Data.cls { name := Str.ofString "StoreError", bases := [rv 31], mro := [rv 44, rv 31, tv "Exception", tv "BaseException", tv "object"], ns := 43, qualname := Str.ofString "StoreError", subclasses := [rv 56] }, slots := #[some (rv 35), none, some (sv "StoreError" 216), some (sv "StoreError" 224), some (bv "Exception.__new__"), some (Value.bool true)] }
noncomputable def o90 (P : Params) : Obj := tu #[rv 44]
noncomputable def o91 (P : Params) : Obj := fi (tv "builtin_function_or_method") #[bv "type.__prepare__", tv "type"]
noncomputable def o92 (P : Params) : Obj := { cls := tv "dict", data := Data.dict #[en P "__module__" 239 (sv "raftkeep.errors" 194), en P "__qualname__" 241 (sv "Corrupt" 240), en P "__firstlineno__" 243 (iv 9 242), en P "__static_attributes__" 244 (rv 54)] 4 }
noncomputable def o93 (P : Params) : Obj := tu #[]
noncomputable def o94 (P : Params) : Obj := fi (Value.none) #[]
noncomputable def o95 (P : Params) : Obj := fi (tv "code") #[sv "Corrupt" 234, sv "Corrupt" 235, sv "/claim/cut.py" 236, iv 9 0, iv 0 0, iv 0 0, iv 0 0, iv 0 0, rv 50, Value.bool false, iv 181 0, rv 51, Value.none, Value.none, Value.none, Value.none, iv 237 0, iv 9 0, sv "/claim/cut.py" 238]
noncomputable def o96 (P : Params) : Obj := { cls := tv "frame", slots := #[some (rv 52), some (rv 3), some (rv 49), none, some (sv "raftkeep.errors" 194), none, some (rv 0)] }
noncomputable def o97 (P : Params) : Obj := tu #[]
noncomputable def o98 (P : Params) : Obj := { cls := tv "dict", data := Data.dict #[en P "__module__" 239 (sv "raftkeep.errors" 194), en P "__firstlineno__" 243 (iv 9 242), en P "__static_attributes__" 244 (rv 54), en P "__doc__" 245 (Value.none)] 2 }
noncomputable def o99 (P : Params) : Obj := { cls := tv "type", data := Data.cls { name := Str.ofString "Corrupt", bases := [rv 44], mro := [rv 56, rv 44, rv 31, tv "Exception", tv "BaseException", tv "object"], ns := 55, qualname := Str.ofString "Corrupt" }, slots := #[some (rv 47), none, some (sv "Corrupt" 232), some (sv "Corrupt" 240), some (bv "Exception.__new__"), some (Value.bool true)] }
noncomputable def o100 (P : Params) : Obj := fi (tv "super") #[rv 56, rv 56, rv 56]
noncomputable def o101 (P : Params) : Obj := fi (tv "builtin_function_or_method") #[bv "object.__init_subclass__", rv 56]
noncomputable def o102 (P : Params) : Obj := { cls := tv "dict", data := Data.dict #[en P "__name__" 165 (sv "raftkeep.errors" 194), en P "__doc__" 166 (Value.none), en P "__package__" 167 (Value.none), en P "__loader__" 168 (bv "__main__.__loader__#opaque"), en P "__spec__" 169 (Value.none), en P "__annotations__" 170 (rv 6), en P "__builtins__" 171 (rv 4), en P "__file__" 173 (sv "/claim/cut.py" 172), en P "__cached__" 174 (Value.none), en P "_wall" 193 (rv 21), en P "KeepError" 215 (rv 31), en P "StoreError" 231 (rv 44), en P "Corrupt" 247 (rv 56), en P "ShortOctets" 263 (rv 68)] 14 }
noncomputable def o103 (P : Params) : Obj := fi (Value.none) #[iv 1 0, iv 0 0, rv 20, iv 5 0, iv 0 0, rv 27, iv 7 0, iv 0 0, rv 40, iv 9 0, iv 0 0, rv 52, iv 11 0, iv 0 0, rv 64]
noncomputable def o104 (P : Params) : Obj := { cls := tv "type", data := Data.cls { name := Str.ofString "Corrupt", bases := [rv 44], mro := [rv 56, rv 44, rv 31, tv "Exception", tv "BaseException", tv "object"], ns := 55, qualname := Str.ofString "Corrupt", subclasses := [rv 68] }, slots := #[some (rv 47), none, some (sv "Corrupt" 232), some (sv "Corrupt" 240), some (bv "Exception.__new__"), some (Value.bool true)] }
noncomputable def o105 (P : Params) : Obj := tu #[rv 56]
noncomputable def o106 (P : Params) : Obj := fi (tv "builtin_function_or_method") #[bv "type.__prepare__", tv "type"]
noncomputable def o107 (P : Params) : Obj := { cls := tv "dict", data := Data.dict #[en P "__module__" 255 (sv "raftkeep.errors" 194), en P "__qualname__" 257 (sv "ShortOctets" 256), en P "__firstlineno__" 259 (iv 11 258), en P "__static_attributes__" 260 (rv 66)] 4 }
noncomputable def o108 (P : Params) : Obj := tu #[]
noncomputable def o109 (P : Params) : Obj := fi (Value.none) #[]
noncomputable def o110 (P : Params) : Obj := fi (tv "code") #[sv "ShortOctets" 250, sv "ShortOctets" 251, sv "/claim/cut.py" 252, iv 11 0, iv 0 0, iv 0 0, iv 0 0, iv 0 0, rv 62, Value.bool false, iv 181 0, rv 63, Value.none, Value.none, Value.none, Value.none, iv 253 0, iv 11 0, sv "/claim/cut.py" 254]
noncomputable def o111 (P : Params) : Obj := { cls := tv "frame", slots := #[some (rv 64), some (rv 3), some (rv 61), none, some (sv "raftkeep.errors" 194), none, some (rv 0)] }
noncomputable def o112 (P : Params) : Obj := tu #[]
noncomputable def o113 (P : Params) : Obj := { cls := tv "dict", data := Data.dict #[en P "__module__" 255 (sv "raftkeep.errors" 194), en P "__firstlineno__" 259 (iv 11 258), en P "__static_attributes__" 260 (rv 66), en P "__doc__" 261 (Value.none)] 2 }
noncomputable def o114 (P : Params) : Obj := { cls := tv "type", data := Data.cls { name := Str.ofString "ShortOctets", bases := [rv 56], mro := [rv 68, rv 56, rv 44, rv 31, tv "Exception", tv "BaseException", tv "object"], ns := 67, qualname := Str.ofString "ShortOctets" }, slots := #[some (rv 59), none, some (sv "ShortOctets" 248), some (sv "ShortOctets" 256), some (bv "Exception.__new__"), some (Value.bool true)] }
noncomputable def o115 (P : Params) : Obj := fi (tv "super") #[rv 68, rv 68, rv 68]
noncomputable def o116 (P : Params) : Obj := fi (tv "builtin_function_or_method") #[bv "object.__init_subclass__", rv 68]
noncomputable def o117 (P : Params) : Obj := { cls := tv "dict", data := Data.dict #[en P "__name__" 165 (sv "raftkeep.errors" 194), en P "__doc__" 166 (Value.none), en P "__package__" 167 (Value.none), en P "__loader__" 168 (bv "__main__.__loader__#opaque"), en P "__spec__" 169 (Value.none), en P "__annotations__" 170 (rv 6), en P "__builtins__" 171 (rv 4), en P "__file__" 173 (sv "/claim/cut.py" 172), en P "__cached__" 174 (Value.none), en P "_wall" 193 (rv 21), en P "KeepError" 215 (rv 31), en P "StoreError" 231 (rv 44), en P "Corrupt" 247 (rv 56), en P "ShortOctets" 263 (rv 68), en P "BadOption" 279 (rv 80)] 15 }
noncomputable def o118 (P : Params) : Obj := fi (Value.none) #[iv 1 0, iv 0 0, rv 20, iv 5 0, iv 0 0, rv 27, iv 7 0, iv 0 0, rv 40, iv 9 0, iv 0 0, rv 52, iv 11 0, iv 0 0, rv 64, iv 13 0, iv 0 0, rv 76]
noncomputable def o119 (P : Params) : Obj := { cls := tv "type", data := Data.cls { name := Str.ofString "StoreError", bases := [rv 31], mro := [rv 44, rv 31, tv "Exception", tv "BaseException", tv "object"], ns := 43, qualname := Str.ofString "StoreError", subclasses := [rv 56, rv 80] }, slots := #[some (rv 35), none, some (sv "StoreError" 216), some (sv "StoreError" 224), some (bv "Exception.__new__"), some (Value.bool true)] }
noncomputable def o120 (P : Params) : Obj := tu #[rv 44]
noncomputable def o121 (P : Params) : Obj := fi (tv "builtin_function_or_method") #[bv "type.__prepare__", tv "type"]
noncomputable def o122 (P : Params) : Obj := { cls := tv "dict", data := Data.dict #[en P "__module__" 271 (sv "raftkeep.errors" 194), en P "__qualname__" 273 (sv "BadOption" 272), en P "__firstlineno__" 275 (iv 13 274), en P "__static_attributes__" 276 (rv 78)] 4 }
noncomputable def o123 (P : Params) : Obj := tu #[]
noncomputable def o124 (P : Params) : Obj := fi (Value.none) #[]
noncomputable def o125 (P : Params) : Obj := fi (tv "code") #[sv "BadOption" 266, sv "BadOption" 267, sv "/claim/cut.py" 268, iv 13 0, iv 0 0, iv 0 0, iv 0 0, iv 0 0, rv 74, Value.bool false, iv 181 0, rv 75, Value.none, Value.none, Value.none, Value.none, iv 269 0, iv 13 0, sv "/claim/cut.py" 270]
noncomputable def o126 (P : Params) : Obj := { cls := tv "frame", slots := #[some (rv 76), some (rv 3), some (rv 73), none, some (sv "raftkeep.errors" 194), none, some (rv 0)] }
noncomputable def o127 (P : Params) : Obj := tu #[]
noncomputable def o128 (P : Params) : Obj := { cls := tv "dict", data := Data.dict #[en P "__module__" 271 (sv "raftkeep.errors" 194), en P "__firstlineno__" 275 (iv 13 274), en P "__static_attributes__" 276 (rv 78), en P "__doc__" 277 (Value.none)] 2 }
noncomputable def o129 (P : Params) : Obj := { cls := tv "type", data := Data.cls { name := Str.ofString "BadOption", bases := [rv 44], mro := [rv 80, rv 44, rv 31, tv "Exception", tv "BaseException", tv "object"], ns := 79, qualname := Str.ofString "BadOption" }, slots := #[some (rv 71), none, some (sv "BadOption" 264), some (sv "BadOption" 272), some (bv "Exception.__new__"), some (Value.bool true)] }
noncomputable def o130 (P : Params) : Obj := fi (tv "super") #[rv 80, rv 80, rv 80]
noncomputable def o131 (P : Params) : Obj := fi (tv "builtin_function_or_method") #[bv "object.__init_subclass__", rv 80]
noncomputable def o132 (P : Params) : Obj := { cls := tv "dict", data := Data.dict #[en P "__name__" 165 (sv "raftkeep.errors" 194), en P "__doc__" 166 (Value.none), en P "__package__" 167 (Value.none), en P "__loader__" 168 (bv "__main__.__loader__#opaque"), en P "__spec__" 169 (Value.none), en P "__annotations__" 170 (rv 6), en P "__builtins__" 171 (rv 4), en P "__file__" 173 (sv "/claim/cut.py" 172), en P "__cached__" 174 (Value.none), en P "_wall" 193 (rv 21), en P "KeepError" 215 (rv 31), en P "StoreError" 231 (rv 44), en P "Corrupt" 247 (rv 56), en P "ShortOctets" 263 (rv 68), en P "BadOption" 279 (rv 80), en P "DiskError" 295 (rv 92)] 16 }
noncomputable def o133 (P : Params) : Obj := fi (Value.none) #[iv 1 0, iv 0 0, rv 20, iv 5 0, iv 0 0, rv 27, iv 7 0, iv 0 0, rv 40, iv 9 0, iv 0 0, rv 52, iv 11 0, iv 0 0, rv 64, iv 13 0, iv 0 0, rv 76, iv 15 0, iv 0 0, rv 88]
noncomputable def o134 (P : Params) : Obj := { cls := tv "type", data := Data.cls { name := Str.ofString "KeepError", bases := [tv "Exception"], mro := [rv 31, tv "Exception", tv "BaseException", tv "object"], ns := 30, qualname := Str.ofString "KeepError", subclasses := [rv 44, rv 92] }, slots := #[some (rv 22), none, some (sv "KeepError" 196), some (sv "KeepError" 204), some (bv "Exception.__new__"), some (Value.bool true)] }
noncomputable def o135 (P : Params) : Obj := tu #[rv 31]
noncomputable def o136 (P : Params) : Obj := fi (tv "builtin_function_or_method") #[bv "type.__prepare__", tv "type"]
noncomputable def o137 (P : Params) : Obj := { cls := tv "dict", data := Data.dict #[en P "__module__" 287 (sv "raftkeep.errors" 194), en P "__qualname__" 289 (sv "DiskError" 288), en P "__firstlineno__" 291 (iv 15 290), en P "__static_attributes__" 292 (rv 90)] 4 }
noncomputable def o138 (P : Params) : Obj := tu #[]
noncomputable def o139 (P : Params) : Obj := fi (Value.none) #[]
noncomputable def o140 (P : Params) : Obj := fi (tv "code") #[sv "DiskError" 282, sv "DiskError" 283, sv "/claim/cut.py" 284, iv 15 0, iv 0 0, iv 0 0, iv 0 0, iv 0 0, rv 86, Value.bool false, iv 181 0, rv 87, Value.none, Value.none, Value.none, Value.none, iv 285 0, iv 15 0, sv "/claim/cut.py" 286]
noncomputable def o141 (P : Params) : Obj := { cls := tv "frame", slots := #[some (rv 88), some (rv 3), some (rv 85), none, some (sv "raftkeep.errors" 194), none, some (rv 0)] }
noncomputable def o142 (P : Params) : Obj := tu #[]
noncomputable def o143 (P : Params) : Obj := { cls := tv "dict", data := Data.dict #[en P "__module__" 287 (sv "raftkeep.errors" 194), en P "__firstlineno__" 291 (iv 15 290), en P "__static_attributes__" 292 (rv 90), en P "__doc__" 293 (Value.none)] 2 }
noncomputable def o144 (P : Params) : Obj := { cls := tv "type", data := Data.cls { name := Str.ofString "DiskError", bases := [rv 31], mro := [rv 92, rv 31, tv "Exception", tv "BaseException", tv "object"], ns := 91, qualname := Str.ofString "DiskError" }, slots := #[some (rv 83), none, some (sv "DiskError" 280), some (sv "DiskError" 288), some (bv "Exception.__new__"), some (Value.bool true)] }
noncomputable def o145 (P : Params) : Obj := fi (tv "super") #[rv 92, rv 92, rv 92]
noncomputable def o146 (P : Params) : Obj := fi (tv "builtin_function_or_method") #[bv "object.__init_subclass__", rv 92]
noncomputable def o147 (P : Params) : Obj := { cls := tv "dict", data := Data.dict #[en P "__name__" 165 (sv "raftkeep.errors" 194), en P "__doc__" 166 (Value.none), en P "__package__" 167 (Value.none), en P "__loader__" 168 (bv "__main__.__loader__#opaque"), en P "__spec__" 169 (Value.none), en P "__annotations__" 170 (rv 6), en P "__builtins__" 171 (rv 4), en P "__file__" 173 (sv "/claim/cut.py" 172), en P "__cached__" 174 (Value.none), en P "_wall" 193 (rv 21), en P "KeepError" 215 (rv 31), en P "StoreError" 231 (rv 44), en P "Corrupt" 247 (rv 56), en P "ShortOctets" 263 (rv 68), en P "BadOption" 279 (rv 80), en P "DiskError" 295 (rv 92), en P "NoSuchFile" 311 (rv 104)] 17 }
noncomputable def o148 (P : Params) : Obj := fi (Value.none) #[iv 1 0, iv 0 0, rv 20, iv 5 0, iv 0 0, rv 27, iv 7 0, iv 0 0, rv 40, iv 9 0, iv 0 0, rv 52, iv 11 0, iv 0 0, rv 64, iv 13 0, iv 0 0, rv 76, iv 15 0, iv 0 0, rv 88, iv 17 0, iv 0 0, rv 100]
noncomputable def o149 (P : Params) : Obj := { cls := tv "type", data := Data.cls { name := Str.ofString "DiskError", bases := [rv 31], mro := [rv 92, rv 31, tv "Exception", tv "BaseException", tv "object"], ns := 91, qualname := Str.ofString "DiskError", subclasses := [rv 104] }, slots := #[some (rv 83), none, some (sv "DiskError" 280), some (sv "DiskError" 288), some (bv "Exception.__new__"), some (Value.bool true)] }
noncomputable def o150 (P : Params) : Obj := tu #[rv 92]
noncomputable def o151 (P : Params) : Obj := fi (tv "builtin_function_or_method") #[bv "type.__prepare__", tv "type"]
noncomputable def o152 (P : Params) : Obj := { cls := tv "dict", data := Data.dict #[en P "__module__" 303 (sv "raftkeep.errors" 194), en P "__qualname__" 305 (sv "NoSuchFile" 304), en P "__firstlineno__" 307 (iv 17 306), en P "__static_attributes__" 308 (rv 102)] 4 }
noncomputable def o153 (P : Params) : Obj := tu #[]
noncomputable def o154 (P : Params) : Obj := fi (Value.none) #[]
noncomputable def o155 (P : Params) : Obj := fi (tv "code") #[sv "NoSuchFile" 298, sv "NoSuchFile" 299, sv "/claim/cut.py" 300, iv 17 0, iv 0 0, iv 0 0, iv 0 0, iv 0 0, rv 98, Value.bool false, iv 181 0, rv 99, Value.none, Value.none, Value.none, Value.none, iv 301 0, iv 17 0, sv "/claim/cut.py" 302]
noncomputable def o156 (P : Params) : Obj := { cls := tv "frame", slots := #[some (rv 100), some (rv 3), some (rv 97), none, some (sv "raftkeep.errors" 194), none, some (rv 0)] }
noncomputable def o157 (P : Params) : Obj := tu #[]
noncomputable def o158 (P : Params) : Obj := { cls := tv "dict", data := Data.dict #[en P "__module__" 303 (sv "raftkeep.errors" 194), en P "__firstlineno__" 307 (iv 17 306), en P "__static_attributes__" 308 (rv 102), en P "__doc__" 309 (Value.none)] 2 }
noncomputable def o159 (P : Params) : Obj := { cls := tv "type", data := Data.cls { name := Str.ofString "NoSuchFile", bases := [rv 92], mro := [rv 104, rv 92, rv 31, tv "Exception", tv "BaseException", tv "object"], ns := 103, qualname := Str.ofString "NoSuchFile" }, slots := #[some (rv 95), none, some (sv "NoSuchFile" 296), some (sv "NoSuchFile" 304), some (bv "Exception.__new__"), some (Value.bool true)] }
noncomputable def o160 (P : Params) : Obj := fi (tv "super") #[rv 104, rv 104, rv 104]
noncomputable def o161 (P : Params) : Obj := fi (tv "builtin_function_or_method") #[bv "object.__init_subclass__", rv 104]
noncomputable def o162 (P : Params) : Obj := { cls := tv "dict", data := Data.dict #[en P "__name__" 165 (sv "raftkeep.errors" 194), en P "__doc__" 166 (Value.none), en P "__package__" 167 (Value.none), en P "__loader__" 168 (bv "__main__.__loader__#opaque"), en P "__spec__" 169 (Value.none), en P "__annotations__" 170 (rv 6), en P "__builtins__" 171 (rv 4), en P "__file__" 173 (sv "/claim/cut.py" 172), en P "__cached__" 174 (Value.none), en P "_wall" 193 (rv 21), en P "KeepError" 215 (rv 31), en P "StoreError" 231 (rv 44), en P "Corrupt" 247 (rv 56), en P "ShortOctets" 263 (rv 68), en P "BadOption" 279 (rv 80), en P "DiskError" 295 (rv 92), en P "NoSuchFile" 311 (rv 104), en P "FileThere" 327 (rv 116)] 18 }
noncomputable def o163 (P : Params) : Obj := fi (Value.none) #[iv 1 0, iv 0 0, rv 20, iv 5 0, iv 0 0, rv 27, iv 7 0, iv 0 0, rv 40, iv 9 0, iv 0 0, rv 52, iv 11 0, iv 0 0, rv 64, iv 13 0, iv 0 0, rv 76, iv 15 0, iv 0 0, rv 88, iv 17 0, iv 0 0, rv 100, iv 19 0, iv 0 0, rv 112]
noncomputable def o164 (P : Params) : Obj := { cls := tv "type", data := Data.cls { name := Str.ofString "DiskError", bases := [rv 31], mro := [rv 92, rv 31, tv "Exception", tv "BaseException", tv "object"], ns := 91, qualname := Str.ofString "DiskError", subclasses := [rv 104, rv 116] }, slots := #[some (rv 83), none, some (sv "DiskError" 280), some (sv "DiskError" 288), some (bv "Exception.__new__"), some (Value.bool true)] }
noncomputable def o165 (P : Params) : Obj := tu #[rv 92]
noncomputable def o166 (P : Params) : Obj := fi (tv "builtin_function_or_method") #[bv "type.__prepare__", tv "type"]
noncomputable def o167 (P : Params) : Obj := { cls := tv "dict", data := Data.dict #[en P "__module__" 319 (sv "raftkeep.errors" 194), en P "__qualname__" 321 (sv "FileThere" 320), en P "__firstlineno__" 323 (iv 19 322), en P "__static_attributes__" 324 (rv 114)] 4 }
noncomputable def o168 (P : Params) : Obj := tu #[]
noncomputable def o169 (P : Params) : Obj := fi (Value.none) #[]
noncomputable def o170 (P : Params) : Obj := fi (tv "code") #[sv "FileThere" 314, sv "FileThere" 315, sv "/claim/cut.py" 316, iv 19 0, iv 0 0, iv 0 0, iv 0 0, iv 0 0, rv 110, Value.bool false, iv 181 0, rv 111, Value.none, Value.none, Value.none, Value.none, iv 317 0, iv 19 0, sv "/claim/cut.py" 318]
noncomputable def o171 (P : Params) : Obj := { cls := tv "frame", slots := #[some (rv 112), some (rv 3), some (rv 109), none, some (sv "raftkeep.errors" 194), none, some (rv 0)] }
noncomputable def o172 (P : Params) : Obj := tu #[]
noncomputable def o173 (P : Params) : Obj := { cls := tv "dict", data := Data.dict #[en P "__module__" 319 (sv "raftkeep.errors" 194), en P "__firstlineno__" 323 (iv 19 322), en P "__static_attributes__" 324 (rv 114), en P "__doc__" 325 (Value.none)] 2 }
noncomputable def o174 (P : Params) : Obj := { cls := tv "type", data := Data.cls { name := Str.ofString "FileThere", bases := [rv 92], mro := [rv 116, rv 92, rv 31, tv "Exception", tv "BaseException", tv "object"], ns := 115, qualname := Str.ofString "FileThere" }, slots := #[some (rv 107), none, some (sv "FileThere" 312), some (sv "FileThere" 320), some (bv "Exception.__new__"), some (Value.bool true)] }
noncomputable def o175 (P : Params) : Obj := fi (tv "super") #[rv 116, rv 116, rv 116]
noncomputable def o176 (P : Params) : Obj := fi (tv "builtin_function_or_method") #[bv "object.__init_subclass__", rv 116]
noncomputable def o177 (P : Params) : Obj := { cls := tv "dict", data := Data.dict #[en P "__name__" 165 (sv "raftkeep.errors" 194), en P "__doc__" 166 (Value.none), en P "__package__" 167 (Value.none), en P "__loader__" 168 (bv "__main__.__loader__#opaque"), en P "__spec__" 169 (Value.none), en P "__annotations__" 170 (rv 6), en P "__builtins__" 171 (rv 4), en P "__file__" 173 (sv "/claim/cut.py" 172), en P "__cached__" 174 (Value.none), en P "_wall" 193 (rv 21), en P "KeepError" 215 (rv 31), en P "StoreError" 231 (rv 44), en P "Corrupt" 247 (rv 56), en P "ShortOctets" 263 (rv 68), en P "BadOption" 279 (rv 80), en P "DiskError" 295 (rv 92), en P "NoSuchFile" 311 (rv 104), en P "FileThere" 327 (rv 116), en P "DiskDead" 343 (rv 128)] 19 }
noncomputable def o178 (P : Params) : Obj := fi (Value.none) #[iv 1 0, iv 0 0, rv 20, iv 5 0, iv 0 0, rv 27, iv 7 0, iv 0 0, rv 40, iv 9 0, iv 0 0, rv 52, iv 11 0, iv 0 0, rv 64, iv 13 0, iv 0 0, rv 76, iv 15 0, iv 0 0, rv 88, iv 17 0, iv 0 0, rv 100, iv 19 0, iv 0 0, rv 112, iv 21 0, iv 0 0, rv 124]
noncomputable def o179 (P : Params) : Obj := { cls := tv "type", data := Data.cls { name := Str.ofString "DiskError", bases := [rv 31], mro := [rv 92, rv 31, tv "Exception", tv "BaseException", tv "object"], ns := 91, qualname := Str.ofString "DiskError", subclasses := [rv 104, rv 116, rv 128] }, slots := #[some (rv 83), none, some (sv "DiskError" 280), some (sv "DiskError" 288), some (bv "Exception.__new__"), some (Value.bool true)] }
noncomputable def o180 (P : Params) : Obj := tu #[rv 92]
noncomputable def o181 (P : Params) : Obj := fi (tv "builtin_function_or_method") #[bv "type.__prepare__", tv "type"]
noncomputable def o182 (P : Params) : Obj := { cls := tv "dict", data := Data.dict #[en P "__module__" 335 (sv "raftkeep.errors" 194), en P "__qualname__" 337 (sv "DiskDead" 336), en P "__firstlineno__" 339 (iv 21 338), en P "__static_attributes__" 340 (rv 126)] 4 }
noncomputable def o183 (P : Params) : Obj := tu #[]
noncomputable def o184 (P : Params) : Obj := fi (Value.none) #[]
noncomputable def o185 (P : Params) : Obj := fi (tv "code") #[sv "DiskDead" 330, sv "DiskDead" 331, sv "/claim/cut.py" 332, iv 21 0, iv 0 0, iv 0 0, iv 0 0, iv 0 0, rv 122, Value.bool false, iv 181 0, rv 123, Value.none, Value.none, Value.none, Value.none, iv 333 0, iv 21 0, sv "/claim/cut.py" 334]
noncomputable def o186 (P : Params) : Obj := { cls := tv "frame", slots := #[some (rv 124), some (rv 3), some (rv 121), none, some (sv "raftkeep.errors" 194), none, some (rv 0)] }
noncomputable def o187 (P : Params) : Obj := tu #[]
noncomputable def o188 (P : Params) : Obj := { cls := tv "dict", data := Data.dict #[en P "__module__" 335 (sv "raftkeep.errors" 194), en P "__firstlineno__" 339 (iv 21 338), en P "__static_attributes__" 340 (rv 126), en P "__doc__" 341 (Value.none)] 2 }
noncomputable def o189 (P : Params) : Obj := { cls := tv "type", data := Data.cls { name := Str.ofString "DiskDead", bases := [rv 92], mro := [rv 128, rv 92, rv 31, tv "Exception", tv "BaseException", tv "object"], ns := 127, qualname := Str.ofString "DiskDead" }, slots := #[some (rv 119), none, some (sv "DiskDead" 328), some (sv "DiskDead" 336), some (bv "Exception.__new__"), some (Value.bool true)] }
noncomputable def o190 (P : Params) : Obj := fi (tv "super") #[rv 128, rv 128, rv 128]
noncomputable def o191 (P : Params) : Obj := fi (tv "builtin_function_or_method") #[bv "object.__init_subclass__", rv 128]
noncomputable def o192 (P : Params) : Obj := { cls := tv "dict", data := Data.dict #[en P "__name__" 165 (sv "raftkeep.octets" 360), en P "__doc__" 166 (Value.none), en P "__package__" 167 (Value.none), en P "__loader__" 168 (bv "__main__.__loader__#opaque"), en P "__spec__" 169 (Value.none), en P "__annotations__" 170 (rv 6), en P "__builtins__" 171 (rv 4), en P "__file__" 173 (sv "/claim/cut.py" 172), en P "__cached__" 174 (Value.none), en P "_wall" 193 (rv 21), en P "KeepError" 215 (rv 31), en P "StoreError" 231 (rv 44), en P "Corrupt" 247 (rv 56), en P "ShortOctets" 263 (rv 68), en P "BadOption" 279 (rv 80), en P "DiskError" 295 (rv 92), en P "NoSuchFile" 311 (rv 104), en P "FileThere" 327 (rv 116), en P "DiskDead" 343 (rv 128), en P "BadHandle" 359 (rv 140), en P "MAX_32" 363 (iv 4294967295 362), en P "CHECK_CRC" 365 (iv 1 364), en P "CHECK_SUM" 367 (iv 2 366), en P "CRC_POLY" 369 (iv 2197175160 368), en P "MASK_DELTA" 371 (iv 2726488792 370), en P "put_fixed32" 378 (rv 149), en P "read_fixed32" 386 (rv 156), en P "make_crc_table" 396 (rv 163)] 28 }
noncomputable def o193 (P : Params) : Obj := fi (Value.none) #[iv 1 0, iv 0 0, rv 20, iv 5 0, iv 0 0, rv 27, iv 7 0, iv 0 0, rv 40, iv 9 0, iv 0 0, rv 52, iv 11 0, iv 0 0, rv 64, iv 13 0, iv 0 0, rv 76, iv 15 0, iv 0 0, rv 88, iv 17 0, iv 0 0, rv 100, iv 19 0, iv 0 0, rv 112, iv 21 0, iv 0 0, rv 124, iv 23 0, iv 0 0, rv 136, iv 31 0, iv 0 0, rv 148, iv 35 0, iv 0 0, rv 155, iv 39 0, iv 0 0, rv 162]
noncomputable def o194 (P : Params) : Obj := { cls := tv "type", data := Data.cls { name := Str.ofString "DiskError", bases := [rv 31], mro := [rv 92, rv 31, tv "Exception", tv "BaseException", tv "object"], ns := 91, qualname := Str.ofString "DiskError", subclasses := [rv 104, rv 116, rv 128, rv 140] }, slots := #[some (rv 83), none, some (sv "DiskError" 280), some (sv "DiskError" 288), some (bv "Exception.__new__"), some (Value.bool true)] }
noncomputable def o195 (P : Params) : Obj := tu #[rv 92]
noncomputable def o196 (P : Params) : Obj := fi (tv "builtin_function_or_method") #[bv "type.__prepare__", tv "type"]
noncomputable def o197 (P : Params) : Obj := { cls := tv "dict", data := Data.dict #[en P "__module__" 351 (sv "raftkeep.errors" 194), en P "__qualname__" 353 (sv "BadHandle" 352), en P "__firstlineno__" 355 (iv 23 354), en P "__static_attributes__" 356 (rv 138)] 4 }
noncomputable def o198 (P : Params) : Obj := tu #[]
noncomputable def o199 (P : Params) : Obj := fi (Value.none) #[]
noncomputable def o200 (P : Params) : Obj := fi (tv "code") #[sv "BadHandle" 346, sv "BadHandle" 347, sv "/claim/cut.py" 348, iv 23 0, iv 0 0, iv 0 0, iv 0 0, iv 0 0, rv 134, Value.bool false, iv 181 0, rv 135, Value.none, Value.none, Value.none, Value.none, iv 349 0, iv 23 0, sv "/claim/cut.py" 350]
noncomputable def o201 (P : Params) : Obj := { cls := tv "frame", slots := #[some (rv 136), some (rv 3), some (rv 133), none, some (sv "raftkeep.errors" 194), none, some (rv 0)] }
noncomputable def o202 (P : Params) : Obj := tu #[]
noncomputable def o203 (P : Params) : Obj := { cls := tv "dict", data := Data.dict #[en P "__module__" 351 (sv "raftkeep.errors" 194), en P "__firstlineno__" 355 (iv 23 354), en P "__static_attributes__" 356 (rv 138), en P "__doc__" 357 (Value.none)] 2 }
noncomputable def o204 (P : Params) : Obj := { cls := tv "type", data := Data.cls { name := Str.ofString "BadHandle", bases := [rv 92], mro := [rv 140, rv 92, rv 31, tv "Exception", tv "BaseException", tv "object"], ns := 139, qualname := Str.ofString "BadHandle" }, slots := #[some (rv 131), none, some (sv "BadHandle" 344), some (sv "BadHandle" 352), some (bv "Exception.__new__"), some (Value.bool true)] }
noncomputable def o205 (P : Params) : Obj := fi (tv "super") #[rv 140, rv 140, rv 140]
noncomputable def o206 (P : Params) : Obj := fi (tv "builtin_function_or_method") #[bv "object.__init_subclass__", rv 140]
noncomputable def o207 (P : Params) : Obj := tu #[]
noncomputable def o208 (P : Params) : Obj := fi (Value.none) #[]
noncomputable def o209 (P : Params) : Obj := tu #[sv "n" 375]
noncomputable def o210 (P : Params) : Obj := tu #[]
noncomputable def o211 (P : Params) : Obj := fu (Value.none) (f18) "put_fixed32" fun f => { f with globals := 0, closure := [], defaults := Value.none, kwdefaults := Value.none }
noncomputable def o212 (P : Params) : Obj := fi (tv "code") #[sv "put_fixed32" 372, sv "put_fixed32" 373, sv "/claim/cut.py" 374, iv 31 0, iv 1 0, iv 0 0, iv 0 0, iv 3 0, rv 143, Value.bool true, iv 181 0, rv 144, Value.none, rv 145, rv 146, rv 147, iv 376 0, iv 31 0, sv "/claim/cut.py" 377]
noncomputable def o213 (P : Params) : Obj := fu (tv "function") (f18) "put_fixed32" fun f => { f with globals := 3, closure := [], defaults := Value.none, kwdefaults := Value.none, pyModule := sv "raftkeep.octets" 360, code := rv 148 }
noncomputable def o214 (P : Params) : Obj := tu #[]
noncomputable def o215 (P : Params) : Obj := fi (Value.none) #[]
noncomputable def o216 (P : Params) : Obj := tu #[sv "data" 382, sv "at" 383]
noncomputable def o217 (P : Params) : Obj := tu #[]
noncomputable def o218 (P : Params) : Obj := fu (Value.none) (f19) "read_fixed32" fun f => { f with globals := 0, closure := [], defaults := Value.none, kwdefaults := Value.none }
noncomputable def o219 (P : Params) : Obj := fi (tv "code") #[sv "read_fixed32" 379, sv "read_fixed32" 380, sv "/claim/cut.py" 381, iv 35 0, iv 2 0, iv 0 0, iv 0 0, iv 3 0, rv 150, Value.bool true, iv 181 0, rv 151, Value.none, rv 152, rv 153, rv 154, iv 384 0, iv 35 0, sv "/claim/cut.py" 385]
noncomputable def o220 (P : Params) : Obj := fu (tv "function") (f19) "read_fixed32" fun f => { f with globals := 3, closure := [], defaults := Value.none, kwdefaults := Value.none, pyModule := sv "raftkeep.octets" 360, code := rv 155 }
noncomputable def o221 (P : Params) : Obj := tu #[]
noncomputable def o222 (P : Params) : Obj := fi (Value.none) #[]
noncomputable def o223 (P : Params) : Obj := tu #[sv "table" 390, sv "c" 391, sv "half" 392, sv "low" 393]
noncomputable def o224 (P : Params) : Obj := tu #[]
noncomputable def o225 (P : Params) : Obj := fu (Value.none) (f20) "make_crc_table" fun f => { f with globals := 0, closure := [], defaults := Value.none, kwdefaults := Value.none }
noncomputable def o226 (P : Params) : Obj := fi (tv "code") #[sv "make_crc_table" 387, sv "make_crc_table" 388, sv "/claim/cut.py" 389, iv 39 0, iv 0 0, iv 0 0, iv 0 0, iv 3 0, rv 157, Value.bool true, iv 181 0, rv 158, Value.none, rv 159, rv 160, rv 161, iv 394 0, iv 39 0, sv "/claim/cut.py" 395]
noncomputable def o227 (P : Params) : Obj := fu (tv "function") (f20) "make_crc_table" fun f => { f with globals := 3, closure := [], defaults := Value.none, kwdefaults := Value.none, pyModule := sv "raftkeep.octets" 360, code := rv 162 }
noncomputable def o228 (P : Params) : Obj := { cls := tv "dict", data := Data.dict #[en P "__name__" 165 (sv "raftkeep.wal" 424), en P "__doc__" 166 (Value.none), en P "__package__" 167 (Value.none), en P "__loader__" 168 (bv "__main__.__loader__#opaque"), en P "__spec__" 169 (Value.none), en P "__annotations__" 170 (rv 6), en P "__builtins__" 171 (rv 4), en P "__file__" 173 (sv "/claim/cut.py" 172), en P "__cached__" 174 (Value.none), en P "_wall" 193 (rv 21), en P "KeepError" 215 (rv 31), en P "StoreError" 231 (rv 44), en P "Corrupt" 247 (rv 56), en P "ShortOctets" 263 (rv 68), en P "BadOption" 279 (rv 80), en P "DiskError" 295 (rv 92), en P "NoSuchFile" 311 (rv 104), en P "FileThere" 327 (rv 116), en P "DiskDead" 343 (rv 128), en P "BadHandle" 359 (rv 140), en P "MAX_32" 363 (iv 4294967295 362), en P "CHECK_CRC" 365 (iv 1 364), en P "CHECK_SUM" 367 (iv 2 366), en P "CRC_POLY" 369 (iv 2197175160 368), en P "MASK_DELTA" 371 (iv 2726488792 370), en P "put_fixed32" 378 (rv 149), en P "read_fixed32" 386 (rv 156), en P "make_crc_table" 396 (rv 163), en P "crc32c" 408 (rv 171), en P "mask" 415 (rv 178), en P "checksum" 423 (rv 185), en P "HEADER" 427 (iv 7 426), en P "MAX_BLOCK" 429 (iv 65542 428), en P "ZERO" 431 (iv 0 430), en P "FULL" 433 (iv 1 432), en P "FIRST" 435 (iv 2 434), en P "MIDDLE" 437 (iv 3 436), en P "LAST" 439 (iv 4 438), en P "AT_END" 442 (iv (-1) 441), en P "BROKEN" 445 (iv (-2) 444), en P "check_block" 452 (rv 192), en P "check_kind" 459 (rv 199), en P "make_fragment" 470 (rv 206)] 43 }
noncomputable def o229 (P : Params) : Obj := fi (Value.none) #[iv 1 0, iv 0 0, rv 20, iv 5 0, iv 0 0, rv 27, iv 7 0, iv 0 0, rv 40, iv 9 0, iv 0 0, rv 52, iv 11 0, iv 0 0, rv 64, iv 13 0, iv 0 0, rv 76, iv 15 0, iv 0 0, rv 88, iv 17 0, iv 0 0, rv 100, iv 19 0, iv 0 0, rv 112, iv 21 0, iv 0 0, rv 124, iv 23 0, iv 0 0, rv 136, iv 31 0, iv 0 0, rv 148, iv 35 0, iv 0 0, rv 155, iv 39 0, iv 0 0, rv 162, iv 52 0, iv 0 0, rv 170, iv 60 0, iv 0 0, rv 177, iv 62 0, iv 0 0, rv 184, iv 78 0, iv 0 0, rv 191, iv 81 0, iv 0 0, rv 198, iv 84 0, iv 0 0, rv 205]
noncomputable def o230 (P : Params) : Obj := tu #[iv 0 397]
noncomputable def o231 (P : Params) : Obj := tu #[]
noncomputable def o232 (P : Params) : Obj := fi (Value.none) #[]
noncomputable def o233 (P : Params) : Obj := tu #[sv "data" 401, sv "start" 402, sv "table" 403, sv "c" 404, sv "octet" 405]
noncomputable def o234 (P : Params) : Obj := tu #[]
noncomputable def o235 (P : Params) : Obj := fu (Value.none) (f21) "crc32c" fun f => { f with globals := 0, closure := [], defaults := Value.none, kwdefaults := Value.none }
noncomputable def o236 (P : Params) : Obj := fi (tv "code") #[sv "crc32c" 398, sv "crc32c" 399, sv "/claim/cut.py" 400, iv 52 0, iv 2 0, iv 0 0, iv 0 0, iv 3 0, rv 165, Value.bool true, iv 181 0, rv 166, Value.none, rv 167, rv 168, rv 169, iv 406 0, iv 52 0, sv "/claim/cut.py" 407]
noncomputable def o237 (P : Params) : Obj := fu (tv "function") (f21) "crc32c" fun f => { f with globals := 3, closure := [], defaults := rv 164, kwdefaults := Value.none, pyModule := sv "raftkeep.octets" 360, code := rv 170 }
noncomputable def o238 (P : Params) : Obj := tu #[]
noncomputable def o239 (P : Params) : Obj := fi (Value.none) #[]
noncomputable def o240 (P : Params) : Obj := tu #[sv "c" 412]
noncomputable def o241 (P : Params) : Obj := tu #[]
noncomputable def o242 (P : Params) : Obj := fu (Value.none) (f22) "mask" fun f => { f with globals := 0, closure := [], defaults := Value.none, kwdefaults := Value.none }
noncomputable def o243 (P : Params) : Obj := fi (tv "code") #[sv "mask" 409, sv "mask" 410, sv "/claim/cut.py" 411, iv 60 0, iv 1 0, iv 0 0, iv 0 0, iv 3 0, rv 172, Value.bool true, iv 181 0, rv 173, Value.none, rv 174, rv 175, rv 176, iv 413 0, iv 60 0, sv "/claim/cut.py" 414]
noncomputable def o244 (P : Params) : Obj := fu (tv "function") (f22) "mask" fun f => { f with globals := 3, closure := [], defaults := Value.none, kwdefaults := Value.none, pyModule := sv "raftkeep.octets" 360, code := rv 177 }
noncomputable def o245 (P : Params) : Obj := tu #[]
noncomputable def o246 (P : Params) : Obj := fi (Value.none) #[]
noncomputable def o247 (P : Params) : Obj := tu #[sv "kind" 419, sv "data" 420]
noncomputable def o248 (P : Params) : Obj := tu #[]
noncomputable def o249 (P : Params) : Obj := fu (Value.none) (f23) "checksum" fun f => { f with globals := 0, closure := [], defaults := Value.none, kwdefaults := Value.none }
noncomputable def o250 (P : Params) : Obj := fi (tv "code") #[sv "checksum" 416, sv "checksum" 417, sv "/claim/cut.py" 418, iv 62 0, iv 2 0, iv 0 0, iv 0 0, iv 3 0, rv 179, Value.bool true, iv 181 0, rv 180, Value.none, rv 181, rv 182, rv 183, iv 421 0, iv 62 0, sv "/claim/cut.py" 422]
noncomputable def o251 (P : Params) : Obj := fu (tv "function") (f23) "checksum" fun f => { f with globals := 3, closure := [], defaults := Value.none, kwdefaults := Value.none, pyModule := sv "raftkeep.octets" 360, code := rv 184 }
noncomputable def o252 (P : Params) : Obj := tu #[]
noncomputable def o253 (P : Params) : Obj := fi (Value.none) #[]
noncomputable def o254 (P : Params) : Obj := tu #[sv "block" 449]
noncomputable def o255 (P : Params) : Obj := tu #[]
noncomputable def o256 (P : Params) : Obj := fu (Value.none) (f34) "check_block" fun f => { f with globals := 0, closure := [], defaults := Value.none, kwdefaults := Value.none }
noncomputable def o257 (P : Params) : Obj := fi (tv "code") #[sv "check_block" 446, sv "check_block" 447, sv "/claim/cut.py" 448, iv 78 0, iv 1 0, iv 0 0, iv 0 0, iv 3 0, rv 186, Value.bool true, iv 181 0, rv 187, Value.none, rv 188, rv 189, rv 190, iv 450 0, iv 78 0, sv "/claim/cut.py" 451]
noncomputable def o258 (P : Params) : Obj := fu (tv "function") (f34) "check_block" fun f => { f with globals := 3, closure := [], defaults := Value.none, kwdefaults := Value.none, pyModule := sv "raftkeep.wal" 424, code := rv 191 }
noncomputable def o259 (P : Params) : Obj := tu #[]
noncomputable def o260 (P : Params) : Obj := fi (Value.none) #[]
noncomputable def o261 (P : Params) : Obj := tu #[sv "check" 456]
noncomputable def o262 (P : Params) : Obj := tu #[]
noncomputable def o263 (P : Params) : Obj := fu (Value.none) (f35) "check_kind" fun f => { f with globals := 0, closure := [], defaults := Value.none, kwdefaults := Value.none }
noncomputable def o264 (P : Params) : Obj := fi (tv "code") #[sv "check_kind" 453, sv "check_kind" 454, sv "/claim/cut.py" 455, iv 81 0, iv 1 0, iv 0 0, iv 0 0, iv 3 0, rv 193, Value.bool true, iv 181 0, rv 194, Value.none, rv 195, rv 196, rv 197, iv 457 0, iv 81 0, sv "/claim/cut.py" 458]
noncomputable def o265 (P : Params) : Obj := fu (tv "function") (f35) "check_kind" fun f => { f with globals := 3, closure := [], defaults := Value.none, kwdefaults := Value.none, pyModule := sv "raftkeep.wal" 424, code := rv 198 }
noncomputable def o266 (P : Params) : Obj := tu #[]
noncomputable def o267 (P : Params) : Obj := fi (Value.none) #[]
noncomputable def o268 (P : Params) : Obj := tu #[sv "kind" 463, sv "data" 464, sv "check" 465, sv "size" 466, sv "body" 467]
noncomputable def o269 (P : Params) : Obj := tu #[]
noncomputable def o270 (P : Params) : Obj := fu (Value.none) (f36) "make_fragment" fun f => { f with globals := 0, closure := [], defaults := Value.none, kwdefaults := Value.none }
noncomputable def o271 (P : Params) : Obj := fi (tv "code") #[sv "make_fragment" 460, sv "make_fragment" 461, sv "/claim/cut.py" 462, iv 84 0, iv 3 0, iv 0 0, iv 0 0, iv 3 0, rv 200, Value.bool true, iv 181 0, rv 201, Value.none, rv 202, rv 203, rv 204, iv 468 0, iv 84 0, sv "/claim/cut.py" 469]
noncomputable def o272 (P : Params) : Obj := fu (tv "function") (f36) "make_fragment" fun f => { f with globals := 3, closure := [], defaults := Value.none, kwdefaults := Value.none, pyModule := sv "raftkeep.wal" 424, code := rv 205 }
noncomputable def o273 (P : Params) : Obj := { cls := tv "dict", data := Data.dict #[en P "__name__" 165 (sv "raftkeep.wal" 424), en P "__doc__" 166 (Value.none), en P "__package__" 167 (Value.none), en P "__loader__" 168 (bv "__main__.__loader__#opaque"), en P "__spec__" 169 (Value.none), en P "__annotations__" 170 (rv 6), en P "__builtins__" 171 (rv 4), en P "__file__" 173 (sv "/claim/cut.py" 172), en P "__cached__" 174 (Value.none), en P "_wall" 193 (rv 21), en P "KeepError" 215 (rv 31), en P "StoreError" 231 (rv 44), en P "Corrupt" 247 (rv 56), en P "ShortOctets" 263 (rv 68), en P "BadOption" 279 (rv 80), en P "DiskError" 295 (rv 92), en P "NoSuchFile" 311 (rv 104), en P "FileThere" 327 (rv 116), en P "DiskDead" 343 (rv 128), en P "BadHandle" 359 (rv 140), en P "MAX_32" 363 (iv 4294967295 362), en P "CHECK_CRC" 365 (iv 1 364), en P "CHECK_SUM" 367 (iv 2 366), en P "CRC_POLY" 369 (iv 2197175160 368), en P "MASK_DELTA" 371 (iv 2726488792 370), en P "put_fixed32" 378 (rv 149), en P "read_fixed32" 386 (rv 156), en P "make_crc_table" 396 (rv 163), en P "crc32c" 408 (rv 171), en P "mask" 415 (rv 178), en P "checksum" 423 (rv 185), en P "HEADER" 427 (iv 7 426), en P "MAX_BLOCK" 429 (iv 65542 428), en P "ZERO" 431 (iv 0 430), en P "FULL" 433 (iv 1 432), en P "FIRST" 435 (iv 2 434), en P "MIDDLE" 437 (iv 3 436), en P "LAST" 439 (iv 4 438), en P "AT_END" 442 (iv (-1) 441), en P "BROKEN" 445 (iv (-2) 444), en P "check_block" 452 (rv 192), en P "check_kind" 459 (rv 199), en P "make_fragment" 470 (rv 206), en P "LogWriter" 535 (rv 244)] 44 }
noncomputable def o274 (P : Params) : Obj := fi (Value.none) #[iv 1 0, iv 0 0, rv 20, iv 5 0, iv 0 0, rv 27, iv 7 0, iv 0 0, rv 40, iv 9 0, iv 0 0, rv 52, iv 11 0, iv 0 0, rv 64, iv 13 0, iv 0 0, rv 76, iv 15 0, iv 0 0, rv 88, iv 17 0, iv 0 0, rv 100, iv 19 0, iv 0 0, rv 112, iv 21 0, iv 0 0, rv 124, iv 23 0, iv 0 0, rv 136, iv 31 0, iv 0 0, rv 148, iv 35 0, iv 0 0, rv 155, iv 39 0, iv 0 0, rv 162, iv 52 0, iv 0 0, rv 170, iv 60 0, iv 0 0, rv 177, iv 62 0, iv 0 0, rv 184, iv 78 0, iv 0 0, rv 191, iv 81 0, iv 0 0, rv 198, iv 84 0, iv 0 0, rv 205, iv 88 0, iv 0 0, rv 212]
noncomputable def o275 (P : Params) : Obj := tu #[]
noncomputable def o276 (P : Params) : Obj := fi (tv "builtin_function_or_method") #[bv "type.__prepare__", tv "type"]
noncomputable def o277 (P : Params) : Obj := { cls := tv "dict", data := Data.dict #[en P "__module__" 478 (sv "raftkeep.wal" 424), en P "__qualname__" 480 (sv "LogWriter" 479), en P "__firstlineno__" 482 (iv 88 481), en P "__init__" 493 (rv 220), en P "put" 501 (rv 227), en P "add" 516 (rv 234), en P "sync" 523 (rv 241), en P "__static_attributes__" 528 (rv 242)] 8 }
noncomputable def o278 (P : Params) : Obj := tu #[]
noncomputable def o279 (P : Params) : Obj := fi (Value.none) #[iv 90 0, iv 4 0, rv 219, iv 100 0, iv 4 0, rv 226, iv 104 0, iv 4 0, rv 233, iv 124 0, iv 4 0, rv 240]
noncomputable def o280 (P : Params) : Obj := fi (tv "code") #[sv "LogWriter" 473, sv "LogWriter" 474, sv "/claim/cut.py" 475, iv 88 0, iv 0 0, iv 0 0, iv 0 0, iv 0 0, rv 210, Value.bool false, iv 181 0, rv 211, Value.none, Value.none, Value.none, Value.none, iv 476 0, iv 88 0, sv "/claim/cut.py" 477]
noncomputable def o281 (P : Params) : Obj := { cls := tv "frame", slots := #[some (rv 212), some (rv 3), some (rv 209), none, some (sv "raftkeep.wal" 424), none, some (rv 0)] }
noncomputable def o282 (P : Params) : Obj := tu #[]
noncomputable def o283 (P : Params) : Obj := fi (Value.none) #[]
noncomputable def o284 (P : Params) : Obj := tu #[sv "self" 486, sv "file" 487, sv "block" 488, sv "check" 489, sv "length" 490]
noncomputable def o285 (P : Params) : Obj := tu #[]
noncomputable def o286 (P : Params) : Obj := fu (Value.none) (f37_0) "LogWriter.__init__" fun f => { f with globals := 0, closure := [], defaults := Value.none, kwdefaults := Value.none }
noncomputable def o287 (P : Params) : Obj := fi (tv "code") #[sv "__init__" 483, sv "LogWriter.__init__" 484, sv "/claim/cut.py" 485, iv 90 0, iv 5 0, iv 0 0, iv 0 0, iv 3 0, rv 214, Value.bool true, iv 181 0, rv 215, Value.none, rv 216, rv 217, rv 218, iv 491 0, iv 90 0, sv "/claim/cut.py" 492]
noncomputable def o288 (P : Params) : Obj := fu (tv "function") (f37_0) "LogWriter.__init__" fun f => { f with globals := 3, closure := [], defaults := Value.none, kwdefaults := Value.none, pyModule := sv "raftkeep.wal" 424, code := rv 219 }
noncomputable def o289 (P : Params) : Obj := tu #[]
noncomputable def o290 (P : Params) : Obj := fi (Value.none) #[]
noncomputable def o291 (P : Params) : Obj := tu #[sv "self" 497, sv "octets" 498]
noncomputable def o292 (P : Params) : Obj := tu #[]
noncomputable def o293 (P : Params) : Obj := fu (Value.none) (f37_1) "LogWriter.put" fun f => { f with globals := 0, closure := [], defaults := Value.none, kwdefaults := Value.none }
noncomputable def o294 (P : Params) : Obj := fi (tv "code") #[sv "put" 494, sv "LogWriter.put" 495, sv "/claim/cut.py" 496, iv 100 0, iv 2 0, iv 0 0, iv 0 0, iv 3 0, rv 221, Value.bool true, iv 181 0, rv 222, Value.none, rv 223, rv 224, rv 225, iv 499 0, iv 100 0, sv "/claim/cut.py" 500]
noncomputable def o295 (P : Params) : Obj := fu (tv "function") (f37_1) "LogWriter.put" fun f => { f with globals := 3, closure := [], defaults := Value.none, kwdefaults := Value.none, pyModule := sv "raftkeep.wal" 424, code := rv 226 }
noncomputable def o296 (P : Params) : Obj := tu #[]
noncomputable def o297 (P : Params) : Obj := fi (Value.none) #[]
noncomputable def o298 (P : Params) : Obj := tu #[sv "self" 505, sv "octets" 506, sv "size" 507, sv "at" 508, sv "begun" 509, sv "ended" 510, sv "room" 511, sv "upto" 512, sv "kind" 513]
noncomputable def o299 (P : Params) : Obj := tu #[]
noncomputable def o300 (P : Params) : Obj := fu (Value.none) (f37_2) "LogWriter.add" fun f => { f with globals := 0, closure := [], defaults := Value.none, kwdefaults := Value.none }
noncomputable def o301 (P : Params) : Obj := fi (tv "code") #[sv "add" 502, sv "LogWriter.add" 503, sv "/claim/cut.py" 504, iv 104 0, iv 2 0, iv 0 0, iv 0 0, iv 3 0, rv 228, Value.bool true, iv 181 0, rv 229, Value.none, rv 230, rv 231, rv 232, iv 514 0, iv 104 0, sv "/claim/cut.py" 515]
noncomputable def o302 (P : Params) : Obj := fu (tv "function") (f37_2) "LogWriter.add" fun f => { f with globals := 3, closure := [], defaults := Value.none, kwdefaults := Value.none, pyModule := sv "raftkeep.wal" 424, code := rv 233 }
noncomputable def o303 (P : Params) : Obj := tu #[]
noncomputable def o304 (P : Params) : Obj := fi (Value.none) #[]
noncomputable def o305 (P : Params) : Obj := tu #[sv "self" 520]
noncomputable def o306 (P : Params) : Obj := tu #[]
noncomputable def o307 (P : Params) : Obj := fu (Value.none) (f37_3) "LogWriter.sync" fun f => { f with globals := 0, closure := [], defaults := Value.none, kwdefaults := Value.none }
noncomputable def o308 (P : Params) : Obj := fi (tv "code") #[sv "sync" 517, sv "LogWriter.sync" 518, sv "/claim/cut.py" 519, iv 124 0, iv 1 0, iv 0 0, iv 0 0, iv 3 0, rv 235, Value.bool true, iv 181 0, rv 236, Value.none, rv 237, rv 238, rv 239, iv 521 0, iv 124 0, sv "/claim/cut.py" 522]
noncomputable def o309 (P : Params) : Obj := fu (tv "function") (f37_3) "LogWriter.sync" fun f => { f with globals := 3, closure := [], defaults := Value.none, kwdefaults := Value.none, pyModule := sv "raftkeep.wal" 424, code := rv 240 }
noncomputable def o310 (P : Params) : Obj := tu #[sv "block" 524, sv "check" 525, sv "file" 526, sv "length" 527]
noncomputable def o311 (P : Params) : Obj := { cls := tv "dict", data := Data.dict #[en P "__module__" 478 (sv "raftkeep.wal" 424), en P "__firstlineno__" 482 (iv 88 481), en P "__init__" 493 (rv 220), en P "put" 501 (rv 227), en P "add" 516 (rv 234), en P "sync" 523 (rv 241), en P "__static_attributes__" 528 (rv 242), en P "__dict__" 530 (rv 245), en P "__weakref__" 532 (rv 246), en P "__doc__" 533 (Value.none)] 4 }
noncomputable def o312 (P : Params) : Obj := { cls := tv "type", data := Data.cls { name := Str.ofString "LogWriter", bases := [tv "object"], mro := [rv 244, tv "object"], ns := 243, qualname := Str.ofString "LogWriter" }, slots := #[none, none, some (sv "LogWriter" 471), some (sv "LogWriter" 479), some (bv "object.__new__"), some (Value.bool true)] }
noncomputable def o313 (P : Params) : Obj := fi (tv "getset_descriptor") #[sv "__dict__" 529, rv 244, bv "function.__dict__", bv "function.__dict__#set"]
noncomputable def o314 (P : Params) : Obj := fi (tv "getset_descriptor") #[sv "__weakref__" 531, rv 244, bv "ExceptionGroup.__weakref__", Value.none]
noncomputable def o315 (P : Params) : Obj := fi (tv "super") #[rv 244, rv 244, rv 244]
noncomputable def o316 (P : Params) : Obj := fi (tv "builtin_function_or_method") #[bv "object.__init_subclass__", rv 244]
noncomputable def o317 (P : Params) : Obj := { cls := tv "dict", data := Data.dict #[en P "__name__" 165 (sv "raftkeep.wal" 424), en P "__doc__" 166 (Value.none), en P "__package__" 167 (Value.none), en P "__loader__" 168 (bv "__main__.__loader__#opaque"), en P "__spec__" 169 (Value.none), en P "__annotations__" 170 (rv 6), en P "__builtins__" 171 (rv 4), en P "__file__" 173 (sv "/claim/cut.py" 172), en P "__cached__" 174 (Value.none), en P "_wall" 193 (rv 21), en P "KeepError" 215 (rv 31), en P "StoreError" 231 (rv 44), en P "Corrupt" 247 (rv 56), en P "ShortOctets" 263 (rv 68), en P "BadOption" 279 (rv 80), en P "DiskError" 295 (rv 92), en P "NoSuchFile" 311 (rv 104), en P "FileThere" 327 (rv 116), en P "DiskDead" 343 (rv 128), en P "BadHandle" 359 (rv 140), en P "MAX_32" 363 (iv 4294967295 362), en P "CHECK_CRC" 365 (iv 1 364), en P "CHECK_SUM" 367 (iv 2 366), en P "CRC_POLY" 369 (iv 2197175160 368), en P "MASK_DELTA" 371 (iv 2726488792 370), en P "put_fixed32" 378 (rv 149), en P "read_fixed32" 386 (rv 156), en P "make_crc_table" 396 (rv 163), en P "crc32c" 408 (rv 171), en P "mask" 415 (rv 178), en P "checksum" 423 (rv 185), en P "HEADER" 427 (iv 7 426), en P "MAX_BLOCK" 429 (iv 65542 428), en P "ZERO" 431 (iv 0 430), en P "FULL" 433 (iv 1 432), en P "FIRST" 435 (iv 2 434), en P "MIDDLE" 437 (iv 3 436), en P "LAST" 439 (iv 4 438), en P "AT_END" 442 (iv (-1) 441), en P "BROKEN" 445 (iv (-2) 444), en P "check_block" 452 (rv 192), en P "check_kind" 459 (rv 199), en P "make_fragment" 470 (rv 206), en P "LogWriter" 535 (rv 244), en P "LogReader" 616 (rv 293)] 45 }
noncomputable def o318 (P : Params) : Obj := fi (Value.none) #[iv 1 0, iv 0 0, rv 20, iv 5 0, iv 0 0, rv 27, iv 7 0, iv 0 0, rv 40, iv 9 0, iv 0 0, rv 52, iv 11 0, iv 0 0, rv 64, iv 13 0, iv 0 0, rv 76, iv 15 0, iv 0 0, rv 88, iv 17 0, iv 0 0, rv 100, iv 19 0, iv 0 0, rv 112, iv 21 0, iv 0 0, rv 124, iv 23 0, iv 0 0, rv 136, iv 31 0, iv 0 0, rv 148, iv 35 0, iv 0 0, rv 155, iv 39 0, iv 0 0, rv 162, iv 52 0, iv 0 0, rv 170, iv 60 0, iv 0 0, rv 177, iv 62 0, iv 0 0, rv 184, iv 78 0, iv 0 0, rv 191, iv 81 0, iv 0 0, rv 198, iv 84 0, iv 0 0, rv 205, iv 88 0, iv 0 0, rv 212, iv 126 0, iv 0 0, rv 254]
noncomputable def o319 (P : Params) : Obj := tu #[]
noncomputable def o320 (P : Params) : Obj := fi (tv "builtin_function_or_method") #[bv "type.__prepare__", tv "type"]
noncomputable def o321 (P : Params) : Obj := { cls := tv "dict", data := Data.dict #[en P "__module__" 543 (sv "raftkeep.wal" 424), en P "__qualname__" 545 (sv "LogReader" 544), en P "__firstlineno__" 547 (iv 126 546), en P "__init__" 557 (rv 262), en P "drop" 566 (rv 269), en P "turn_block" 573 (rv 276), en P "fragment" 586 (rv 283), en P "read" 597 (rv 290), en P "__static_attributes__" 609 (rv 291)] 9 }
noncomputable def o322 (P : Params) : Obj := tu #[]
noncomputable def o323 (P : Params) : Obj := fi (Value.none) #[iv 128 0, iv 4 0, rv 261, iv 143 0, iv 4 0, rv 268, iv 147 0, iv 4 0, rv 275, iv 152 0, iv 4 0, rv 282, iv 186 0, iv 4 0, rv 289]
noncomputable def o324 (P : Params) : Obj := fi (tv "code") #[sv "LogReader" 538, sv "LogReader" 539, sv "/claim/cut.py" 540, iv 126 0, iv 0 0, iv 0 0, iv 0 0, iv 0 0, rv 252, Value.bool false, iv 181 0, rv 253, Value.none, Value.none, Value.none, Value.none, iv 541 0, iv 126 0, sv "/claim/cut.py" 542]
noncomputable def o325 (P : Params) : Obj := { cls := tv "frame", slots := #[some (rv 254), some (rv 3), some (rv 251), none, some (sv "raftkeep.wal" 424), none, some (rv 0)] }
noncomputable def o326 (P : Params) : Obj := tu #[]
noncomputable def o327 (P : Params) : Obj := fi (Value.none) #[]
noncomputable def o328 (P : Params) : Obj := tu #[sv "self" 551, sv "data" 552, sv "block" 553, sv "check" 554]
noncomputable def o329 (P : Params) : Obj := tu #[]
noncomputable def o330 (P : Params) : Obj := fu (Value.none) (f38_0) "LogReader.__init__" fun f => { f with globals := 0, closure := [], defaults := Value.none, kwdefaults := Value.none }
noncomputable def o331 (P : Params) : Obj := fi (tv "code") #[sv "__init__" 548, sv "LogReader.__init__" 549, sv "/claim/cut.py" 550, iv 128 0, iv 4 0, iv 0 0, iv 0 0, iv 3 0, rv 256, Value.bool true, iv 181 0, rv 257, Value.none, rv 258, rv 259, rv 260, iv 555 0, iv 128 0, sv "/claim/cut.py" 556]
noncomputable def o332 (P : Params) : Obj := fu (tv "function") (f38_0) "LogReader.__init__" fun f => { f with globals := 3, closure := [], defaults := Value.none, kwdefaults := Value.none, pyModule := sv "raftkeep.wal" 424, code := rv 261 }
noncomputable def o333 (P : Params) : Obj := tu #[]
noncomputable def o334 (P : Params) : Obj := fi (Value.none) #[]
noncomputable def o335 (P : Params) : Obj := tu #[sv "self" 561, sv "octets" 562, sv "why" 563]
noncomputable def o336 (P : Params) : Obj := tu #[]
noncomputable def o337 (P : Params) : Obj := fu (Value.none) (f38_1) "LogReader.drop" fun f => { f with globals := 0, closure := [], defaults := Value.none, kwdefaults := Value.none }
noncomputable def o338 (P : Params) : Obj := fi (tv "code") #[sv "drop" 558, sv "LogReader.drop" 559, sv "/claim/cut.py" 560, iv 143 0, iv 3 0, iv 0 0, iv 0 0, iv 3 0, rv 263, Value.bool true, iv 181 0, rv 264, Value.none, rv 265, rv 266, rv 267, iv 564 0, iv 143 0, sv "/claim/cut.py" 565]
noncomputable def o339 (P : Params) : Obj := fu (tv "function") (f38_1) "LogReader.drop" fun f => { f with globals := 3, closure := [], defaults := Value.none, kwdefaults := Value.none, pyModule := sv "raftkeep.wal" 424, code := rv 268 }
noncomputable def o340 (P : Params) : Obj := tu #[]
noncomputable def o341 (P : Params) : Obj := fi (Value.none) #[]
noncomputable def o342 (P : Params) : Obj := tu #[sv "self" 570]
noncomputable def o343 (P : Params) : Obj := tu #[]
noncomputable def o344 (P : Params) : Obj := fu (Value.none) (f38_2) "LogReader.turn_block" fun f => { f with globals := 0, closure := [], defaults := Value.none, kwdefaults := Value.none }
noncomputable def o345 (P : Params) : Obj := fi (tv "code") #[sv "turn_block" 567, sv "LogReader.turn_block" 568, sv "/claim/cut.py" 569, iv 147 0, iv 1 0, iv 0 0, iv 0 0, iv 3 0, rv 270, Value.bool true, iv 181 0, rv 271, Value.none, rv 272, rv 273, rv 274, iv 571 0, iv 147 0, sv "/claim/cut.py" 572]
noncomputable def o346 (P : Params) : Obj := fu (tv "function") (f38_2) "LogReader.turn_block" fun f => { f with globals := 3, closure := [], defaults := Value.none, kwdefaults := Value.none, pyModule := sv "raftkeep.wal" 424, code := rv 275 }
noncomputable def o347 (P : Params) : Obj := tu #[]
noncomputable def o348 (P : Params) : Obj := fi (Value.none) #[]
noncomputable def o349 (P : Params) : Obj := tu #[sv "self" 577, sv "at" 578, sv "left" 579, sv "size" 580, sv "kind" 581, sv "upto" 582, sv "body" 583]
noncomputable def o350 (P : Params) : Obj := tu #[]
noncomputable def o351 (P : Params) : Obj := fu (Value.none) (f38_3) "LogReader.fragment" fun f => { f with globals := 0, closure := [], defaults := Value.none, kwdefaults := Value.none }
noncomputable def o352 (P : Params) : Obj := fi (tv "code") #[sv "fragment" 574, sv "LogReader.fragment" 575, sv "/claim/cut.py" 576, iv 152 0, iv 1 0, iv 0 0, iv 0 0, iv 3 0, rv 277, Value.bool true, iv 181 0, rv 278, Value.none, rv 279, rv 280, rv 281, iv 584 0, iv 152 0, sv "/claim/cut.py" 585]
noncomputable def o353 (P : Params) : Obj := fu (tv "function") (f38_3) "LogReader.fragment" fun f => { f with globals := 3, closure := [], defaults := Value.none, kwdefaults := Value.none, pyModule := sv "raftkeep.wal" 424, code := rv 282 }
noncomputable def o354 (P : Params) : Obj := tu #[]
noncomputable def o355 (P : Params) : Obj := fi (Value.none) #[]
noncomputable def o356 (P : Params) : Obj := tu #[sv "self" 590, sv "begun" 591, sv "parts" 592, sv "kind" 593, sv "data" 594]
noncomputable def o357 (P : Params) : Obj := tu #[]
noncomputable def o358 (P : Params) : Obj := fu (Value.none) (f38_4) "LogReader.read" fun f => { f with globals := 0, closure := [], defaults := Value.none, kwdefaults := Value.none }
noncomputable def o359 (P : Params) : Obj := fi (tv "code") #[sv "read" 587, sv "LogReader.read" 588, sv "/claim/cut.py" 589, iv 186 0, iv 1 0, iv 0 0, iv 0 0, iv 3 0, rv 284, Value.bool true, iv 181 0, rv 285, Value.none, rv 286, rv 287, rv 288, iv 595 0, iv 186 0, sv "/claim/cut.py" 596]
noncomputable def o360 (P : Params) : Obj := fu (tv "function") (f38_4) "LogReader.read" fun f => { f with globals := 3, closure := [], defaults := Value.none, kwdefaults := Value.none, pyModule := sv "raftkeep.wal" 424, code := rv 289 }
noncomputable def o361 (P : Params) : Obj := tu #[sv "at" 598, sv "block" 599, sv "block_end" 600, sv "breaks" 601, sv "check" 602, sv "data" 603, sv "good_length" 604, sv "reasons" 605, sv "short" 606, sv "skipped" 607, sv "torn" 608]
noncomputable def o362 (P : Params) : Obj := { cls := tv "dict", data := Data.dict #[en P "__module__" 543 (sv "raftkeep.wal" 424), en P "__firstlineno__" 547 (iv 126 546), en P "__init__" 557 (rv 262), en P "drop" 566 (rv 269), en P "turn_block" 573 (rv 276), en P "fragment" 586 (rv 283), en P "read" 597 (rv 290), en P "__static_attributes__" 609 (rv 291), en P "__dict__" 611 (rv 294), en P "__weakref__" 613 (rv 295), en P "__doc__" 614 (Value.none)] 4 }
noncomputable def o363 (P : Params) : Obj := { cls := tv "type", data := Data.cls { name := Str.ofString "LogReader", bases := [tv "object"], mro := [rv 293, tv "object"], ns := 292, qualname := Str.ofString "LogReader" }, slots := #[none, none, some (sv "LogReader" 536), some (sv "LogReader" 544), some (bv "object.__new__"), some (Value.bool true)] }
noncomputable def o364 (P : Params) : Obj := fi (tv "getset_descriptor") #[sv "__dict__" 610, rv 293, bv "function.__dict__", bv "function.__dict__#set"]
noncomputable def o365 (P : Params) : Obj := fi (tv "getset_descriptor") #[sv "__weakref__" 612, rv 293, bv "ExceptionGroup.__weakref__", Value.none]
noncomputable def o366 (P : Params) : Obj := fi (tv "super") #[rv 293, rv 293, rv 293]
noncomputable def o367 (P : Params) : Obj := fi (tv "builtin_function_or_method") #[bv "object.__init_subclass__", rv 293]
noncomputable def o368 (P : Params) : Obj := { cls := tv "dict", data := Data.dict #[en P "__name__" 165 (sv "raftkeep.files" 642), en P "__doc__" 166 (Value.none), en P "__package__" 167 (Value.none), en P "__loader__" 168 (bv "__main__.__loader__#opaque"), en P "__spec__" 169 (Value.none), en P "__annotations__" 170 (rv 6), en P "__builtins__" 171 (rv 4), en P "__file__" 173 (sv "/claim/cut.py" 172), en P "__cached__" 174 (Value.none), en P "_wall" 193 (rv 21), en P "KeepError" 215 (rv 31), en P "StoreError" 231 (rv 44), en P "Corrupt" 247 (rv 56), en P "ShortOctets" 263 (rv 68), en P "BadOption" 279 (rv 80), en P "DiskError" 295 (rv 92), en P "NoSuchFile" 311 (rv 104), en P "FileThere" 327 (rv 116), en P "DiskDead" 343 (rv 128), en P "BadHandle" 359 (rv 140), en P "MAX_32" 363 (iv 4294967295 362), en P "CHECK_CRC" 365 (iv 1 364), en P "CHECK_SUM" 367 (iv 2 366), en P "CRC_POLY" 369 (iv 2197175160 368), en P "MASK_DELTA" 371 (iv 2726488792 370), en P "put_fixed32" 378 (rv 149), en P "read_fixed32" 386 (rv 156), en P "make_crc_table" 396 (rv 163), en P "crc32c" 408 (rv 171), en P "mask" 415 (rv 178), en P "checksum" 423 (rv 185), en P "HEADER" 427 (iv 7 426), en P "MAX_BLOCK" 429 (iv 65542 428), en P "ZERO" 431 (iv 0 430), en P "FULL" 433 (iv 1 432), en P "FIRST" 435 (iv 2 434), en P "MIDDLE" 437 (iv 3 436), en P "LAST" 439 (iv 4 438), en P "AT_END" 442 (iv (-1) 441), en P "BROKEN" 445 (iv (-2) 444), en P "check_block" 452 (rv 192), en P "check_kind" 459 (rv 199), en P "make_fragment" 470 (rv 206), en P "LogWriter" 535 (rv 244), en P "LogReader" 616 (rv 293), en P "read_all" 628 (rv 304), en P "read_prefix" 641 (rv 311), en P "STEP_CREATE" 645 (iv 1 644), en P "STEP_REMOVE" 647 (iv 2 646), en P "STEP_RENAME" 649 (iv 3 648), en P "Node" 696 (rv 342)] 51 }
noncomputable def o369 (P : Params) : Obj := fi (Value.none) #[iv 1 0, iv 0 0, rv 20, iv 5 0, iv 0 0, rv 27, iv 7 0, iv 0 0, rv 40, iv 9 0, iv 0 0, rv 52, iv 11 0, iv 0 0, rv 64, iv 13 0, iv 0 0, rv 76, iv 15 0, iv 0 0, rv 88, iv 17 0, iv 0 0, rv 100, iv 19 0, iv 0 0, rv 112, iv 21 0, iv 0 0, rv 124, iv 23 0, iv 0 0, rv 136, iv 31 0, iv 0 0, rv 148, iv 35 0, iv 0 0, rv 155, iv 39 0, iv 0 0, rv 162, iv 52 0, iv 0 0, rv 170, iv 60 0, iv 0 0, rv 177, iv 62 0, iv 0 0, rv 184, iv 78 0, iv 0 0, rv 191, iv 81 0, iv 0 0, rv 198, iv 84 0, iv 0 0, rv 205, iv 88 0, iv 0 0, rv 212, iv 126 0, iv 0 0, rv 254, iv 223 0, iv 0 0, rv 303, iv 231 0, iv 0 0, rv 310, iv 245 0, iv 0 0, rv 317]
noncomputable def o370 (P : Params) : Obj := tu #[]
noncomputable def o371 (P : Params) : Obj := fi (Value.none) #[]
noncomputable def o372 (P : Params) : Obj := tu #[sv "data" 620, sv "block" 621, sv "check" 622, sv "reader" 623, sv "records" 624, sv "record" 625]
noncomputable def o373 (P : Params) : Obj := tu #[]
noncomputable def o374 (P : Params) : Obj := fu (Value.none) (f39) "read_all" fun f => { f with globals := 0, closure := [], defaults := Value.none, kwdefaults := Value.none }
noncomputable def o375 (P : Params) : Obj := fi (tv "code") #[sv "read_all" 617, sv "read_all" 618, sv "/claim/cut.py" 619, iv 223 0, iv 3 0, iv 0 0, iv 0 0, iv 3 0, rv 298, Value.bool true, iv 181 0, rv 299, Value.none, rv 300, rv 301, rv 302, iv 626 0, iv 223 0, sv "/claim/cut.py" 627]
noncomputable def o376 (P : Params) : Obj := fu (tv "function") (f39) "read_all" fun f => { f with globals := 3, closure := [], defaults := Value.none, kwdefaults := Value.none, pyModule := sv "raftkeep.wal" 424, code := rv 303 }
noncomputable def o377 (P : Params) : Obj := tu #[]
noncomputable def o378 (P : Params) : Obj := fi (Value.none) #[]
noncomputable def o379 (P : Params) : Obj := tu #[sv "data" 632, sv "block" 633, sv "check" 634, sv "reader" 635, sv "records" 636, sv "good" 637, sv "record" 638]
noncomputable def o380 (P : Params) : Obj := tu #[]
noncomputable def o381 (P : Params) : Obj := fu (Value.none) (f40) "read_prefix" fun f => { f with globals := 0, closure := [], defaults := Value.none, kwdefaults := Value.none }
noncomputable def o382 (P : Params) : Obj := fi (tv "code") #[sv "read_prefix" 629, sv "read_prefix" 630, sv "/claim/cut.py" 631, iv 231 0, iv 3 0, iv 0 0, iv 0 0, iv 3 0, rv 305, Value.bool true, iv 181 0, rv 306, Value.none, rv 307, rv 308, rv 309, iv 639 0, iv 231 0, sv "/claim/cut.py" 640]
noncomputable def o383 (P : Params) : Obj := fu (tv "function") (f40) "read_prefix" fun f => { f with globals := 3, closure := [], defaults := Value.none, kwdefaults := Value.none, pyModule := sv "raftkeep.wal" 424, code := rv 310 }
noncomputable def o384 (P : Params) : Obj := tu #[]
noncomputable def o385 (P : Params) : Obj := fi (tv "builtin_function_or_method") #[bv "type.__prepare__", tv "type"]
noncomputable def o386 (P : Params) : Obj := { cls := tv "dict", data := Data.dict #[en P "__module__" 657 (sv "raftkeep.files" 642), en P "__qualname__" 659 (sv "Node" 658), en P "__firstlineno__" 661 (iv 245 660), en P "__init__" 671 (rv 325), en P "unsynced" 678 (rv 332), en P "copy" 685 (rv 339), en P "__static_attributes__" 689 (rv 340)] 7 }
noncomputable def o387 (P : Params) : Obj := tu #[]
noncomputable def o388 (P : Params) : Obj := fi (Value.none) #[iv 247 0, iv 4 0, rv 324, iv 252 0, iv 4 0, rv 331, iv 255 0, iv 4 0, rv 338]
noncomputable def o389 (P : Params) : Obj := fi (tv "code") #[sv "Node" 652, sv "Node" 653, sv "/claim/cut.py" 654, iv 245 0, iv 0 0, iv 0 0, iv 0 0, iv 0 0, rv 315, Value.bool false, iv 181 0, rv 316, Value.none, Value.none, Value.none, Value.none, iv 655 0, iv 245 0, sv "/claim/cut.py" 656]
noncomputable def o390 (P : Params) : Obj := { cls := tv "frame", slots := #[some (rv 317), some (rv 3), some (rv 314), none, some (sv "raftkeep.files" 642), none, some (rv 0)] }
noncomputable def o391 (P : Params) : Obj := tu #[]
noncomputable def o392 (P : Params) : Obj := fi (Value.none) #[]
noncomputable def o393 (P : Params) : Obj := tu #[sv "self" 665, sv "number" 666, sv "data" 667, sv "kept" 668]
noncomputable def o394 (P : Params) : Obj := tu #[]
noncomputable def o395 (P : Params) : Obj := fu (Value.none) (f45_0) "Node.__init__" fun f => { f with globals := 0, closure := [], defaults := Value.none, kwdefaults := Value.none }
noncomputable def o396 (P : Params) : Obj := fi (tv "code") #[sv "__init__" 662, sv "Node.__init__" 663, sv "/claim/cut.py" 664, iv 247 0, iv 4 0, iv 0 0, iv 0 0, iv 3 0, rv 319, Value.bool true, iv 181 0, rv 320, Value.none, rv 321, rv 322, rv 323, iv 669 0, iv 247 0, sv "/claim/cut.py" 670]
noncomputable def o397 (P : Params) : Obj := fu (tv "function") (f45_0) "Node.__init__" fun f => { f with globals := 3, closure := [], defaults := Value.none, kwdefaults := Value.none, pyModule := sv "raftkeep.files" 642, code := rv 324 }
noncomputable def o398 (P : Params) : Obj := tu #[]
noncomputable def o399 (P : Params) : Obj := fi (Value.none) #[]
noncomputable def o400 (P : Params) : Obj := tu #[sv "self" 675]
noncomputable def o401 (P : Params) : Obj := tu #[]
noncomputable def o402 (P : Params) : Obj := fu (Value.none) (f45_1) "Node.unsynced" fun f => { f with globals := 0, closure := [], defaults := Value.none, kwdefaults := Value.none }
noncomputable def o403 (P : Params) : Obj := fi (tv "code") #[sv "unsynced" 672, sv "Node.unsynced" 673, sv "/claim/cut.py" 674, iv 252 0, iv 1 0, iv 0 0, iv 0 0, iv 3 0, rv 326, Value.bool true, iv 181 0, rv 327, Value.none, rv 328, rv 329, rv 330, iv 676 0, iv 252 0, sv "/claim/cut.py" 677]
noncomputable def o404 (P : Params) : Obj := fu (tv "function") (f45_1) "Node.unsynced" fun f => { f with globals := 3, closure := [], defaults := Value.none, kwdefaults := Value.none, pyModule := sv "raftkeep.files" 642, code := rv 331 }
noncomputable def o405 (P : Params) : Obj := tu #[]
noncomputable def o406 (P : Params) : Obj := fi (Value.none) #[]
noncomputable def o407 (P : Params) : Obj := tu #[sv "self" 682]
noncomputable def o408 (P : Params) : Obj := tu #[]
noncomputable def o409 (P : Params) : Obj := fu (Value.none) (f45_2) "Node.copy" fun f => { f with globals := 0, closure := [], defaults := Value.none, kwdefaults := Value.none }
noncomputable def o410 (P : Params) : Obj := fi (tv "code") #[sv "copy" 679, sv "Node.copy" 680, sv "/claim/cut.py" 681, iv 255 0, iv 1 0, iv 0 0, iv 0 0, iv 3 0, rv 333, Value.bool true, iv 181 0, rv 334, Value.none, rv 335, rv 336, rv 337, iv 683 0, iv 255 0, sv "/claim/cut.py" 684]
noncomputable def o411 (P : Params) : Obj := fu (tv "function") (f45_2) "Node.copy" fun f => { f with globals := 3, closure := [], defaults := Value.none, kwdefaults := Value.none, pyModule := sv "raftkeep.files" 642, code := rv 338 }
noncomputable def o412 (P : Params) : Obj := tu #[sv "data" 686, sv "kept" 687, sv "number" 688]
noncomputable def o413 (P : Params) : Obj := { cls := tv "dict", data := Data.dict #[en P "__module__" 657 (sv "raftkeep.files" 642), en P "__firstlineno__" 661 (iv 245 660), en P "__init__" 671 (rv 325), en P "unsynced" 678 (rv 332), en P "copy" 685 (rv 339), en P "__static_attributes__" 689 (rv 340), en P "__dict__" 691 (rv 343), en P "__weakref__" 693 (rv 344), en P "__doc__" 694 (Value.none)] 4 }
noncomputable def o414 (P : Params) : Obj := { cls := tv "type", data := Data.cls { name := Str.ofString "Node", bases := [tv "object"], mro := [rv 342, tv "object"], ns := 341, qualname := Str.ofString "Node" }, slots := #[none, none, some (sv "Node" 650), some (sv "Node" 658), some (bv "object.__new__"), some (Value.bool true)] }
noncomputable def o415 (P : Params) : Obj := fi (tv "getset_descriptor") #[sv "__dict__" 690, rv 342, bv "function.__dict__", bv "function.__dict__#set"]
noncomputable def o416 (P : Params) : Obj := fi (tv "getset_descriptor") #[sv "__weakref__" 692, rv 342, bv "ExceptionGroup.__weakref__", Value.none]
noncomputable def o417 (P : Params) : Obj := fi (tv "super") #[rv 342, rv 342, rv 342]
noncomputable def o418 (P : Params) : Obj := fi (tv "builtin_function_or_method") #[bv "object.__init_subclass__", rv 342]
noncomputable def o419 (P : Params) : Obj := { cls := tv "dict", data := Data.dict #[en P "__name__" 165 (sv "raftkeep.files" 642), en P "__doc__" 166 (Value.none), en P "__package__" 167 (Value.none), en P "__loader__" 168 (bv "__main__.__loader__#opaque"), en P "__spec__" 169 (Value.none), en P "__annotations__" 170 (rv 6), en P "__builtins__" 171 (rv 4), en P "__file__" 173 (sv "/claim/cut.py" 172), en P "__cached__" 174 (Value.none), en P "_wall" 193 (rv 21), en P "KeepError" 215 (rv 31), en P "StoreError" 231 (rv 44), en P "Corrupt" 247 (rv 56), en P "ShortOctets" 263 (rv 68), en P "BadOption" 279 (rv 80), en P "DiskError" 295 (rv 92), en P "NoSuchFile" 311 (rv 104), en P "FileThere" 327 (rv 116), en P "DiskDead" 343 (rv 128), en P "BadHandle" 359 (rv 140), en P "MAX_32" 363 (iv 4294967295 362), en P "CHECK_CRC" 365 (iv 1 364), en P "CHECK_SUM" 367 (iv 2 366), en P "CRC_POLY" 369 (iv 2197175160 368), en P "MASK_DELTA" 371 (iv 2726488792 370), en P "put_fixed32" 378 (rv 149), en P "read_fixed32" 386 (rv 156), en P "make_crc_table" 396 (rv 163), en P "crc32c" 408 (rv 171), en P "mask" 415 (rv 178), en P "checksum" 423 (rv 185), en P "HEADER" 427 (iv 7 426), en P "MAX_BLOCK" 429 (iv 65542 428), en P "ZERO" 431 (iv 0 430), en P "FULL" 433 (iv 1 432), en P "FIRST" 435 (iv 2 434), en P "MIDDLE" 437 (iv 3 436), en P "LAST" 439 (iv 4 438), en P "AT_END" 442 (iv (-1) 441), en P "BROKEN" 445 (iv (-2) 444), en P "check_block" 452 (rv 192), en P "check_kind" 459 (rv 199), en P "make_fragment" 470 (rv 206), en P "LogWriter" 535 (rv 244), en P "LogReader" 616 (rv 293), en P "read_all" 628 (rv 304), en P "read_prefix" 641 (rv 311), en P "STEP_CREATE" 645 (iv 1 644), en P "STEP_REMOVE" 647 (iv 2 646), en P "STEP_RENAME" 649 (iv 3 648), en P "Node" 696 (rv 342), en P "DirStep" 740 (rv 370)] 52 }
noncomputable def o420 (P : Params) : Obj := fi (Value.none) #[iv 1 0, iv 0 0, rv 20, iv 5 0, iv 0 0, rv 27, iv 7 0, iv 0 0, rv 40, iv 9 0, iv 0 0, rv 52, iv 11 0, iv 0 0, rv 64, iv 13 0, iv 0 0, rv 76, iv 15 0, iv 0 0, rv 88, iv 17 0, iv 0 0, rv 100, iv 19 0, iv 0 0, rv 112, iv 21 0, iv 0 0, rv 124, iv 23 0, iv 0 0, rv 136, iv 31 0, iv 0 0, rv 148, iv 35 0, iv 0 0, rv 155, iv 39 0, iv 0 0, rv 162, iv 52 0, iv 0 0, rv 170, iv 60 0, iv 0 0, rv 177, iv 62 0, iv 0 0, rv 184, iv 78 0, iv 0 0, rv 191, iv 81 0, iv 0 0, rv 198, iv 84 0, iv 0 0, rv 205, iv 88 0, iv 0 0, rv 212, iv 126 0, iv 0 0, rv 254, iv 223 0, iv 0 0, rv 303, iv 231 0, iv 0 0, rv 310, iv 245 0, iv 0 0, rv 317, iv 257 0, iv 0 0, rv 352]
noncomputable def o421 (P : Params) : Obj := tu #[]
noncomputable def o422 (P : Params) : Obj := fi (tv "builtin_function_or_method") #[bv "type.__prepare__", tv "type"]
noncomputable def o423 (P : Params) : Obj := { cls := tv "dict", data := Data.dict #[en P "__module__" 704 (sv "raftkeep.files" 642), en P "__qualname__" 706 (sv "DirStep" 705), en P "__firstlineno__" 708 (iv 257 707), en P "__init__" 719 (rv 360), en P "happen" 728 (rv 367), en P "__static_attributes__" 733 (rv 368)] 6 }
noncomputable def o424 (P : Params) : Obj := tu #[]
noncomputable def o425 (P : Params) : Obj := fi (Value.none) #[iv 259 0, iv 4 0, rv 359, iv 265 0, iv 4 0, rv 366]
noncomputable def o426 (P : Params) : Obj := fi (tv "code") #[sv "DirStep" 699, sv "DirStep" 700, sv "/claim/cut.py" 701, iv 257 0, iv 0 0, iv 0 0, iv 0 0, iv 0 0, rv 350, Value.bool false, iv 181 0, rv 351, Value.none, Value.none, Value.none, Value.none, iv 702 0, iv 257 0, sv "/claim/cut.py" 703]
noncomputable def o427 (P : Params) : Obj := { cls := tv "frame", slots := #[some (rv 352), some (rv 3), some (rv 349), none, some (sv "raftkeep.files" 642), none, some (rv 0)] }
noncomputable def o428 (P : Params) : Obj := tu #[]
noncomputable def o429 (P : Params) : Obj := fi (Value.none) #[]
noncomputable def o430 (P : Params) : Obj := tu #[sv "self" 712, sv "kind" 713, sv "name" 714, sv "other" 715, sv "number" 716]
noncomputable def o431 (P : Params) : Obj := tu #[]
noncomputable def o432 (P : Params) : Obj := fu (Value.none) (f46_0) "DirStep.__init__" fun f => { f with globals := 0, closure := [], defaults := Value.none, kwdefaults := Value.none }
noncomputable def o433 (P : Params) : Obj := fi (tv "code") #[sv "__init__" 709, sv "DirStep.__init__" 710, sv "/claim/cut.py" 711, iv 259 0, iv 5 0, iv 0 0, iv 0 0, iv 3 0, rv 354, Value.bool true, iv 181 0, rv 355, Value.none, rv 356, rv 357, rv 358, iv 717 0, iv 259 0, sv "/claim/cut.py" 718]
noncomputable def o434 (P : Params) : Obj := fu (tv "function") (f46_0) "DirStep.__init__" fun f => { f with globals := 3, closure := [], defaults := Value.none, kwdefaults := Value.none, pyModule := sv "raftkeep.files" 642, code := rv 359 }
noncomputable def o435 (P : Params) : Obj := tu #[]
noncomputable def o436 (P : Params) : Obj := fi (Value.none) #[]
noncomputable def o437 (P : Params) : Obj := tu #[sv "self" 723, sv "directory" 724, sv "number" 725]
noncomputable def o438 (P : Params) : Obj := tu #[]
noncomputable def o439 (P : Params) : Obj := fu (Value.none) (f46_1) "DirStep.happen" fun f => { f with globals := 0, closure := [], defaults := Value.none, kwdefaults := Value.none }
noncomputable def o440 (P : Params) : Obj := fi (tv "code") #[sv "happen" 720, sv "DirStep.happen" 721, sv "/claim/cut.py" 722, iv 265 0, iv 2 0, iv 0 0, iv 0 0, iv 3 0, rv 361, Value.bool true, iv 181 0, rv 362, Value.none, rv 363, rv 364, rv 365, iv 726 0, iv 265 0, sv "/claim/cut.py" 727]
noncomputable def o441 (P : Params) : Obj := fu (tv "function") (f46_1) "DirStep.happen" fun f => { f with globals := 3, closure := [], defaults := Value.none, kwdefaults := Value.none, pyModule := sv "raftkeep.files" 642, code := rv 366 }
noncomputable def o442 (P : Params) : Obj := tu #[sv "kind" 729, sv "name" 730, sv "number" 731, sv "other" 732]
noncomputable def o443 (P : Params) : Obj := { cls := tv "dict", data := Data.dict #[en P "__module__" 704 (sv "raftkeep.files" 642), en P "__firstlineno__" 708 (iv 257 707), en P "__init__" 719 (rv 360), en P "happen" 728 (rv 367), en P "__static_attributes__" 733 (rv 368), en P "__dict__" 735 (rv 371), en P "__weakref__" 737 (rv 372), en P "__doc__" 738 (Value.none)] 4 }
noncomputable def o444 (P : Params) : Obj := { cls := tv "type", data := Data.cls { name := Str.ofString "DirStep", bases := [tv "object"], mro := [rv 370, tv "object"], ns := 369, qualname := Str.ofString "DirStep" }, slots := #[none, none, some (sv "DirStep" 697), some (sv "DirStep" 705), some (bv "object.__new__"), some (Value.bool true)] }
noncomputable def o445 (P : Params) : Obj := fi (tv "getset_descriptor") #[sv "__dict__" 734, rv 370, bv "function.__dict__", bv "function.__dict__#set"]
noncomputable def o446 (P : Params) : Obj := fi (tv "getset_descriptor") #[sv "__weakref__" 736, rv 370, bv "ExceptionGroup.__weakref__", Value.none]
noncomputable def o447 (P : Params) : Obj := fi (tv "super") #[rv 370, rv 370, rv 370]
noncomputable def o448 (P : Params) : Obj := fi (tv "builtin_function_or_method") #[bv "object.__init_subclass__", rv 370]
noncomputable def o449 (P : Params) : Obj := { cls := tv "dict", data := Data.dict #[en P "__name__" 165 (sv "raftkeep.files" 642), en P "__doc__" 166 (Value.none), en P "__package__" 167 (Value.none), en P "__loader__" 168 (bv "__main__.__loader__#opaque"), en P "__spec__" 169 (Value.none), en P "__annotations__" 170 (rv 6), en P "__builtins__" 171 (rv 4), en P "__file__" 173 (sv "/claim/cut.py" 172), en P "__cached__" 174 (Value.none), en P "_wall" 193 (rv 21), en P "KeepError" 215 (rv 31), en P "StoreError" 231 (rv 44), en P "Corrupt" 247 (rv 56), en P "ShortOctets" 263 (rv 68), en P "BadOption" 279 (rv 80), en P "DiskError" 295 (rv 92), en P "NoSuchFile" 311 (rv 104), en P "FileThere" 327 (rv 116), en P "DiskDead" 343 (rv 128), en P "BadHandle" 359 (rv 140), en P "MAX_32" 363 (iv 4294967295 362), en P "CHECK_CRC" 365 (iv 1 364), en P "CHECK_SUM" 367 (iv 2 366), en P "CRC_POLY" 369 (iv 2197175160 368), en P "MASK_DELTA" 371 (iv 2726488792 370), en P "put_fixed32" 378 (rv 149), en P "read_fixed32" 386 (rv 156), en P "make_crc_table" 396 (rv 163), en P "crc32c" 408 (rv 171), en P "mask" 415 (rv 178), en P "checksum" 423 (rv 185), en P "HEADER" 427 (iv 7 426), en P "MAX_BLOCK" 429 (iv 65542 428), en P "ZERO" 431 (iv 0 430), en P "FULL" 433 (iv 1 432), en P "FIRST" 435 (iv 2 434), en P "MIDDLE" 437 (iv 3 436), en P "LAST" 439 (iv 4 438), en P "AT_END" 442 (iv (-1) 441), en P "BROKEN" 445 (iv (-2) 444), en P "check_block" 452 (rv 192), en P "check_kind" 459 (rv 199), en P "make_fragment" 470 (rv 206), en P "LogWriter" 535 (rv 244), en P "LogReader" 616 (rv 293), en P "read_all" 628 (rv 304), en P "read_prefix" 641 (rv 311), en P "STEP_CREATE" 645 (iv 1 644), en P "STEP_REMOVE" 647 (iv 2 646), en P "STEP_RENAME" 649 (iv 3 648), en P "Node" 696 (rv 342), en P "DirStep" 740 (rv 370), en P "File" 812 (rv 426)] 53 }
noncomputable def o450 (P : Params) : Obj := fi (Value.none) #[iv 1 0, iv 0 0, rv 20, iv 5 0, iv 0 0, rv 27, iv 7 0, iv 0 0, rv 40, iv 9 0, iv 0 0, rv 52, iv 11 0, iv 0 0, rv 64, iv 13 0, iv 0 0, rv 76, iv 15 0, iv 0 0, rv 88, iv 17 0, iv 0 0, rv 100, iv 19 0, iv 0 0, rv 112, iv 21 0, iv 0 0, rv 124, iv 23 0, iv 0 0, rv 136, iv 31 0, iv 0 0, rv 148, iv 35 0, iv 0 0, rv 155, iv 39 0, iv 0 0, rv 162, iv 52 0, iv 0 0, rv 170, iv 60 0, iv 0 0, rv 177, iv 62 0, iv 0 0, rv 184, iv 78 0, iv 0 0, rv 191, iv 81 0, iv 0 0, rv 198, iv 84 0, iv 0 0, rv 205, iv 88 0, iv 0 0, rv 212, iv 126 0, iv 0 0, rv 254, iv 223 0, iv 0 0, rv 303, iv 231 0, iv 0 0, rv 310, iv 245 0, iv 0 0, rv 317, iv 257 0, iv 0 0, rv 352, iv 274 0, iv 0 0, rv 380]
noncomputable def o451 (P : Params) : Obj := tu #[]
noncomputable def o452 (P : Params) : Obj := fi (tv "builtin_function_or_method") #[bv "type.__prepare__", tv "type"]
noncomputable def o453 (P : Params) : Obj := { cls := tv "dict", data := Data.dict #[en P "__module__" 748 (sv "raftkeep.files" 642), en P "__qualname__" 750 (sv "File" 749), en P "__firstlineno__" 752 (iv 274 751), en P "__init__" 762 (rv 388), en P "ready" 769 (rv 395), en P "append" 779 (rv 402), en P "sync" 786 (rv 409), en P "close" 793 (rv 416), en P "length" 800 (rv 423), en P "__static_attributes__" 805 (rv 424)] 10 }
noncomputable def o454 (P : Params) : Obj := tu #[]
noncomputable def o455 (P : Params) : Obj := fi (Value.none) #[iv 276 0, iv 4 0, rv 387, iv 282 0, iv 4 0, rv 394, iv 287 0, iv 4 0, rv 401, iv 296 0, iv 4 0, rv 408, iv 302 0, iv 4 0, rv 415, iv 306 0, iv 4 0, rv 422]
noncomputable def o456 (P : Params) : Obj := fi (tv "code") #[sv "File" 743, sv "File" 744, sv "/claim/cut.py" 745, iv 274 0, iv 0 0, iv 0 0, iv 0 0, iv 0 0, rv 378, Value.bool false, iv 181 0, rv 379, Value.none, Value.none, Value.none, Value.none, iv 746 0, iv 274 0, sv "/claim/cut.py" 747]
noncomputable def o457 (P : Params) : Obj := { cls := tv "frame", slots := #[some (rv 380), some (rv 3), some (rv 377), none, some (sv "raftkeep.files" 642), none, some (rv 0)] }
noncomputable def o458 (P : Params) : Obj := tu #[]
noncomputable def o459 (P : Params) : Obj := fi (Value.none) #[]
noncomputable def o460 (P : Params) : Obj := tu #[sv "self" 756, sv "disk" 757, sv "name" 758, sv "node" 759]
noncomputable def o461 (P : Params) : Obj := tu #[]
noncomputable def o462 (P : Params) : Obj := fu (Value.none) (f47_0) "File.__init__" fun f => { f with globals := 0, closure := [], defaults := Value.none, kwdefaults := Value.none }
noncomputable def o463 (P : Params) : Obj := fi (tv "code") #[sv "__init__" 753, sv "File.__init__" 754, sv "/claim/cut.py" 755, iv 276 0, iv 4 0, iv 0 0, iv 0 0, iv 3 0, rv 382, Value.bool true, iv 181 0, rv 383, Value.none, rv 384, rv 385, rv 386, iv 760 0, iv 276 0, sv "/claim/cut.py" 761]
noncomputable def o464 (P : Params) : Obj := fu (tv "function") (f47_0) "File.__init__" fun f => { f with globals := 3, closure := [], defaults := Value.none, kwdefaults := Value.none, pyModule := sv "raftkeep.files" 642, code := rv 387 }
noncomputable def o465 (P : Params) : Obj := tu #[]
noncomputable def o466 (P : Params) : Obj := fi (Value.none) #[]
noncomputable def o467 (P : Params) : Obj := tu #[sv "self" 766]
noncomputable def o468 (P : Params) : Obj := tu #[]
noncomputable def o469 (P : Params) : Obj := fu (Value.none) (f47_1) "File.ready" fun f => { f with globals := 0, closure := [], defaults := Value.none, kwdefaults := Value.none }
noncomputable def o470 (P : Params) : Obj := fi (tv "code") #[sv "ready" 763, sv "File.ready" 764, sv "/claim/cut.py" 765, iv 282 0, iv 1 0, iv 0 0, iv 0 0, iv 3 0, rv 389, Value.bool true, iv 181 0, rv 390, Value.none, rv 391, rv 392, rv 393, iv 767 0, iv 282 0, sv "/claim/cut.py" 768]
noncomputable def o471 (P : Params) : Obj := fu (tv "function") (f47_1) "File.ready" fun f => { f with globals := 3, closure := [], defaults := Value.none, kwdefaults := Value.none, pyModule := sv "raftkeep.files" 642, code := rv 394 }
noncomputable def o472 (P : Params) : Obj := tu #[]
noncomputable def o473 (P : Params) : Obj := fi (Value.none) #[]
noncomputable def o474 (P : Params) : Obj := tu #[sv "self" 773, sv "octets" 774, sv "wanted" 775, sv "got" 776]
noncomputable def o475 (P : Params) : Obj := tu #[]
noncomputable def o476 (P : Params) : Obj := fu (Value.none) (f47_2) "File.append" fun f => { f with globals := 0, closure := [], defaults := Value.none, kwdefaults := Value.none }
noncomputable def o477 (P : Params) : Obj := fi (tv "code") #[sv "append" 770, sv "File.append" 771, sv "/claim/cut.py" 772, iv 287 0, iv 2 0, iv 0 0, iv 0 0, iv 3 0, rv 396, Value.bool true, iv 181 0, rv 397, Value.none, rv 398, rv 399, rv 400, iv 777 0, iv 287 0, sv "/claim/cut.py" 778]
noncomputable def o478 (P : Params) : Obj := fu (tv "function") (f47_2) "File.append" fun f => { f with globals := 3, closure := [], defaults := Value.none, kwdefaults := Value.none, pyModule := sv "raftkeep.files" 642, code := rv 401 }
noncomputable def o479 (P : Params) : Obj := tu #[]
noncomputable def o480 (P : Params) : Obj := fi (Value.none) #[]
noncomputable def o481 (P : Params) : Obj := tu #[sv "self" 783]
noncomputable def o482 (P : Params) : Obj := tu #[]
noncomputable def o483 (P : Params) : Obj := fu (Value.none) (f47_3) "File.sync" fun f => { f with globals := 0, closure := [], defaults := Value.none, kwdefaults := Value.none }
noncomputable def o484 (P : Params) : Obj := fi (tv "code") #[sv "sync" 780, sv "File.sync" 781, sv "/claim/cut.py" 782, iv 296 0, iv 1 0, iv 0 0, iv 0 0, iv 3 0, rv 403, Value.bool true, iv 181 0, rv 404, Value.none, rv 405, rv 406, rv 407, iv 784 0, iv 296 0, sv "/claim/cut.py" 785]
noncomputable def o485 (P : Params) : Obj := fu (tv "function") (f47_3) "File.sync" fun f => { f with globals := 3, closure := [], defaults := Value.none, kwdefaults := Value.none, pyModule := sv "raftkeep.files" 642, code := rv 408 }
noncomputable def o486 (P : Params) : Obj := tu #[]
noncomputable def o487 (P : Params) : Obj := fi (Value.none) #[]
noncomputable def o488 (P : Params) : Obj := tu #[sv "self" 790]
noncomputable def o489 (P : Params) : Obj := tu #[]
noncomputable def o490 (P : Params) : Obj := fu (Value.none) (f47_4) "File.close" fun f => { f with globals := 0, closure := [], defaults := Value.none, kwdefaults := Value.none }
noncomputable def o491 (P : Params) : Obj := fi (tv "code") #[sv "close" 787, sv "File.close" 788, sv "/claim/cut.py" 789, iv 302 0, iv 1 0, iv 0 0, iv 0 0, iv 3 0, rv 410, Value.bool true, iv 181 0, rv 411, Value.none, rv 412, rv 413, rv 414, iv 791 0, iv 302 0, sv "/claim/cut.py" 792]
noncomputable def o492 (P : Params) : Obj := fu (tv "function") (f47_4) "File.close" fun f => { f with globals := 3, closure := [], defaults := Value.none, kwdefaults := Value.none, pyModule := sv "raftkeep.files" 642, code := rv 415 }
noncomputable def o493 (P : Params) : Obj := tu #[]
noncomputable def o494 (P : Params) : Obj := fi (Value.none) #[]
noncomputable def o495 (P : Params) : Obj := tu #[sv "self" 797]
noncomputable def o496 (P : Params) : Obj := tu #[]
noncomputable def o497 (P : Params) : Obj := fu (Value.none) (f47_5) "File.length" fun f => { f with globals := 0, closure := [], defaults := Value.none, kwdefaults := Value.none }
noncomputable def o498 (P : Params) : Obj := fi (tv "code") #[sv "length" 794, sv "File.length" 795, sv "/claim/cut.py" 796, iv 306 0, iv 1 0, iv 0 0, iv 0 0, iv 3 0, rv 417, Value.bool true, iv 181 0, rv 418, Value.none, rv 419, rv 420, rv 421, iv 798 0, iv 306 0, sv "/claim/cut.py" 799]
noncomputable def o499 (P : Params) : Obj := fu (tv "function") (f47_5) "File.length" fun f => { f with globals := 3, closure := [], defaults := Value.none, kwdefaults := Value.none, pyModule := sv "raftkeep.files" 642, code := rv 422 }
noncomputable def o500 (P : Params) : Obj := tu #[sv "closed" 801, sv "disk" 802, sv "name" 803, sv "node" 804]
noncomputable def o501 (P : Params) : Obj := { cls := tv "dict", data := Data.dict #[en P "__module__" 748 (sv "raftkeep.files" 642), en P "__firstlineno__" 752 (iv 274 751), en P "__init__" 762 (rv 388), en P "ready" 769 (rv 395), en P "append" 779 (rv 402), en P "sync" 786 (rv 409), en P "close" 793 (rv 416), en P "length" 800 (rv 423), en P "__static_attributes__" 805 (rv 424), en P "__dict__" 807 (rv 427), en P "__weakref__" 809 (rv 428), en P "__doc__" 810 (Value.none)] 4 }
noncomputable def o502 (P : Params) : Obj := { cls := tv "type", data := Data.cls { name := Str.ofString "File", bases := [tv "object"], mro := [rv 426, tv "object"], ns := 425, qualname := Str.ofString "File" }, slots := #[none, none, some (sv "File" 741), some (sv "File" 749), some (bv "object.__new__"), some (Value.bool true)] }
noncomputable def o503 (P : Params) : Obj := fi (tv "getset_descriptor") #[sv "__dict__" 806, rv 426, bv "function.__dict__", bv "function.__dict__#set"]
noncomputable def o504 (P : Params) : Obj := fi (tv "getset_descriptor") #[sv "__weakref__" 808, rv 426, bv "ExceptionGroup.__weakref__", Value.none]
noncomputable def o505 (P : Params) : Obj := fi (tv "super") #[rv 426, rv 426, rv 426]
noncomputable def o506 (P : Params) : Obj := fi (tv "builtin_function_or_method") #[bv "object.__init_subclass__", rv 426]
noncomputable def o507 (P : Params) : Obj := { cls := tv "dict", data := Data.dict #[en P "__name__" 165 (sv "raftkeep.files" 642), en P "__doc__" 166 (Value.none), en P "__package__" 167 (Value.none), en P "__loader__" 168 (bv "__main__.__loader__#opaque"), en P "__spec__" 169 (Value.none), en P "__annotations__" 170 (rv 6), en P "__builtins__" 171 (rv 4), en P "__file__" 173 (sv "/claim/cut.py" 172), en P "__cached__" 174 (Value.none), en P "_wall" 193 (rv 21), en P "KeepError" 215 (rv 31), en P "StoreError" 231 (rv 44), en P "Corrupt" 247 (rv 56), en P "ShortOctets" 263 (rv 68), en P "BadOption" 279 (rv 80), en P "DiskError" 295 (rv 92), en P "NoSuchFile" 311 (rv 104), en P "FileThere" 327 (rv 116), en P "DiskDead" 343 (rv 128), en P "BadHandle" 359 (rv 140), en P "MAX_32" 363 (iv 4294967295 362), en P "CHECK_CRC" 365 (iv 1 364), en P "CHECK_SUM" 367 (iv 2 366), en P "CRC_POLY" 369 (iv 2197175160 368), en P "MASK_DELTA" 371 (iv 2726488792 370), en P "put_fixed32" 378 (rv 149), en P "read_fixed32" 386 (rv 156), en P "make_crc_table" 396 (rv 163), en P "crc32c" 408 (rv 171), en P "mask" 415 (rv 178), en P "checksum" 423 (rv 185), en P "HEADER" 427 (iv 7 426), en P "MAX_BLOCK" 429 (iv 65542 428), en P "ZERO" 431 (iv 0 430), en P "FULL" 433 (iv 1 432), en P "FIRST" 435 (iv 2 434), en P "MIDDLE" 437 (iv 3 436), en P "LAST" 439 (iv 4 438), en P "AT_END" 442 (iv (-1) 441), en P "BROKEN" 445 (iv (-2) 444), en P "check_block" 452 (rv 192), en P "check_kind" 459 (rv 199), en P "make_fragment" 470 (rv 206), en P "LogWriter" 535 (rv 244), en P "LogReader" 616 (rv 293), en P "read_all" 628 (rv 304), en P "read_prefix" 641 (rv 311), en P "STEP_CREATE" 645 (iv 1 644), en P "STEP_REMOVE" 647 (iv 2 646), en P "STEP_RENAME" 649 (iv 3 648), en P "Node" 696 (rv 342), en P "DirStep" 740 (rv 370), en P "File" 812 (rv 426), en P "Disk" 1023 (rv 587)] 54 }
noncomputable def o508 (P : Params) : Obj := fi (Value.none) #[iv 1 0, iv 0 0, rv 20, iv 5 0, iv 0 0, rv 27, iv 7 0, iv 0 0, rv 40, iv 9 0, iv 0 0, rv 52, iv 11 0, iv 0 0, rv 64, iv 13 0, iv 0 0, rv 76, iv 15 0, iv 0 0, rv 88, iv 17 0, iv 0 0, rv 100, iv 19 0, iv 0 0, rv 112, iv 21 0, iv 0 0, rv 124, iv 23 0, iv 0 0, rv 136, iv 31 0, iv 0 0, rv 148, iv 35 0, iv 0 0, rv 155, iv 39 0, iv 0 0, rv 162, iv 52 0, iv 0 0, rv 170, iv 60 0, iv 0 0, rv 177, iv 62 0, iv 0 0, rv 184, iv 78 0, iv 0 0, rv 191, iv 81 0, iv 0 0, rv 198, iv 84 0, iv 0 0, rv 205, iv 88 0, iv 0 0, rv 212, iv 126 0, iv 0 0, rv 254, iv 223 0, iv 0 0, rv 303, iv 231 0, iv 0 0, rv 310, iv 245 0, iv 0 0, rv 317, iv 257 0, iv 0 0, rv 352, iv 274 0, iv 0 0, rv 380, iv 309 0, iv 0 0, rv 436]
noncomputable def o509 (P : Params) : Obj := tu #[]
noncomputable def o510 (P : Params) : Obj := fi (tv "builtin_function_or_method") #[bv "type.__prepare__", tv "type"]
noncomputable def o511 (P : Params) : Obj := { cls := tv "dict", data := Data.dict #[en P "__module__" 820 (sv "raftkeep.files" 642), en P "__qualname__" 822 (sv "Disk" 821), en P "__firstlineno__" 824 (iv 309 823), en P "__init__" 832 (rv 444), en P "set_budget" 840 (rv 451), en P "check_alive" 847 (rv 458), en P "take_steps" 856 (rv 465), en P "one_step" 864 (rv 472), en P "node_of" 872 (rv 479), en P "dir_step" 880 (rv 486), en P "keep_creation" 891 (rv 493), en P "create" 899 (rv 500), en P "create_over" 908 (rv 507), en P "append_to" 916 (rv 514), en P "remove" 924 (rv 521), en P "rename" 933 (rv 528), en P "sync_dir" 943 (rv 535), en P "read" 951 (rv 542), en P "size" 959 (rv 549), en P "has" 967 (rv 556), en P "names" 974 (rv 563), en P "power_cut" 991 (rv 570), en P "copy" 998 (rv 577), en P "row" 1007 (rv 584), en P "__static_attributes__" 1016 (rv 585)] 25 }
noncomputable def o512 (P : Params) : Obj := tu #[]
noncomputable def o513 (P : Params) : Obj := fi (Value.none) #[iv 311 0, iv 4 0, rv 443, iv 323 0, iv 4 0, rv 450, iv 329 0, iv 4 0, rv 457, iv 333 0, iv 4 0, rv 464, iv 344 0, iv 4 0, rv 471, iv 348 0, iv 4 0, rv 478, iv 354 0, iv 4 0, rv 485, iv 358 0, iv 4 0, rv 492, iv 368 0, iv 4 0, rv 499, iv 374 0, iv 4 0, rv 506, iv 382 0, iv 4 0, rv 513, iv 385 0, iv 4 0, rv 520, iv 388 0, iv 4 0, rv 527, iv 393 0, iv 4 0, rv 534, iv 403 0, iv 4 0, rv 541, iv 406 0, iv 4 0, rv 548, iv 409 0, iv 4 0, rv 555, iv 413 0, iv 4 0, rv 562, iv 417 0, iv 4 0, rv 569, iv 437 0, iv 4 0, rv 576, iv 440 0, iv 4 0, rv 583]
noncomputable def o514 (P : Params) : Obj := fi (tv "code") #[sv "Disk" 815, sv "Disk" 816, sv "/claim/cut.py" 817, iv 309 0, iv 0 0, iv 0 0, iv 0 0, iv 0 0, rv 434, Value.bool false, iv 181 0, rv 435, Value.none, Value.none, Value.none, Value.none, iv 818 0, iv 309 0, sv "/claim/cut.py" 819]
noncomputable def o515 (P : Params) : Obj := { cls := tv "frame", slots := #[some (rv 436), some (rv 3), some (rv 433), none, some (sv "raftkeep.files" 642), none, some (rv 0)] }
noncomputable def o516 (P : Params) : Obj := tu #[]
noncomputable def o517 (P : Params) : Obj := fi (Value.none) #[]
noncomputable def o518 (P : Params) : Obj := tu #[sv "self" 828, sv "budget" 829]
noncomputable def o519 (P : Params) : Obj := tu #[]
noncomputable def o520 (P : Params) : Obj := fu (Value.none) (f48_0) "Disk.__init__" fun f => { f with globals := 0, closure := [], defaults := Value.none, kwdefaults := Value.none }
noncomputable def o521 (P : Params) : Obj := fi (tv "code") #[sv "__init__" 825, sv "Disk.__init__" 826, sv "/claim/cut.py" 827, iv 311 0, iv 2 0, iv 0 0, iv 0 0, iv 3 0, rv 438, Value.bool true, iv 181 0, rv 439, Value.none, rv 440, rv 441, rv 442, iv 830 0, iv 311 0, sv "/claim/cut.py" 831]
noncomputable def o522 (P : Params) : Obj := fu (tv "function") (f48_0) "Disk.__init__" fun f => { f with globals := 3, closure := [], defaults := Value.none, kwdefaults := Value.none, pyModule := sv "raftkeep.files" 642, code := rv 443 }
noncomputable def o523 (P : Params) : Obj := tu #[]
noncomputable def o524 (P : Params) : Obj := fi (Value.none) #[]
noncomputable def o525 (P : Params) : Obj := tu #[sv "self" 836, sv "budget" 837]
noncomputable def o526 (P : Params) : Obj := tu #[]
noncomputable def o527 (P : Params) : Obj := fu (Value.none) (f48_1) "Disk.set_budget" fun f => { f with globals := 0, closure := [], defaults := Value.none, kwdefaults := Value.none }
noncomputable def o528 (P : Params) : Obj := fi (tv "code") #[sv "set_budget" 833, sv "Disk.set_budget" 834, sv "/claim/cut.py" 835, iv 323 0, iv 2 0, iv 0 0, iv 0 0, iv 3 0, rv 445, Value.bool true, iv 181 0, rv 446, Value.none, rv 447, rv 448, rv 449, iv 838 0, iv 323 0, sv "/claim/cut.py" 839]
noncomputable def o529 (P : Params) : Obj := fu (tv "function") (f48_1) "Disk.set_budget" fun f => { f with globals := 3, closure := [], defaults := Value.none, kwdefaults := Value.none, pyModule := sv "raftkeep.files" 642, code := rv 450 }
noncomputable def o530 (P : Params) : Obj := tu #[]
noncomputable def o531 (P : Params) : Obj := fi (Value.none) #[]
noncomputable def o532 (P : Params) : Obj := tu #[sv "self" 844]
noncomputable def o533 (P : Params) : Obj := tu #[]
noncomputable def o534 (P : Params) : Obj := fu (Value.none) (f48_2) "Disk.check_alive" fun f => { f with globals := 0, closure := [], defaults := Value.none, kwdefaults := Value.none }
noncomputable def o535 (P : Params) : Obj := fi (tv "code") #[sv "check_alive" 841, sv "Disk.check_alive" 842, sv "/claim/cut.py" 843, iv 329 0, iv 1 0, iv 0 0, iv 0 0, iv 3 0, rv 452, Value.bool true, iv 181 0, rv 453, Value.none, rv 454, rv 455, rv 456, iv 845 0, iv 329 0, sv "/claim/cut.py" 846]
noncomputable def o536 (P : Params) : Obj := fu (tv "function") (f48_2) "Disk.check_alive" fun f => { f with globals := 3, closure := [], defaults := Value.none, kwdefaults := Value.none, pyModule := sv "raftkeep.files" 642, code := rv 457 }
noncomputable def o537 (P : Params) : Obj := tu #[]
noncomputable def o538 (P : Params) : Obj := fi (Value.none) #[]
noncomputable def o539 (P : Params) : Obj := tu #[sv "self" 851, sv "wanted" 852, sv "got" 853]
noncomputable def o540 (P : Params) : Obj := tu #[]
noncomputable def o541 (P : Params) : Obj := fu (Value.none) (f48_3) "Disk.take_steps" fun f => { f with globals := 0, closure := [], defaults := Value.none, kwdefaults := Value.none }
noncomputable def o542 (P : Params) : Obj := fi (tv "code") #[sv "take_steps" 848, sv "Disk.take_steps" 849, sv "/claim/cut.py" 850, iv 333 0, iv 2 0, iv 0 0, iv 0 0, iv 3 0, rv 459, Value.bool true, iv 181 0, rv 460, Value.none, rv 461, rv 462, rv 463, iv 854 0, iv 333 0, sv "/claim/cut.py" 855]
noncomputable def o543 (P : Params) : Obj := fu (tv "function") (f48_3) "Disk.take_steps" fun f => { f with globals := 3, closure := [], defaults := Value.none, kwdefaults := Value.none, pyModule := sv "raftkeep.files" 642, code := rv 464 }
noncomputable def o544 (P : Params) : Obj := tu #[]
noncomputable def o545 (P : Params) : Obj := fi (Value.none) #[]
noncomputable def o546 (P : Params) : Obj := tu #[sv "self" 860, sv "what" 861]
noncomputable def o547 (P : Params) : Obj := tu #[]
noncomputable def o548 (P : Params) : Obj := fu (Value.none) (f48_4) "Disk.one_step" fun f => { f with globals := 0, closure := [], defaults := Value.none, kwdefaults := Value.none }
noncomputable def o549 (P : Params) : Obj := fi (tv "code") #[sv "one_step" 857, sv "Disk.one_step" 858, sv "/claim/cut.py" 859, iv 344 0, iv 2 0, iv 0 0, iv 0 0, iv 3 0, rv 466, Value.bool true, iv 181 0, rv 467, Value.none, rv 468, rv 469, rv 470, iv 862 0, iv 344 0, sv "/claim/cut.py" 863]
noncomputable def o550 (P : Params) : Obj := fu (tv "function") (f48_4) "Disk.one_step" fun f => { f with globals := 3, closure := [], defaults := Value.none, kwdefaults := Value.none, pyModule := sv "raftkeep.files" 642, code := rv 471 }
noncomputable def o551 (P : Params) : Obj := tu #[]
noncomputable def o552 (P : Params) : Obj := fi (Value.none) #[]
noncomputable def o553 (P : Params) : Obj := tu #[sv "self" 868, sv "name" 869]
noncomputable def o554 (P : Params) : Obj := tu #[]
noncomputable def o555 (P : Params) : Obj := fu (Value.none) (f48_5) "Disk.node_of" fun f => { f with globals := 0, closure := [], defaults := Value.none, kwdefaults := Value.none }
noncomputable def o556 (P : Params) : Obj := fi (tv "code") #[sv "node_of" 865, sv "Disk.node_of" 866, sv "/claim/cut.py" 867, iv 348 0, iv 2 0, iv 0 0, iv 0 0, iv 3 0, rv 473, Value.bool true, iv 181 0, rv 474, Value.none, rv 475, rv 476, rv 477, iv 870 0, iv 348 0, sv "/claim/cut.py" 871]
noncomputable def o557 (P : Params) : Obj := fu (tv "function") (f48_5) "Disk.node_of" fun f => { f with globals := 3, closure := [], defaults := Value.none, kwdefaults := Value.none, pyModule := sv "raftkeep.files" 642, code := rv 478 }
noncomputable def o558 (P : Params) : Obj := tu #[]
noncomputable def o559 (P : Params) : Obj := fi (Value.none) #[]
noncomputable def o560 (P : Params) : Obj := tu #[sv "self" 876, sv "step" 877]
noncomputable def o561 (P : Params) : Obj := tu #[]
noncomputable def o562 (P : Params) : Obj := fu (Value.none) (f48_6) "Disk.dir_step" fun f => { f with globals := 0, closure := [], defaults := Value.none, kwdefaults := Value.none }
noncomputable def o563 (P : Params) : Obj := fi (tv "code") #[sv "dir_step" 873, sv "Disk.dir_step" 874, sv "/claim/cut.py" 875, iv 354 0, iv 2 0, iv 0 0, iv 0 0, iv 3 0, rv 480, Value.bool true, iv 181 0, rv 481, Value.none, rv 482, rv 483, rv 484, iv 878 0, iv 354 0, sv "/claim/cut.py" 879]
noncomputable def o564 (P : Params) : Obj := fu (tv "function") (f48_6) "Disk.dir_step" fun f => { f with globals := 3, closure := [], defaults := Value.none, kwdefaults := Value.none, pyModule := sv "raftkeep.files" 642, code := rv 485 }
noncomputable def o565 (P : Params) : Obj := tu #[]
noncomputable def o566 (P : Params) : Obj := fi (Value.none) #[]
noncomputable def o567 (P : Params) : Obj := tu #[sv "self" 884, sv "number" 885, sv "upto" 886, sv "at" 887, sv "step" 888]
noncomputable def o568 (P : Params) : Obj := tu #[]
noncomputable def o569 (P : Params) : Obj := fu (Value.none) (f48_7) "Disk.keep_creation" fun f => { f with globals := 0, closure := [], defaults := Value.none, kwdefaults := Value.none }
noncomputable def o570 (P : Params) : Obj := fi (tv "code") #[sv "keep_creation" 881, sv "Disk.keep_creation" 882, sv "/claim/cut.py" 883, iv 358 0, iv 2 0, iv 0 0, iv 0 0, iv 3 0, rv 487, Value.bool true, iv 181 0, rv 488, Value.none, rv 489, rv 490, rv 491, iv 889 0, iv 358 0, sv "/claim/cut.py" 890]
noncomputable def o571 (P : Params) : Obj := fu (tv "function") (f48_7) "Disk.keep_creation" fun f => { f with globals := 3, closure := [], defaults := Value.none, kwdefaults := Value.none, pyModule := sv "raftkeep.files" 642, code := rv 492 }
noncomputable def o572 (P : Params) : Obj := tu #[]
noncomputable def o573 (P : Params) : Obj := fi (Value.none) #[]
noncomputable def o574 (P : Params) : Obj := tu #[sv "self" 895, sv "name" 896]
noncomputable def o575 (P : Params) : Obj := tu #[]
noncomputable def o576 (P : Params) : Obj := fu (Value.none) (f48_8) "Disk.create" fun f => { f with globals := 0, closure := [], defaults := Value.none, kwdefaults := Value.none }
noncomputable def o577 (P : Params) : Obj := fi (tv "code") #[sv "create" 892, sv "Disk.create" 893, sv "/claim/cut.py" 894, iv 368 0, iv 2 0, iv 0 0, iv 0 0, iv 3 0, rv 494, Value.bool true, iv 181 0, rv 495, Value.none, rv 496, rv 497, rv 498, iv 897 0, iv 368 0, sv "/claim/cut.py" 898]
noncomputable def o578 (P : Params) : Obj := fu (tv "function") (f48_8) "Disk.create" fun f => { f with globals := 3, closure := [], defaults := Value.none, kwdefaults := Value.none, pyModule := sv "raftkeep.files" 642, code := rv 499 }
noncomputable def o579 (P : Params) : Obj := tu #[]
noncomputable def o580 (P : Params) : Obj := fi (Value.none) #[]
noncomputable def o581 (P : Params) : Obj := tu #[sv "self" 903, sv "name" 904, sv "node" 905]
noncomputable def o582 (P : Params) : Obj := tu #[]
noncomputable def o583 (P : Params) : Obj := fu (Value.none) (f48_9) "Disk.create_over" fun f => { f with globals := 0, closure := [], defaults := Value.none, kwdefaults := Value.none }
noncomputable def o584 (P : Params) : Obj := fi (tv "code") #[sv "create_over" 900, sv "Disk.create_over" 901, sv "/claim/cut.py" 902, iv 374 0, iv 2 0, iv 0 0, iv 0 0, iv 3 0, rv 501, Value.bool true, iv 181 0, rv 502, Value.none, rv 503, rv 504, rv 505, iv 906 0, iv 374 0, sv "/claim/cut.py" 907]
noncomputable def o585 (P : Params) : Obj := fu (tv "function") (f48_9) "Disk.create_over" fun f => { f with globals := 3, closure := [], defaults := Value.none, kwdefaults := Value.none, pyModule := sv "raftkeep.files" 642, code := rv 506 }
noncomputable def o586 (P : Params) : Obj := tu #[]
noncomputable def o587 (P : Params) : Obj := fi (Value.none) #[]
noncomputable def o588 (P : Params) : Obj := tu #[sv "self" 912, sv "name" 913]
noncomputable def o589 (P : Params) : Obj := tu #[]
noncomputable def o590 (P : Params) : Obj := fu (Value.none) (f48_10) "Disk.append_to" fun f => { f with globals := 0, closure := [], defaults := Value.none, kwdefaults := Value.none }
noncomputable def o591 (P : Params) : Obj := fi (tv "code") #[sv "append_to" 909, sv "Disk.append_to" 910, sv "/claim/cut.py" 911, iv 382 0, iv 2 0, iv 0 0, iv 0 0, iv 3 0, rv 508, Value.bool true, iv 181 0, rv 509, Value.none, rv 510, rv 511, rv 512, iv 914 0, iv 382 0, sv "/claim/cut.py" 915]
noncomputable def o592 (P : Params) : Obj := fu (tv "function") (f48_10) "Disk.append_to" fun f => { f with globals := 3, closure := [], defaults := Value.none, kwdefaults := Value.none, pyModule := sv "raftkeep.files" 642, code := rv 513 }
noncomputable def o593 (P : Params) : Obj := tu #[]
noncomputable def o594 (P : Params) : Obj := fi (Value.none) #[]
noncomputable def o595 (P : Params) : Obj := tu #[sv "self" 920, sv "name" 921]
noncomputable def o596 (P : Params) : Obj := tu #[]
noncomputable def o597 (P : Params) : Obj := fu (Value.none) (f48_11) "Disk.remove" fun f => { f with globals := 0, closure := [], defaults := Value.none, kwdefaults := Value.none }
noncomputable def o598 (P : Params) : Obj := fi (tv "code") #[sv "remove" 917, sv "Disk.remove" 918, sv "/claim/cut.py" 919, iv 385 0, iv 2 0, iv 0 0, iv 0 0, iv 3 0, rv 515, Value.bool true, iv 181 0, rv 516, Value.none, rv 517, rv 518, rv 519, iv 922 0, iv 385 0, sv "/claim/cut.py" 923]
noncomputable def o599 (P : Params) : Obj := fu (tv "function") (f48_11) "Disk.remove" fun f => { f with globals := 3, closure := [], defaults := Value.none, kwdefaults := Value.none, pyModule := sv "raftkeep.files" 642, code := rv 520 }
noncomputable def o600 (P : Params) : Obj := tu #[]
noncomputable def o601 (P : Params) : Obj := fi (Value.none) #[]
noncomputable def o602 (P : Params) : Obj := tu #[sv "self" 928, sv "old" 929, sv "new" 930]
noncomputable def o603 (P : Params) : Obj := tu #[]
noncomputable def o604 (P : Params) : Obj := fu (Value.none) (f48_12) "Disk.rename" fun f => { f with globals := 0, closure := [], defaults := Value.none, kwdefaults := Value.none }
noncomputable def o605 (P : Params) : Obj := fi (tv "code") #[sv "rename" 925, sv "Disk.rename" 926, sv "/claim/cut.py" 927, iv 388 0, iv 3 0, iv 0 0, iv 0 0, iv 3 0, rv 522, Value.bool true, iv 181 0, rv 523, Value.none, rv 524, rv 525, rv 526, iv 931 0, iv 388 0, sv "/claim/cut.py" 932]
noncomputable def o606 (P : Params) : Obj := fu (tv "function") (f48_12) "Disk.rename" fun f => { f with globals := 3, closure := [], defaults := Value.none, kwdefaults := Value.none, pyModule := sv "raftkeep.files" 642, code := rv 527 }
noncomputable def o607 (P : Params) : Obj := tu #[]
noncomputable def o608 (P : Params) : Obj := fi (Value.none) #[]
noncomputable def o609 (P : Params) : Obj := tu #[sv "self" 937, sv "living" 938, sv "name" 939, sv "number" 940]
noncomputable def o610 (P : Params) : Obj := tu #[]
noncomputable def o611 (P : Params) : Obj := fu (Value.none) (f48_13) "Disk.sync_dir" fun f => { f with globals := 0, closure := [], defaults := Value.none, kwdefaults := Value.none }
noncomputable def o612 (P : Params) : Obj := fi (tv "code") #[sv "sync_dir" 934, sv "Disk.sync_dir" 935, sv "/claim/cut.py" 936, iv 393 0, iv 1 0, iv 0 0, iv 0 0, iv 3 0, rv 529, Value.bool true, iv 181 0, rv 530, Value.none, rv 531, rv 532, rv 533, iv 941 0, iv 393 0, sv "/claim/cut.py" 942]
noncomputable def o613 (P : Params) : Obj := fu (tv "function") (f48_13) "Disk.sync_dir" fun f => { f with globals := 3, closure := [], defaults := Value.none, kwdefaults := Value.none, pyModule := sv "raftkeep.files" 642, code := rv 534 }
noncomputable def o614 (P : Params) : Obj := tu #[]
noncomputable def o615 (P : Params) : Obj := fi (Value.none) #[]
noncomputable def o616 (P : Params) : Obj := tu #[sv "self" 947, sv "name" 948]
noncomputable def o617 (P : Params) : Obj := tu #[]
noncomputable def o618 (P : Params) : Obj := fu (Value.none) (f48_14) "Disk.read" fun f => { f with globals := 0, closure := [], defaults := Value.none, kwdefaults := Value.none }
noncomputable def o619 (P : Params) : Obj := fi (tv "code") #[sv "read" 944, sv "Disk.read" 945, sv "/claim/cut.py" 946, iv 403 0, iv 2 0, iv 0 0, iv 0 0, iv 3 0, rv 536, Value.bool true, iv 181 0, rv 537, Value.none, rv 538, rv 539, rv 540, iv 949 0, iv 403 0, sv "/claim/cut.py" 950]
noncomputable def o620 (P : Params) : Obj := fu (tv "function") (f48_14) "Disk.read" fun f => { f with globals := 3, closure := [], defaults := Value.none, kwdefaults := Value.none, pyModule := sv "raftkeep.files" 642, code := rv 541 }
noncomputable def o621 (P : Params) : Obj := tu #[]
noncomputable def o622 (P : Params) : Obj := fi (Value.none) #[]
noncomputable def o623 (P : Params) : Obj := tu #[sv "self" 955, sv "name" 956]
noncomputable def o624 (P : Params) : Obj := tu #[]
noncomputable def o625 (P : Params) : Obj := fu (Value.none) (f48_15) "Disk.size" fun f => { f with globals := 0, closure := [], defaults := Value.none, kwdefaults := Value.none }
noncomputable def o626 (P : Params) : Obj := fi (tv "code") #[sv "size" 952, sv "Disk.size" 953, sv "/claim/cut.py" 954, iv 406 0, iv 2 0, iv 0 0, iv 0 0, iv 3 0, rv 543, Value.bool true, iv 181 0, rv 544, Value.none, rv 545, rv 546, rv 547, iv 957 0, iv 406 0, sv "/claim/cut.py" 958]
noncomputable def o627 (P : Params) : Obj := fu (tv "function") (f48_15) "Disk.size" fun f => { f with globals := 3, closure := [], defaults := Value.none, kwdefaults := Value.none, pyModule := sv "raftkeep.files" 642, code := rv 548 }
noncomputable def o628 (P : Params) : Obj := tu #[]
noncomputable def o629 (P : Params) : Obj := fi (Value.none) #[]
noncomputable def o630 (P : Params) : Obj := tu #[sv "self" 963, sv "name" 964]
noncomputable def o631 (P : Params) : Obj := tu #[]
noncomputable def o632 (P : Params) : Obj := fu (Value.none) (f48_16) "Disk.has" fun f => { f with globals := 0, closure := [], defaults := Value.none, kwdefaults := Value.none }
noncomputable def o633 (P : Params) : Obj := fi (tv "code") #[sv "has" 960, sv "Disk.has" 961, sv "/claim/cut.py" 962, iv 409 0, iv 2 0, iv 0 0, iv 0 0, iv 3 0, rv 550, Value.bool true, iv 181 0, rv 551, Value.none, rv 552, rv 553, rv 554, iv 965 0, iv 409 0, sv "/claim/cut.py" 966]
noncomputable def o634 (P : Params) : Obj := fu (tv "function") (f48_16) "Disk.has" fun f => { f with globals := 3, closure := [], defaults := Value.none, kwdefaults := Value.none, pyModule := sv "raftkeep.files" 642, code := rv 555 }
noncomputable def o635 (P : Params) : Obj := tu #[]
noncomputable def o636 (P : Params) : Obj := fi (Value.none) #[]
noncomputable def o637 (P : Params) : Obj := tu #[sv "self" 971]
noncomputable def o638 (P : Params) : Obj := tu #[]
noncomputable def o639 (P : Params) : Obj := fu (Value.none) (f48_17) "Disk.names" fun f => { f with globals := 0, closure := [], defaults := Value.none, kwdefaults := Value.none }
noncomputable def o640 (P : Params) : Obj := fi (tv "code") #[sv "names" 968, sv "Disk.names" 969, sv "/claim/cut.py" 970, iv 413 0, iv 1 0, iv 0 0, iv 0 0, iv 3 0, rv 557, Value.bool true, iv 181 0, rv 558, Value.none, rv 559, rv 560, rv 561, iv 972 0, iv 413 0, sv "/claim/cut.py" 973]
noncomputable def o641 (P : Params) : Obj := fu (tv "function") (f48_17) "Disk.names" fun f => { f with globals := 3, closure := [], defaults := Value.none, kwdefaults := Value.none, pyModule := sv "raftkeep.files" 642, code := rv 562 }
noncomputable def o642 (P : Params) : Obj := tu #[]
noncomputable def o643 (P : Params) : Obj := fi (Value.none) #[]
noncomputable def o644 (P : Params) : Obj := tu #[sv "self" 978, sv "picks" 979, sv "row" 980, sv "directory" 981, sv "happened" 982, sv "step" 983, sv "after" 984, sv "place" 985, sv "name" 986, sv "node" 987, sv "length" 988]
noncomputable def o645 (P : Params) : Obj := tu #[]
noncomputable def o646 (P : Params) : Obj := fu (Value.none) (f48_18) "Disk.power_cut" fun f => { f with globals := 0, closure := [], defaults := Value.none, kwdefaults := Value.none }
noncomputable def o647 (P : Params) : Obj := fi (tv "code") #[sv "power_cut" 975, sv "Disk.power_cut" 976, sv "/claim/cut.py" 977, iv 417 0, iv 2 0, iv 0 0, iv 0 0, iv 3 0, rv 564, Value.bool true, iv 181 0, rv 565, Value.none, rv 566, rv 567, rv 568, iv 989 0, iv 417 0, sv "/claim/cut.py" 990]
noncomputable def o648 (P : Params) : Obj := fu (tv "function") (f48_18) "Disk.power_cut" fun f => { f with globals := 3, closure := [], defaults := Value.none, kwdefaults := Value.none, pyModule := sv "raftkeep.files" 642, code := rv 569 }
noncomputable def o649 (P : Params) : Obj := tu #[]
noncomputable def o650 (P : Params) : Obj := fi (Value.none) #[]
noncomputable def o651 (P : Params) : Obj := tu #[sv "self" 995]
noncomputable def o652 (P : Params) : Obj := tu #[]
noncomputable def o653 (P : Params) : Obj := fu (Value.none) (f48_19) "Disk.copy" fun f => { f with globals := 0, closure := [], defaults := Value.none, kwdefaults := Value.none }
noncomputable def o654 (P : Params) : Obj := fi (tv "code") #[sv "copy" 992, sv "Disk.copy" 993, sv "/claim/cut.py" 994, iv 437 0, iv 1 0, iv 0 0, iv 0 0, iv 3 0, rv 571, Value.bool true, iv 181 0, rv 572, Value.none, rv 573, rv 574, rv 575, iv 996 0, iv 437 0, sv "/claim/cut.py" 997]
noncomputable def o655 (P : Params) : Obj := fu (tv "function") (f48_19) "Disk.copy" fun f => { f with globals := 3, closure := [], defaults := Value.none, kwdefaults := Value.none, pyModule := sv "raftkeep.files" 642, code := rv 576 }
noncomputable def o656 (P : Params) : Obj := tu #[]
noncomputable def o657 (P : Params) : Obj := fi (Value.none) #[]
noncomputable def o658 (P : Params) : Obj := tu #[sv "self" 1002, sv "rows" 1003, sv "name" 1004]
noncomputable def o659 (P : Params) : Obj := tu #[]
noncomputable def o660 (P : Params) : Obj := fu (Value.none) (f48_20) "Disk.row" fun f => { f with globals := 0, closure := [], defaults := Value.none, kwdefaults := Value.none }
noncomputable def o661 (P : Params) : Obj := fi (tv "code") #[sv "row" 999, sv "Disk.row" 1000, sv "/claim/cut.py" 1001, iv 440 0, iv 1 0, iv 0 0, iv 0 0, iv 3 0, rv 578, Value.bool true, iv 181 0, rv 579, Value.none, rv 580, rv 581, rv 582, iv 1005 0, iv 440 0, sv "/claim/cut.py" 1006]
noncomputable def o662 (P : Params) : Obj := fu (tv "function") (f48_20) "Disk.row" fun f => { f with globals := 3, closure := [], defaults := Value.none, kwdefaults := Value.none, pyModule := sv "raftkeep.files" 642, code := rv 583 }
noncomputable def o663 (P : Params) : Obj := tu #[sv "alive" 1008, sv "journal" 1009, sv "kept_names" 1010, sv "left" 1011, sv "made" 1012, sv "nodes" 1013, sv "present" 1014, sv "spent" 1015]
noncomputable def o664 (P : Params) : Obj := { cls := tv "dict", data := Data.dict #[en P "__module__" 820 (sv "raftkeep.files" 642), en P "__firstlineno__" 824 (iv 309 823), en P "__init__" 832 (rv 444), en P "set_budget" 840 (rv 451), en P "check_alive" 847 (rv 458), en P "take_steps" 856 (rv 465), en P "one_step" 864 (rv 472), en P "node_of" 872 (rv 479), en P "dir_step" 880 (rv 486), en P "keep_creation" 891 (rv 493), en P "create" 899 (rv 500), en P "create_over" 908 (rv 507), en P "append_to" 916 (rv 514), en P "remove" 924 (rv 521), en P "rename" 933 (rv 528), en P "sync_dir" 943 (rv 535), en P "read" 951 (rv 542), en P "size" 959 (rv 549), en P "has" 967 (rv 556), en P "names" 974 (rv 563), en P "power_cut" 991 (rv 570), en P "copy" 998 (rv 577), en P "row" 1007 (rv 584), en P "__static_attributes__" 1016 (rv 585), en P "__dict__" 1018 (rv 588), en P "__weakref__" 1020 (rv 589), en P "__doc__" 1021 (Value.none)] 4 }
noncomputable def o665 (P : Params) : Obj := { cls := tv "type", data := Data.cls { name := Str.ofString "Disk", bases := [tv "object"], mro := [rv 587, tv "object"], ns := 586, qualname := Str.ofString "Disk" }, slots := #[none, none, some (sv "Disk" 813), some (sv "Disk" 821), some (bv "object.__new__"), some (Value.bool true)] }
noncomputable def o666 (P : Params) : Obj := fi (tv "getset_descriptor") #[sv "__dict__" 1017, rv 587, bv "function.__dict__", bv "function.__dict__#set"]
noncomputable def o667 (P : Params) : Obj := fi (tv "getset_descriptor") #[sv "__weakref__" 1019, rv 587, bv "ExceptionGroup.__weakref__", Value.none]
noncomputable def o668 (P : Params) : Obj := fi (tv "super") #[rv 587, rv 587, rv 587]
noncomputable def o669 (P : Params) : Obj := fi (tv "builtin_function_or_method") #[bv "object.__init_subclass__", rv 587]
noncomputable def o758 (P : Params) : Obj := { cls := tv "dict", data := Data.dict #[en P "__name__" 165 (sv "law_xm0852_01" 1024), en P "__doc__" 166 (Value.none), en P "__package__" 167 (Value.none), en P "__loader__" 168 (bv "__main__.__loader__#opaque"), en P "__spec__" 169 (Value.none), en P "__annotations__" 170 (rv 6), en P "__builtins__" 171 (rv 4), en P "__file__" 173 (sv "/claim/cut.py" 172), en P "__cached__" 174 (Value.none), en P "_wall" 193 (rv 21), en P "KeepError" 215 (rv 31), en P "StoreError" 231 (rv 44), en P "Corrupt" 247 (rv 56), en P "ShortOctets" 263 (rv 68), en P "BadOption" 279 (rv 80), en P "DiskError" 295 (rv 92), en P "NoSuchFile" 311 (rv 104), en P "FileThere" 327 (rv 116), en P "DiskDead" 343 (rv 128), en P "BadHandle" 359 (rv 140), en P "MAX_32" 363 (iv 4294967295 362), en P "CHECK_CRC" 365 (iv 1 364), en P "CHECK_SUM" 367 (iv 2 366), en P "CRC_POLY" 369 (iv 2197175160 368), en P "MASK_DELTA" 371 (iv 2726488792 370), en P "put_fixed32" 378 (rv 149), en P "read_fixed32" 386 (rv 156), en P "make_crc_table" 396 (rv 163), en P "crc32c" 408 (rv 171), en P "mask" 415 (rv 178), en P "checksum" 423 (rv 185), en P "HEADER" 427 (iv 7 426), en P "MAX_BLOCK" 429 (iv 65542 428), en P "ZERO" 431 (iv 0 430), en P "FULL" 433 (iv 1 432), en P "FIRST" 435 (iv 2 434), en P "MIDDLE" 437 (iv 3 436), en P "LAST" 439 (iv 4 438), en P "AT_END" 442 (iv (-1) 441), en P "BROKEN" 445 (iv (-2) 444), en P "check_block" 452 (rv 192), en P "check_kind" 459 (rv 199), en P "make_fragment" 470 (rv 206), en P "LogWriter" 535 (rv 244), en P "LogReader" 616 (rv 293), en P "read_all" 628 (rv 304), en P "read_prefix" 641 (rv 311), en P "STEP_CREATE" 645 (iv 1 644), en P "STEP_REMOVE" 647 (iv 2 646), en P "STEP_RENAME" 649 (iv 3 648), en P "Node" 696 (rv 342), en P "DirStep" 740 (rv 370), en P "File" 812 (rv 426), en P "Disk" 1023 (rv 587), en P "_law_draw" 1033 (rv 598), en P "_law_check" 1044 (rv 605), en P "_law_laid" 1063 (rv 612), en P "_law_record" 1069 (rv 617), en P "_law_refused" 1078 (rv 624), en P "_law_dies" 1087 (rv 631), en P "law" 1093 (rv 636)] 61 }
noncomputable def o759 (P : Params) : Obj := fi (Value.none) #[iv 1 0, iv 0 0, rv 20, iv 5 0, iv 0 0, rv 27, iv 7 0, iv 0 0, rv 40, iv 9 0, iv 0 0, rv 52, iv 11 0, iv 0 0, rv 64, iv 13 0, iv 0 0, rv 76, iv 15 0, iv 0 0, rv 88, iv 17 0, iv 0 0, rv 100, iv 19 0, iv 0 0, rv 112, iv 21 0, iv 0 0, rv 124, iv 23 0, iv 0 0, rv 136, iv 31 0, iv 0 0, rv 148, iv 35 0, iv 0 0, rv 155, iv 39 0, iv 0 0, rv 162, iv 52 0, iv 0 0, rv 170, iv 60 0, iv 0 0, rv 177, iv 62 0, iv 0 0, rv 184, iv 78 0, iv 0 0, rv 191, iv 81 0, iv 0 0, rv 198, iv 84 0, iv 0 0, rv 205, iv 88 0, iv 0 0, rv 212, iv 126 0, iv 0 0, rv 254, iv 223 0, iv 0 0, rv 303, iv 231 0, iv 0 0, rv 310, iv 245 0, iv 0 0, rv 317, iv 257 0, iv 0 0, rv 352, iv 274 0, iv 0 0, rv 380, iv 309 0, iv 0 0, rv 436, iv 446 0, iv 0 0, rv 597, iv 448 0, iv 0 0, rv 604, iv 458 0, iv 0 0, rv 611, iv 482 0, iv 0 0, rv 616, iv 487 0, iv 0 0, rv 623, iv 498 0, iv 0 0, rv 630, iv 507 0, iv 0 0, rv 635]
noncomputable def o760 (P : Params) : Obj := tu #[]
noncomputable def o761 (P : Params) : Obj := fi (Value.none) #[]
noncomputable def o762 (P : Params) : Obj := tu #[sv "nums" 1029, sv "i" 1030]
noncomputable def o763 (P : Params) : Obj := tu #[]
noncomputable def o764 (P : Params) : Obj := fu (Value.none) (f50) "_law_draw" fun f => { f with globals := 0, closure := [], defaults := Value.none, kwdefaults := Value.none }
noncomputable def o765 (P : Params) : Obj := fi (tv "code") #[sv "_law_draw" 1026, sv "_law_draw" 1027, sv "/claim/cut.py" 1028, iv 446 0, iv 2 0, iv 0 0, iv 0 0, iv 3 0, rv 592, Value.bool true, iv 181 0, rv 593, Value.none, rv 594, rv 595, rv 596, iv 1031 0, iv 446 0, sv "/claim/cut.py" 1032]
noncomputable def o766 (P : Params) : Obj := fu (tv "function") (f50) "_law_draw" fun f => { f with globals := 3, closure := [], defaults := Value.none, kwdefaults := Value.none, pyModule := sv "law_xm0852_01" 1024, code := rv 597 }
noncomputable def o767 (P : Params) : Obj := tu #[]
noncomputable def o768 (P : Params) : Obj := fi (Value.none) #[]
noncomputable def o769 (P : Params) : Obj := tu #[sv "check" 1037, sv "body" 1038, sv "rest" 1039, sv "one" 1040, sv "turn" 1041]
noncomputable def o770 (P : Params) : Obj := tu #[]
noncomputable def o771 (P : Params) : Obj := fu (Value.none) (f51) "_law_check" fun f => { f with globals := 0, closure := [], defaults := Value.none, kwdefaults := Value.none }
noncomputable def o772 (P : Params) : Obj := fi (tv "code") #[sv "_law_check" 1034, sv "_law_check" 1035, sv "/claim/cut.py" 1036, iv 448 0, iv 2 0, iv 0 0, iv 0 0, iv 3 0, rv 599, Value.bool true, iv 181 0, rv 600, Value.none, rv 601, rv 602, rv 603, iv 1042 0, iv 448 0, sv "/claim/cut.py" 1043]
noncomputable def o773 (P : Params) : Obj := fu (tv "function") (f51) "_law_check" fun f => { f with globals := 3, closure := [], defaults := Value.none, kwdefaults := Value.none, pyModule := sv "law_xm0852_01" 1024, code := rv 604 }
noncomputable def o774 (P : Params) : Obj := tu #[]
noncomputable def o775 (P : Params) : Obj := fi (Value.none) #[]
noncomputable def o776 (P : Params) : Obj := tu #[sv "length" 1048, sv "record" 1049, sv "block" 1050, sv "check" 1051, sv "out" 1052, sv "room" 1053, sv "parts" 1054, sv "rest" 1055, sv "i" 1056, sv "kind" 1057, sv "body" 1058, sv "told" 1059, sv "head" 1060]
noncomputable def o777 (P : Params) : Obj := tu #[]
noncomputable def o778 (P : Params) : Obj := fu (Value.none) (f52) "_law_laid" fun f => { f with globals := 0, closure := [], defaults := Value.none, kwdefaults := Value.none }
noncomputable def o779 (P : Params) : Obj := fi (tv "code") #[sv "_law_laid" 1045, sv "_law_laid" 1046, sv "/claim/cut.py" 1047, iv 458 0, iv 4 0, iv 0 0, iv 0 0, iv 3 0, rv 606, Value.bool true, iv 181 0, rv 607, Value.none, rv 608, rv 609, rv 610, iv 1061 0, iv 458 0, sv "/claim/cut.py" 1062]
noncomputable def o780 (P : Params) : Obj := fu (tv "function") (f52) "_law_laid" fun f => { f with globals := 3, closure := [], defaults := Value.none, kwdefaults := Value.none, pyModule := sv "law_xm0852_01" 1024, code := rv 611 }
noncomputable def o781 (P : Params) : Obj := tu #[]
noncomputable def o782 (P : Params) : Obj := fi (Value.none) #[]
noncomputable def o783 (P : Params) : Obj := fu (Value.none) (f53) "_law_record" fun f => { f with globals := 0, closure := [], defaults := Value.none, kwdefaults := Value.none }
noncomputable def o784 (P : Params) : Obj := fi (tv "code") #[sv "_law_record" 1064, sv "_law_record" 1065, sv "/claim/cut.py" 1066, iv 482 0, iv 3 0, iv 0 0, iv 0 0, iv 3 0, rv 613, Value.bool true, iv 181 0, rv 614, Value.none, Value.none, Value.none, rv 615, iv 1067 0, iv 482 0, sv "/claim/cut.py" 1068]
noncomputable def o785 (P : Params) : Obj := fu (tv "function") (f53) "_law_record" fun f => { f with globals := 3, closure := [], defaults := Value.none, kwdefaults := Value.none, pyModule := sv "law_xm0852_01" 1024, code := rv 616 }
noncomputable def o786 (P : Params) : Obj := tu #[]
noncomputable def o787 (P : Params) : Obj := fi (Value.none) #[]
noncomputable def o788 (P : Params) : Obj := tu #[sv "writer" 1073, sv "record" 1074, sv "count" 1075]
noncomputable def o789 (P : Params) : Obj := tu #[]
noncomputable def o790 (P : Params) : Obj := fu (Value.none) (f54) "_law_refused" fun f => { f with globals := 0, closure := [], defaults := Value.none, kwdefaults := Value.none }
noncomputable def o791 (P : Params) : Obj := fi (tv "code") #[sv "_law_refused" 1070, sv "_law_refused" 1071, sv "/claim/cut.py" 1072, iv 487 0, iv 2 0, iv 0 0, iv 0 0, iv 3 0, rv 618, Value.bool true, iv 181 0, rv 619, Value.none, rv 620, rv 621, rv 622, iv 1076 0, iv 487 0, sv "/claim/cut.py" 1077]
noncomputable def o792 (P : Params) : Obj := fu (tv "function") (f54) "_law_refused" fun f => { f with globals := 3, closure := [], defaults := Value.none, kwdefaults := Value.none, pyModule := sv "law_xm0852_01" 1024, code := rv 623 }
noncomputable def o793 (P : Params) : Obj := tu #[]
noncomputable def o794 (P : Params) : Obj := fi (Value.none) #[]
noncomputable def o795 (P : Params) : Obj := tu #[sv "writer" 1082, sv "record" 1083, sv "came" 1084]
noncomputable def o796 (P : Params) : Obj := tu #[]
noncomputable def o797 (P : Params) : Obj := fu (Value.none) (f55) "_law_dies" fun f => { f with globals := 0, closure := [], defaults := Value.none, kwdefaults := Value.none }
noncomputable def o798 (P : Params) : Obj := fi (tv "code") #[sv "_law_dies" 1079, sv "_law_dies" 1080, sv "/claim/cut.py" 1081, iv 498 0, iv 2 0, iv 0 0, iv 0 0, iv 3 0, rv 625, Value.bool true, iv 181 0, rv 626, Value.none, rv 627, rv 628, rv 629, iv 1085 0, iv 498 0, sv "/claim/cut.py" 1086]
noncomputable def o799 (P : Params) : Obj := fu (tv "function") (f55) "_law_dies" fun f => { f with globals := 3, closure := [], defaults := Value.none, kwdefaults := Value.none, pyModule := sv "law_xm0852_01" 1024, code := rv 630 }
noncomputable def o800 (P : Params) : Obj := tu #[]
noncomputable def o801 (P : Params) : Obj := fi (Value.none) #[]
noncomputable def o802 (P : Params) : Obj := fu (Value.none) (f56) "law" fun f => { f with globals := 0, closure := [], defaults := Value.none, kwdefaults := Value.none }
noncomputable def o803 (P : Params) : Obj := fi (tv "code") #[sv "law" 1088, sv "law" 1089, sv "/claim/cut.py" 1090, iv 507 0, iv 1 0, iv 0 0, iv 0 0, iv 3 0, rv 632, Value.bool true, iv 181 0, rv 633, Value.none, Value.none, Value.none, rv 634, iv 1091 0, iv 507 0, sv "/claim/cut.py" 1092]
noncomputable def o804 (P : Params) : Obj := fu (tv "function") (f56) "law" fun f => { f with globals := 3, closure := [], defaults := Value.none, kwdefaults := Value.none, pyModule := sv "law_xm0852_01" 1024, code := rv 635 }
noncomputable def l47 (P : Params) : List Obj := [boot_o_0 P, boot_o_1 P, boot_o_2 P, boot_o_3 P, boot_o_4 P, boot_o_5 P, boot_o_6 P, boot_o_7 P, boot_o_8 P, boot_o_9 P, boot_o_10 P, o43 P, o44 P, o45 P, o46 P]
noncomputable def l71 (P : Params) : List Obj := up (l47 P) [(2, o49 P), (3, o50 P), (12, o51 P)] ++ [o52 P, o53 P, o54 P, o55 P, o56 P, o57 P, o58 P, o59 P, o60 P, o61 P, o62 P, o63 P, o64 P, o65 P, o66 P, o67 P, o68 P, o69 P, o70 P, o71 P]
noncomputable def l86 (P : Params) : List Obj := up (l71 P) [(3, o72 P), (12, o73 P), (31, o74 P)] ++ [o75 P, o76 P, o77 P, o78 P, o79 P, o80 P, o81 P, o82 P, o83 P, o84 P, o85 P, o86 P]
noncomputable def l101 (P : Params) : List Obj := up (l86 P) [(3, o87 P), (12, o88 P), (44, o89 P)] ++ [o90 P, o91 P, o92 P, o93 P, o94 P, o95 P, o96 P, o97 P, o98 P, o99 P, o100 P, o101 P]
noncomputable def l116 (P : Params) : List Obj := up (l101 P) [(3, o102 P), (12, o103 P), (56, o104 P)] ++ [o105 P, o106 P, o107 P, o108 P, o109 P, o110 P, o111 P, o112 P, o113 P, o114 P, o115 P, o116 P]
noncomputable def l131 (P : Params) : List Obj := up (l116 P) [(3, o117 P), (12, o118 P), (44, o119 P)] ++ [o120 P, o121 P, o122 P, o123 P, o124 P, o125 P, o126 P, o127 P, o128 P, o129 P, o130 P, o131 P]
noncomputable def l146 (P : Params) : List Obj := up (l131 P) [(3, o132 P), (12, o133 P), (31, o134 P)] ++ [o135 P, o136 P, o137 P, o138 P, o139 P, o140 P, o141 P, o142 P, o143 P, o144 P, o145 P, o146 P]
noncomputable def l161 (P : Params) : List Obj := up (l146 P) [(3, o147 P), (12, o148 P), (92, o149 P)] ++ [o150 P, o151 P, o152 P, o153 P, o154 P, o155 P, o156 P, o157 P, o158 P, o159 P, o160 P, o161 P]
noncomputable def l176 (P : Params) : List Obj := up (l161 P) [(3, o162 P), (12, o163 P), (92, o164 P)] ++ [o165 P, o166 P, o167 P, o168 P, o169 P, o170 P, o171 P, o172 P, o173 P, o174 P, o175 P, o176 P]
noncomputable def l191 (P : Params) : List Obj := up (l176 P) [(3, o177 P), (12, o178 P), (92, o179 P)] ++ [o180 P, o181 P, o182 P, o183 P, o184 P, o185 P, o186 P, o187 P, o188 P, o189 P, o190 P, o191 P]
noncomputable def l227 (P : Params) : List Obj := up (l191 P) [(3, o192 P), (12, o193 P), (92, o194 P)] ++ [o195 P, o196 P, o197 P, o198 P, o199 P, o200 P, o201 P, o202 P, o203 P, o204 P, o205 P, o206 P, o207 P, o208 P, o209 P, o210 P, o211 P, o212 P, o213 P, o214 P, o215 P, o216 P, o217 P, o218 P, o219 P, o220 P, o221 P, o222 P, o223 P, o224 P, o225 P, o226 P, o227 P]
noncomputable def l272 (P : Params) : List Obj := up (l227 P) [(3, o228 P), (12, o229 P)] ++ [o230 P, o231 P, o232 P, o233 P, o234 P, o235 P, o236 P, o237 P, o238 P, o239 P, o240 P, o241 P, o242 P, o243 P, o244 P, o245 P, o246 P, o247 P, o248 P, o249 P, o250 P, o251 P, o252 P, o253 P, o254 P, o255 P, o256 P, o257 P, o258 P, o259 P, o260 P, o261 P, o262 P, o263 P, o264 P, o265 P, o266 P, o267 P, o268 P, o269 P, o270 P, o271 P, o272 P]
noncomputable def l316 (P : Params) : List Obj := up (l272 P) [(3, o273 P), (12, o274 P)] ++ [o275 P, o276 P, o277 P, o278 P, o279 P, o280 P, o281 P, o282 P, o283 P, o284 P, o285 P, o286 P, o287 P, o288 P, o289 P, o290 P, o291 P, o292 P, o293 P, o294 P, o295 P, o296 P, o297 P, o298 P, o299 P, o300 P, o301 P, o302 P, o303 P, o304 P, o305 P, o306 P, o307 P, o308 P, o309 P, o310 P, o311 P, o312 P, o313 P, o314 P, o315 P, o316 P]
noncomputable def l367 (P : Params) : List Obj := up (l316 P) [(3, o317 P), (12, o318 P)] ++ [o319 P, o320 P, o321 P, o322 P, o323 P, o324 P, o325 P, o326 P, o327 P, o328 P, o329 P, o330 P, o331 P, o332 P, o333 P, o334 P, o335 P, o336 P, o337 P, o338 P, o339 P, o340 P, o341 P, o342 P, o343 P, o344 P, o345 P, o346 P, o347 P, o348 P, o349 P, o350 P, o351 P, o352 P, o353 P, o354 P, o355 P, o356 P, o357 P, o358 P, o359 P, o360 P, o361 P, o362 P, o363 P, o364 P, o365 P, o366 P, o367 P]
noncomputable def l418 (P : Params) : List Obj := up (l367 P) [(3, o368 P), (12, o369 P)] ++ [o370 P, o371 P, o372 P, o373 P, o374 P, o375 P, o376 P, o377 P, o378 P, o379 P, o380 P, o381 P, o382 P, o383 P, o384 P, o385 P, o386 P, o387 P, o388 P, o389 P, o390 P, o391 P, o392 P, o393 P, o394 P, o395 P, o396 P, o397 P, o398 P, o399 P, o400 P, o401 P, o402 P, o403 P, o404 P, o405 P, o406 P, o407 P, o408 P, o409 P, o410 P, o411 P, o412 P, o413 P, o414 P, o415 P, o416 P, o417 P, o418 P]
noncomputable def l448 (P : Params) : List Obj := up (l418 P) [(3, o419 P), (12, o420 P)] ++ [o421 P, o422 P, o423 P, o424 P, o425 P, o426 P, o427 P, o428 P, o429 P, o430 P, o431 P, o432 P, o433 P, o434 P, o435 P, o436 P, o437 P, o438 P, o439 P, o440 P, o441 P, o442 P, o443 P, o444 P, o445 P, o446 P, o447 P, o448 P]
noncomputable def l506 (P : Params) : List Obj := up (l448 P) [(3, o449 P), (12, o450 P)] ++ [o451 P, o452 P, o453 P, o454 P, o455 P, o456 P, o457 P, o458 P, o459 P, o460 P, o461 P, o462 P, o463 P, o464 P, o465 P, o466 P, o467 P, o468 P, o469 P, o470 P, o471 P, o472 P, o473 P, o474 P, o475 P, o476 P, o477 P, o478 P, o479 P, o480 P, o481 P, o482 P, o483 P, o484 P, o485 P, o486 P, o487 P, o488 P, o489 P, o490 P, o491 P, o492 P, o493 P, o494 P, o495 P, o496 P, o497 P, o498 P, o499 P, o500 P, o501 P, o502 P, o503 P, o504 P, o505 P, o506 P]
noncomputable def l669 (P : Params) : List Obj := up (l506 P) [(3, o507 P), (12, o508 P)] ++ [o509 P, o510 P, o511 P, o512 P, o513 P, o514 P, o515 P, o516 P, o517 P, o518 P, o519 P, o520 P, o521 P, o522 P, o523 P, o524 P, o525 P, o526 P, o527 P, o528 P, o529 P, o530 P, o531 P, o532 P, o533 P, o534 P, o535 P, o536 P, o537 P, o538 P, o539 P, o540 P, o541 P, o542 P, o543 P, o544 P, o545 P, o546 P, o547 P, o548 P, o549 P, o550 P, o551 P, o552 P, o553 P, o554 P, o555 P, o556 P, o557 P, o558 P, o559 P, o560 P, o561 P, o562 P, o563 P, o564 P, o565 P, o566 P, o567 P, o568 P, o569 P, o570 P, o571 P, o572 P, o573 P, o574 P, o575 P, o576 P, o577 P, o578 P, o579 P, o580 P, o581 P, o582 P, o583 P, o584 P, o585 P, o586 P, o587 P, o588 P, o589 P, o590 P, o591 P, o592 P, o593 P, o594 P, o595 P, o596 P, o597 P, o598 P, o599 P, o600 P, o601 P, o602 P, o603 P, o604 P, o605 P, o606 P, o607 P, o608 P, o609 P, o610 P, o611 P, o612 P, o613 P, o614 P, o615 P, o616 P, o617 P, o618 P, o619 P, o620 P, o621 P, o622 P, o623 P, o624 P, o625 P, o626 P, o627 P, o628 P, o629 P, o630 P, o631 P, o632 P, o633 P, o634 P, o635 P, o636 P, o637 P, o638 P, o639 P, o640 P, o641 P, o642 P, o643 P, o644 P, o645 P, o646 P, o647 P, o648 P, o649 P, o650 P, o651 P, o652 P, o653 P, o654 P, o655 P, o656 P, o657 P, o658 P, o659 P, o660 P, o661 P, o662 P, o663 P, o664 P, o665 P, o666 P, o667 P, o668 P, o669 P]
noncomputable def l804 (P : Params) : List Obj := up (l669 P) [(3, o758 P), (12, o759 P)] ++ [o760 P, o761 P, o762 P, o763 P, o764 P, o765 P, o766 P, o767 P, o768 P, o769 P, o770 P, o771 P, o772 P, o773 P, o774 P, o775 P, o776 P, o777 P, o778 P, o779 P, o780 P, o781 P, o782 P, o783 P, o784 P, o785 P, o786 P, o787 P, o788 P, o789 P, o790 P, o791 P, o792 P, o793 P, o794 P, o795 P, o796 P, o797 P, o798 P, o799 P, o800 P, o801 P, o802 P, o803 P, o804 P]
noncomputable def asH : List Addr := [2, 3, 15, 17, 18, 20, 21, 22, 29, 30, 31, 32, 35, 42, 43, 44, 47, 54, 55, 56, 59, 66, 67, 68, 71, 78, 79, 80, 83, 90, 91, 92, 95, 102, 103, 104, 107, 114, 115, 116, 119, 126, 127, 128, 131, 138, 139, 140, 143, 145, 146, 148, 149, 150, 152, 153, 155, 156, 157, 159, 160, 162, 163, 164, 165, 167, 168, 170, 171, 172, 174, 175, 177, 178, 179, 181, 182, 184, 185, 186, 188, 189, 191, 192, 193, 195, 196, 198, 199, 200, 202, 203, 205, 206, 214, 216, 217, 219, 220, 221, 223, 224, 226, 227, 228, 230, 231, 233, 234, 235, 237, 238, 240, 241, 242, 243, 244, 245, 246, 256, 258, 259, 261, 262, 263, 265, 266, 268, 269, 270, 272, 273, 275, 276, 277, 279, 280, 282, 283, 284, 286, 287, 289, 290, 291, 292, 293, 294, 295, 298, 300, 301, 303, 304, 305, 307, 308, 310, 311, 319, 321, 322, 324, 325, 326, 328, 329, 331, 332, 333, 335, 336, 338, 339, 340, 341, 342, 343, 344, 354, 356, 357, 359, 360, 361, 363, 364, 366, 367, 368, 369, 370, 371, 372, 382, 384, 385, 387, 388, 389, 391, 392, 394, 395, 396, 398, 399, 401, 402, 403, 405, 406, 408, 409, 410, 412, 413, 415, 416, 417, 419, 420, 422, 423, 424, 425, 426, 427, 428, 438, 440, 441, 443, 444, 445, 447, 448, 450, 451, 452, 454, 455, 457, 458, 459, 461, 462, 464, 465, 466, 468, 469, 471, 472, 473, 475, 476, 478, 479, 480, 482, 483, 485, 486, 487, 489, 490, 492, 493, 494, 496, 497, 499, 500, 501, 503, 504, 506, 507, 508, 510, 511, 513, 514, 515, 517, 518, 520, 521, 522, 524, 525, 527, 528, 529, 531, 532, 534, 535, 536, 538, 539, 541, 542, 543, 545, 546, 548, 549, 550, 552, 553, 555, 556, 557, 559, 560, 562, 563, 564, 566, 567, 569, 570, 571, 573, 574, 576, 577, 578, 580, 581, 583, 584, 585, 586, 587, 588, 589, 592, 594, 595, 597, 598, 599, 601, 602, 604, 605, 606, 608, 609, 611, 612, 613, 616, 617, 618, 620, 621, 623, 624, 625, 627, 628, 630, 631, 632, 635, 636]
noncomputable def kAcc (P : Params) : List Obj := [o49 P, o758 P, o52 P, o54 P, o55 P, o57 P, o58 P, o59 P, o66 P, o67 P, o134 P, o69 P, o75 P, o82 P, o83 P, o119 P, o90 P, o97 P, o98 P, o104 P, o105 P, o112 P, o113 P, o114 P, o120 P, o127 P, o128 P, o129 P, o135 P, o142 P, o143 P, o194 P, o150 P, o157 P, o158 P, o159 P, o165 P, o172 P, o173 P, o174 P, o180 P, o187 P, o188 P, o189 P, o195 P, o202 P, o203 P, o204 P, o207 P, o209 P, o210 P, o212 P, o213 P, o214 P, o216 P, o217 P, o219 P, o220 P, o221 P, o223 P, o224 P, o226 P, o227 P, o230 P, o231 P, o233 P, o234 P, o236 P, o237 P, o238 P, o240 P, o241 P, o243 P, o244 P, o245 P, o247 P, o248 P, o250 P, o251 P, o252 P, o254 P, o255 P, o257 P, o258 P, o259 P, o261 P, o262 P, o264 P, o265 P, o266 P, o268 P, o269 P, o271 P, o272 P, o282 P, o284 P, o285 P, o287 P, o288 P, o289 P, o291 P, o292 P, o294 P, o295 P, o296 P, o298 P, o299 P, o301 P, o302 P, o303 P, o305 P, o306 P, o308 P, o309 P, o310 P, o311 P, o312 P, o313 P, o314 P, o326 P, o328 P, o329 P, o331 P, o332 P, o333 P, o335 P, o336 P, o338 P, o339 P, o340 P, o342 P, o343 P, o345 P, o346 P, o347 P, o349 P, o350 P, o352 P, o353 P, o354 P, o356 P, o357 P, o359 P, o360 P, o361 P, o362 P, o363 P, o364 P, o365 P, o370 P, o372 P, o373 P, o375 P, o376 P, o377 P, o379 P, o380 P, o382 P, o383 P, o391 P, o393 P, o394 P, o396 P, o397 P, o398 P, o400 P, o401 P, o403 P, o404 P, o405 P, o407 P, o408 P, o410 P, o411 P, o412 P, o413 P, o414 P, o415 P, o416 P, o428 P, o430 P, o431 P, o433 P, o434 P, o435 P, o437 P, o438 P, o440 P, o441 P, o442 P, o443 P, o444 P, o445 P, o446 P, o458 P, o460 P, o461 P, o463 P, o464 P, o465 P, o467 P, o468 P, o470 P, o471 P, o472 P, o474 P, o475 P, o477 P, o478 P, o479 P, o481 P, o482 P, o484 P, o485 P, o486 P, o488 P, o489 P, o491 P, o492 P, o493 P, o495 P, o496 P, o498 P, o499 P, o500 P, o501 P, o502 P, o503 P, o504 P, o516 P, o518 P, o519 P, o521 P, o522 P, o523 P, o525 P, o526 P, o528 P, o529 P, o530 P, o532 P, o533 P, o535 P, o536 P, o537 P, o539 P, o540 P, o542 P, o543 P, o544 P, o546 P, o547 P, o549 P, o550 P, o551 P, o553 P, o554 P, o556 P, o557 P, o558 P, o560 P, o561 P, o563 P, o564 P, o565 P, o567 P, o568 P, o570 P, o571 P, o572 P, o574 P, o575 P, o577 P, o578 P, o579 P, o581 P, o582 P, o584 P, o585 P, o586 P, o588 P, o589 P, o591 P, o592 P, o593 P, o595 P, o596 P, o598 P, o599 P, o600 P, o602 P, o603 P, o605 P, o606 P, o607 P, o609 P, o610 P, o612 P, o613 P, o614 P, o616 P, o617 P, o619 P, o620 P, o621 P, o623 P, o624 P, o626 P, o627 P, o628 P, o630 P, o631 P, o633 P, o634 P, o635 P, o637 P, o638 P, o640 P, o641 P, o642 P, o644 P, o645 P, o647 P, o648 P, o649 P, o651 P, o652 P, o654 P, o655 P, o656 P, o658 P, o659 P, o661 P, o662 P, o663 P, o664 P, o665 P, o666 P, o667 P, o760 P, o762 P, o763 P, o765 P, o766 P, o767 P, o769 P, o770 P, o772 P, o773 P, o774 P, o776 P, o777 P, o779 P, o780 P, o781 P, o784 P, o785 P, o786 P, o788 P, o789 P, o791 P, o792 P, o793 P, o795 P, o796 P, o798 P, o799 P, o800 P, o803 P, o804 P]
noncomputable def hd.heap_39 (P : Params) : Frag := (fun {a2 a3 a15 a17 a18 a20 a21 a22 a29 a30 a31 a32 a35 a42 a43 a44 a47 a54 a55 a56 a59 a66 a67 a68 a71 a78 a79 a80 a83 a90 a91 a92 a95 a102 a103 a104 a107 a114 a115 a116 a119 a126 a127 a128 a131 a138 a139 a140 a143 a145 a146 a148 a149 a150 a152 a153 a155 a156 a157 a159 a160 a162 a163 a164 a165 a167 a168 a170 a171 a172 a174 a175 a177 a178 a179 a181 a182 a184 a185 a186 a188 a189 a191 a192 a193 a195 a196 a198 a199 a200 a202 a203 a205 a206 a214 a216 a217 a219 a220 a221 a223 a224 a226 a227 a228 a230 a231 a233 a234 a235 a237 a238 a240 a241 a242 a243 a244 a245 a246 a256 a258 a259 a261 a262 a263 a265 a266 a268 a269 a270 a272 a273 a275 a276 a277 a279 a280 a282 a283 a284 a286 a287 a289 a290 a291 a292 a293 a294 a295 a298 a300 a301 a303 a304 a305 a307 a308 a310 a311 a319 a321 a322 a324 a325 a326 a328 a329 a331 a332 a333 a335 a336 a338 a339 a340 a341 a342 a343 a344 a354 a356 a357 a359 a360 a361 a363 a364 a366 a367 a368 a369 a370 a371 a372 a382 a384 a385 a387 a388 a389 a391 a392 a394 a395 a396 a398 a399 a401 a402 a403 a405 a406 a408 a409 a410 a412 a413 a415 a416 a417 a419 a420 a422 a423 a424 a425 a426 a427 a428 a438 a440 a441 a443 a444 a445 a447 a448 a450 a451 a452 a454 a455 a457 a458 a459 a461 a462 a464 a465 a466 a468 a469 a471 a472 a473 a475 a476 a478 a479 a480 a482 a483 a485 a486 a487 a489 a490 a492 a493 a494 a496 a497 a499 a500 a501 a503 a504 a506 a507 a508 a510 a511 a513 a514 a515 a517 a518 a520 a521 a522 a524 a525 a527 a528 a529 a531 a532 a534 a535 a536 a538 a539 a541 a542 a543 a545 a546 a548 a549 a550 a552 a553 a555 a556 a557 a559 a560 a562 a563 a564 a566 a567 a569 a570 a571 a573 a574 a576 a577 a578 a580 a581 a583 a584 a585 a586 a587 a588 a589 a592 a594 a595 a597 a598 a599 a601 a602 a604 a605 a606 a608 a609 a611 a612 a613 a616 a617 a618 a620 a621 a623 a624 a625 a627 a628 a630 a631 a632 a635 a636 : Obj} (_ : [a2, a3, a15, a17, a18, a20, a21, a22, a29, a30, a31, a32, a35, a42, a43, a44, a47, a54, a55, a56, a59, a66, a67, a68, a71, a78, a79, a80, a83, a90, a91, a92, a95, a102, a103, a104, a107, a114, a115, a116, a119, a126, a127, a128, a131, a138, a139, a140, a143, a145, a146, a148, a149, a150, a152, a153, a155, a156, a157, a159, a160, a162, a163, a164, a165, a167, a168, a170, a171, a172, a174, a175, a177, a178, a179, a181, a182, a184, a185, a186, a188, a189, a191, a192, a193, a195, a196, a198, a199, a200, a202, a203, a205, a206, a214, a216, a217, a219, a220, a221, a223, a224, a226, a227, a228, a230, a231, a233, a234, a235, a237, a238, a240, a241, a242, a243, a244, a245, a246, a256, a258, a259, a261, a262, a263, a265, a266, a268, a269, a270, a272, a273, a275, a276, a277, a279, a280, a282, a283, a284, a286, a287, a289, a290, a291, a292, a293, a294, a295, a298, a300, a301, a303, a304, a305, a307, a308, a310, a311, a319, a321, a322, a324, a325, a326, a328, a329, a331, a332, a333, a335, a336, a338, a339, a340, a341, a342, a343, a344, a354, a356, a357, a359, a360, a361, a363, a364, a366, a367, a368, a369, a370, a371, a372, a382, a384, a385, a387, a388, a389, a391, a392, a394, a395, a396, a398, a399, a401, a402, a403, a405, a406, a408, a409, a410, a412, a413, a415, a416, a417, a419, a420, a422, a423, a424, a425, a426, a427, a428, a438, a440, a441, a443, a444, a445, a447, a448, a450, a451, a452, a454, a455, a457, a458, a459, a461, a462, a464, a465, a466, a468, a469, a471, a472, a473, a475, a476, a478, a479, a480, a482, a483, a485, a486, a487, a489, a490, a492, a493, a494, a496, a497, a499, a500, a501, a503, a504, a506, a507, a508, a510, a511, a513, a514, a515, a517, a518, a520, a521, a522, a524, a525, a527, a528, a529, a531, a532, a534, a535, a536, a538, a539, a541, a542, a543, a545, a546, a548, a549, a550, a552, a553, a555, a556, a557, a559, a560, a562, a563, a564, a566, a567, a569, a570, a571, a573, a574, a576, a577, a578, a580, a581, a583, a584, a585, a586, a587, a588, a589, a592, a594, a595, a597, a598, a599, a601, a602, a604, a605, a606, a608, a609, a611, a612, a613, a616, a617, a618, a620, a621, a623, a624, a625, a627, a628, a630, a631, a632, a635, a636] = kAcc P) => (nat_lit 2, a2) :: (nat_lit 3, a3) :: (nat_lit 15, a15) :: (nat_lit 17, a17) :: (nat_lit 18, a18) :: (nat_lit 20, a20) :: (nat_lit 21, a21) :: (nat_lit 22, a22) :: (nat_lit 29, a29) :: (nat_lit 30, a30) :: (nat_lit 31, a31) :: (nat_lit 32, a32) :: (nat_lit 35, a35) :: (nat_lit 42, a42) :: (nat_lit 43, a43) :: (nat_lit 44, a44) :: (nat_lit 47, a47) :: (nat_lit 54, a54) :: (nat_lit 55, a55) :: (nat_lit 56, a56) :: (nat_lit 59, a59) :: (nat_lit 66, a66) :: (nat_lit 67, a67) :: (nat_lit 68, a68) :: (nat_lit 71, a71) :: (nat_lit 78, a78) :: (nat_lit 79, a79) :: (nat_lit 80, a80) :: (nat_lit 83, a83) :: (nat_lit 90, a90) :: (nat_lit 91, a91) :: (nat_lit 92, a92) :: (nat_lit 95, a95) :: (nat_lit 102, a102) :: (nat_lit 103, a103) :: (nat_lit 104, a104) :: (nat_lit 107, a107) :: (nat_lit 114, a114) :: (nat_lit 115, a115) :: (nat_lit 116, a116) :: (nat_lit 119, a119) :: (nat_lit 126, a126) :: (nat_lit 127, a127) :: (nat_lit 128, a128) :: (nat_lit 131, a131) :: (nat_lit 138, a138) :: (nat_lit 139, a139) :: (nat_lit 140, a140) :: (nat_lit 143, a143) :: (nat_lit 145, a145) :: (nat_lit 146, a146) :: (nat_lit 148, a148) :: (nat_lit 149, a149) :: (nat_lit 150, a150) :: (nat_lit 152, a152) :: (nat_lit 153, a153) :: (nat_lit 155, a155) :: (nat_lit 156, a156) :: (nat_lit 157, a157) :: (nat_lit 159, a159) :: (nat_lit 160, a160) :: (nat_lit 162, a162) :: (nat_lit 163, a163) :: (nat_lit 164, a164) :: (nat_lit 165, a165) :: (nat_lit 167, a167) :: (nat_lit 168, a168) :: (nat_lit 170, a170) :: (nat_lit 171, a171) :: (nat_lit 172, a172) :: (nat_lit 174, a174) :: (nat_lit 175, a175) :: (nat_lit 177, a177) :: (nat_lit 178, a178) :: (nat_lit 179, a179) :: (nat_lit 181, a181) :: (nat_lit 182, a182) :: (nat_lit 184, a184) :: (nat_lit 185, a185) :: (nat_lit 186, a186) :: (nat_lit 188, a188) :: (nat_lit 189, a189) :: (nat_lit 191, a191) :: (nat_lit 192, a192) :: (nat_lit 193, a193) :: (nat_lit 195, a195) :: (nat_lit 196, a196) :: (nat_lit 198, a198) :: (nat_lit 199, a199) :: (nat_lit 200, a200) :: (nat_lit 202, a202) :: (nat_lit 203, a203) :: (nat_lit 205, a205) :: (nat_lit 206, a206) :: (nat_lit 214, a214) :: (nat_lit 216, a216) :: (nat_lit 217, a217) :: (nat_lit 219, a219) :: (nat_lit 220, a220) :: (nat_lit 221, a221) :: (nat_lit 223, a223) :: (nat_lit 224, a224) :: (nat_lit 226, a226) :: (nat_lit 227, a227) :: (nat_lit 228, a228) :: (nat_lit 230, a230) :: (nat_lit 231, a231) :: (nat_lit 233, a233) :: (nat_lit 234, a234) :: (nat_lit 235, a235) :: (nat_lit 237, a237) :: (nat_lit 238, a238) :: (nat_lit 240, a240) :: (nat_lit 241, a241) :: (nat_lit 242, a242) :: (nat_lit 243, a243) :: (nat_lit 244, a244) :: (nat_lit 245, a245) :: (nat_lit 246, a246) :: (nat_lit 256, a256) :: (nat_lit 258, a258) :: (nat_lit 259, a259) :: (nat_lit 261, a261) :: (nat_lit 262, a262) :: (nat_lit 263, a263) :: (nat_lit 265, a265) :: (nat_lit 266, a266) :: (nat_lit 268, a268) :: (nat_lit 269, a269) :: (nat_lit 270, a270) :: (nat_lit 272, a272) :: (nat_lit 273, a273) :: (nat_lit 275, a275) :: (nat_lit 276, a276) :: (nat_lit 277, a277) :: (nat_lit 279, a279) :: (nat_lit 280, a280) :: (nat_lit 282, a282) :: (nat_lit 283, a283) :: (nat_lit 284, a284) :: (nat_lit 286, a286) :: (nat_lit 287, a287) :: (nat_lit 289, a289) :: (nat_lit 290, a290) :: (nat_lit 291, a291) :: (nat_lit 292, a292) :: (nat_lit 293, a293) :: (nat_lit 294, a294) :: (nat_lit 295, a295) :: (nat_lit 298, a298) :: (nat_lit 300, a300) :: (nat_lit 301, a301) :: (nat_lit 303, a303) :: (nat_lit 304, a304) :: (nat_lit 305, a305) :: (nat_lit 307, a307) :: (nat_lit 308, a308) :: (nat_lit 310, a310) :: (nat_lit 311, a311) :: (nat_lit 319, a319) :: (nat_lit 321, a321) :: (nat_lit 322, a322) :: (nat_lit 324, a324) :: (nat_lit 325, a325) :: (nat_lit 326, a326) :: (nat_lit 328, a328) :: (nat_lit 329, a329) :: (nat_lit 331, a331) :: (nat_lit 332, a332) :: (nat_lit 333, a333) :: (nat_lit 335, a335) :: (nat_lit 336, a336) :: (nat_lit 338, a338) :: (nat_lit 339, a339) :: (nat_lit 340, a340) :: (nat_lit 341, a341) :: (nat_lit 342, a342) :: (nat_lit 343, a343) :: (nat_lit 344, a344) :: (nat_lit 354, a354) :: (nat_lit 356, a356) :: (nat_lit 357, a357) :: (nat_lit 359, a359) :: (nat_lit 360, a360) :: (nat_lit 361, a361) :: (nat_lit 363, a363) :: (nat_lit 364, a364) :: (nat_lit 366, a366) :: (nat_lit 367, a367) :: (nat_lit 368, a368) :: (nat_lit 369, a369) :: (nat_lit 370, a370) :: (nat_lit 371, a371) :: (nat_lit 372, a372) :: (nat_lit 382, a382) :: (nat_lit 384, a384) :: (nat_lit 385, a385) :: (nat_lit 387, a387) :: (nat_lit 388, a388) :: (nat_lit 389, a389) :: (nat_lit 391, a391) :: (nat_lit 392, a392) :: (nat_lit 394, a394) :: (nat_lit 395, a395) :: (nat_lit 396, a396) :: (nat_lit 398, a398) :: (nat_lit 399, a399) :: (nat_lit 401, a401) :: (nat_lit 402, a402) :: (nat_lit 403, a403) :: (nat_lit 405, a405) :: (nat_lit 406, a406) :: (nat_lit 408, a408) :: (nat_lit 409, a409) :: (nat_lit 410, a410) :: (nat_lit 412, a412) :: (nat_lit 413, a413) :: (nat_lit 415, a415) :: (nat_lit 416, a416) :: (nat_lit 417, a417) :: (nat_lit 419, a419) :: (nat_lit 420, a420) :: (nat_lit 422, a422) :: (nat_lit 423, a423) :: (nat_lit 424, a424) :: (nat_lit 425, a425) :: (nat_lit 426, a426) :: (nat_lit 427, a427) :: (nat_lit 428, a428) :: (nat_lit 438, a438) :: (nat_lit 440, a440) :: (nat_lit 441, a441) :: (nat_lit 443, a443) :: (nat_lit 444, a444) :: (nat_lit 445, a445) :: (nat_lit 447, a447) :: (nat_lit 448, a448) :: (nat_lit 450, a450) :: (nat_lit 451, a451) :: (nat_lit 452, a452) :: (nat_lit 454, a454) :: (nat_lit 455, a455) :: (nat_lit 457, a457) :: (nat_lit 458, a458) :: (nat_lit 459, a459) :: (nat_lit 461, a461) :: (nat_lit 462, a462) :: (nat_lit 464, a464) :: (nat_lit 465, a465) :: (nat_lit 466, a466) :: (nat_lit 468, a468) :: (nat_lit 469, a469) :: (nat_lit 471, a471) :: (nat_lit 472, a472) :: (nat_lit 473, a473) :: (nat_lit 475, a475) :: (nat_lit 476, a476) :: (nat_lit 478, a478) :: (nat_lit 479, a479) :: (nat_lit 480, a480) :: (nat_lit 482, a482) :: (nat_lit 483, a483) :: (nat_lit 485, a485) :: (nat_lit 486, a486) :: (nat_lit 487, a487) :: (nat_lit 489, a489) :: (nat_lit 490, a490) :: (nat_lit 492, a492) :: (nat_lit 493, a493) :: (nat_lit 494, a494) :: (nat_lit 496, a496) :: (nat_lit 497, a497) :: (nat_lit 499, a499) :: (nat_lit 500, a500) :: (nat_lit 501, a501) :: (nat_lit 503, a503) :: (nat_lit 504, a504) :: (nat_lit 506, a506) :: (nat_lit 507, a507) :: (nat_lit 508, a508) :: (nat_lit 510, a510) :: (nat_lit 511, a511) :: (nat_lit 513, a513) :: (nat_lit 514, a514) :: (nat_lit 515, a515) :: (nat_lit 517, a517) :: (nat_lit 518, a518) :: (nat_lit 520, a520) :: (nat_lit 521, a521) :: (nat_lit 522, a522) :: (nat_lit 524, a524) :: (nat_lit 525, a525) :: (nat_lit 527, a527) :: (nat_lit 528, a528) :: (nat_lit 529, a529) :: (nat_lit 531, a531) :: (nat_lit 532, a532) :: (nat_lit 534, a534) :: (nat_lit 535, a535) :: (nat_lit 536, a536) :: (nat_lit 538, a538) :: (nat_lit 539, a539) :: (nat_lit 541, a541) :: (nat_lit 542, a542) :: (nat_lit 543, a543) :: (nat_lit 545, a545) :: (nat_lit 546, a546) :: (nat_lit 548, a548) :: (nat_lit 549, a549) :: (nat_lit 550, a550) :: (nat_lit 552, a552) :: (nat_lit 553, a553) :: (nat_lit 555, a555) :: (nat_lit 556, a556) :: (nat_lit 557, a557) :: (nat_lit 559, a559) :: (nat_lit 560, a560) :: (nat_lit 562, a562) :: (nat_lit 563, a563) :: (nat_lit 564, a564) :: (nat_lit 566, a566) :: (nat_lit 567, a567) :: (nat_lit 569, a569) :: (nat_lit 570, a570) :: (nat_lit 571, a571) :: (nat_lit 573, a573) :: (nat_lit 574, a574) :: (nat_lit 576, a576) :: (nat_lit 577, a577) :: (nat_lit 578, a578) :: (nat_lit 580, a580) :: (nat_lit 581, a581) :: (nat_lit 583, a583) :: (nat_lit 584, a584) :: (nat_lit 585, a585) :: (nat_lit 586, a586) :: (nat_lit 587, a587) :: (nat_lit 588, a588) :: (nat_lit 589, a589) :: (nat_lit 592, a592) :: (nat_lit 594, a594) :: (nat_lit 595, a595) :: (nat_lit 597, a597) :: (nat_lit 598, a598) :: (nat_lit 599, a599) :: (nat_lit 601, a601) :: (nat_lit 602, a602) :: (nat_lit 604, a604) :: (nat_lit 605, a605) :: (nat_lit 606, a606) :: (nat_lit 608, a608) :: (nat_lit 609, a609) :: (nat_lit 611, a611) :: (nat_lit 612, a612) :: (nat_lit 613, a613) :: (nat_lit 616, a616) :: (nat_lit 617, a617) :: (nat_lit 618, a618) :: (nat_lit 620, a620) :: (nat_lit 621, a621) :: (nat_lit 623, a623) :: (nat_lit 624, a624) :: (nat_lit 625, a625) :: (nat_lit 627, a627) :: (nat_lit 628, a628) :: (nat_lit 630, a630) :: (nat_lit 631, a631) :: (nat_lit 632, a632) :: (nat_lit 635, a635) :: (nat_lit 636, a636) :: []) (by dsimp only [kAcc, o49, o758, o52, o54, o55, o57, o58, o59, o66, o67, o134, o69, o75, o82, o83, o119, o90, o97, o98, o104, o105, o112, o113, o114, o120, o127, o128, o129, o135, o142, o143, o194, o150, o157, o158, o159, o165, o172, o173, o174, o180, o187, o188, o189, o195, o202, o203, o204, o207, o209, o210, o212, o213, o214, o216, o217, o219, o220, o221, o223, o224, o226, o227, o230, o231, o233, o234, o236, o237, o238, o240, o241, o243, o244, o245, o247, o248, o250, o251, o252, o254, o255, o257, o258, o259, o261, o262, o264, o265, o266, o268, o269, o271, o272, o282, o284, o285, o287, o288, o289, o291, o292, o294, o295, o296, o298, o299, o301, o302, o303, o305, o306, o308, o309, o310, o311, o312, o313, o314, o326, o328, o329, o331, o332, o333, o335, o336, o338, o339, o340, o342, o343, o345, o346, o347, o349, o350, o352, o353, o354, o356, o357, o359, o360, o361, o362, o363, o364, o365, o370, o372, o373, o375, o376, o377, o379, o380, o382, o383, o391, o393, o394, o396, o397, o398, o400, o401, o403, o404, o405, o407, o408, o410, o411, o412, o413, o414, o415, o416, o428, o430, o431, o433, o434, o435, o437, o438, o440, o441, o442, o443, o444, o445, o446, o458, o460, o461, o463, o464, o465, o467, o468, o470, o471, o472, o474, o475, o477, o478, o479, o481, o482, o484, o485, o486, o488, o489, o491, o492, o493, o495, o496, o498, o499, o500, o501, o502, o503, o504, o516, o518, o519, o521, o522, o523, o525, o526, o528, o529, o530, o532, o533, o535, o536, o537, o539, o540, o542, o543, o544, o546, o547, o549, o550, o551, o553, o554, o556, o557, o558, o560, o561, o563, o564, o565, o567, o568, o570, o571, o572, o574, o575, o577, o578, o579, o581, o582, o584, o585, o586, o588, o589, o591, o592, o593, o595, o596, o598, o599, o600, o602, o603, o605, o606, o607, o609, o610, o612, o613, o614, o616, o617, o619, o620, o621, o623, o624, o626, o627, o628, o630, o631, o633, o634, o635, o637, o638, o640, o641, o642, o644, o645, o647, o648, o649, o651, o652, o654, o655, o656, o658, o659, o661, o662, o663, o664, o665, o666, o667, o760, o762, o763, o765, o766, o767, o769, o770, o772, o773, o774, o776, o777, o779, o780, o781, o784, o785, o786, o788, o789, o791, o792, o793, o795, o796, o798, o799, o800, o803, o804, f0, f18, f19, f20, f21, f22, f23, f34, f35, f36, f37_0, f37_1, f37_2, f37_3, f38_0, f38_1, f38_2, f38_3, f38_4, f39, f40, f45_0, f45_1, f45_2, f46_0, f46_1, f47_0, f47_1, f47_2, f47_3, f47_4, f47_5, f48_0, f48_1, f48_2, f48_3, f48_4, f48_5, f48_6, f48_7, f48_8, f48_9, f48_10, f48_11, f48_12, f48_13, f48_14, f48_15, f48_16, f48_17, f48_18, f48_19, f48_20, f50, f51, f52, f53, f54, f55, f56, fu, sv, iv, rv, tv, bv, en, tu, fi])
noncomputable def envH : Env := { scope := Challenge.rw_xm0852_01.row.toRowW.1.main.scope, locals := mainNs, globals := mainNs, cells := [], code := .ref 13, frame := some 14 }
noncomputable def codeH : Code := .body (behindTheImports Challenge.rw_xm0852_01.row.toRowW.1) envH
noncomputable def qH : Pos := ⟨0, 0, 0, 0⟩
noncomputable def stT (l : Params → List Obj) (n k : Nat) (w : World) (os : OsState) : SharedT := ⟨btL 11 (l w.params), n, {}, #[], {}, k, os⟩
set_option maxRecDepth 1000000
theorem pc0 : ∀ (w : World), (fun os => segRunT treeTable Challenge.rw_xm0852_01.row.toRowW.1 w 11 (some (.ref 6)) 1 235 (stT l47 15 187 w os) (piecesOf (cutL 0 3) envH codeH ⟨0, 0, 0, 0⟩ [topFrame qH])) = fun os => some (.next, stT l71 35 216 w os, codeH, ⟨5, 0, 6, 8⟩) := fun w => by rw [PySem.W.Fast.te10110043849684766642, PySem.W.Fast.te14364793385576792824]; run_tac Mine.Sh.now
theorem pc1 : ∀ (w : World), (fun os => segRunT treeTable Challenge.rw_xm0852_01.row.toRowW.1 w 11 (some (.ref 6)) 1 214 (stT l71 35 216 w os) (piecesOf (cutL 3 1) envH codeH ⟨5, 0, 6, 8⟩ [topFrame qH])) = fun os => some (.next, stT l86 47 232 w os, codeH, ⟨7, 0, 8, 8⟩) := fun w => by rw [PySem.W.Fast.te10110043849684766642, PySem.W.Fast.te14364793385576792824]; run_tac Mine.Sh.now
theorem pc2 : ∀ (w : World), (fun os => segRunT treeTable Challenge.rw_xm0852_01.row.toRowW.1 w 11 (some (.ref 6)) 1 228 (stT l86 47 232 w os) (piecesOf (cutL 4 1) envH codeH ⟨7, 0, 8, 8⟩ [topFrame qH])) = fun os => some (.next, stT l101 59 248 w os, codeH, ⟨9, 0, 10, 8⟩) := fun w => by rw [PySem.W.Fast.te10110043849684766642, PySem.W.Fast.te14364793385576792824]; run_tac Mine.Sh.now
theorem pc3 : ∀ (w : World), (fun os => segRunT treeTable Challenge.rw_xm0852_01.row.toRowW.1 w 11 (some (.ref 6)) 1 242 (stT l101 59 248 w os) (piecesOf (cutL 5 1) envH codeH ⟨9, 0, 10, 8⟩ [topFrame qH])) = fun os => some (.next, stT l116 71 264 w os, codeH, ⟨11, 0, 12, 8⟩) := fun w => by rw [PySem.W.Fast.te10110043849684766642, PySem.W.Fast.te14364793385576792824]; run_tac Mine.Sh.now
theorem pc4 : ∀ (w : World), (fun os => segRunT treeTable Challenge.rw_xm0852_01.row.toRowW.1 w 11 (some (.ref 6)) 1 228 (stT l116 71 264 w os) (piecesOf (cutL 6 1) envH codeH ⟨11, 0, 12, 8⟩ [topFrame qH])) = fun os => some (.next, stT l131 83 280 w os, codeH, ⟨13, 0, 14, 8⟩) := fun w => by rw [PySem.W.Fast.te10110043849684766642, PySem.W.Fast.te14364793385576792824]; run_tac Mine.Sh.now
theorem pc5 : ∀ (w : World), (fun os => segRunT treeTable Challenge.rw_xm0852_01.row.toRowW.1 w 11 (some (.ref 6)) 1 214 (stT l131 83 280 w os) (piecesOf (cutL 7 1) envH codeH ⟨13, 0, 14, 8⟩ [topFrame qH])) = fun os => some (.next, stT l146 95 296 w os, codeH, ⟨15, 0, 16, 8⟩) := fun w => by rw [PySem.W.Fast.te10110043849684766642, PySem.W.Fast.te14364793385576792824]; run_tac Mine.Sh.now
theorem pc6 : ∀ (w : World), (fun os => segRunT treeTable Challenge.rw_xm0852_01.row.toRowW.1 w 11 (some (.ref 6)) 1 228 (stT l146 95 296 w os) (piecesOf (cutL 8 1) envH codeH ⟨15, 0, 16, 8⟩ [topFrame qH])) = fun os => some (.next, stT l161 107 312 w os, codeH, ⟨17, 0, 18, 8⟩) := fun w => by rw [PySem.W.Fast.te10110043849684766642, PySem.W.Fast.te14364793385576792824]; run_tac Mine.Sh.now
theorem pc7 : ∀ (w : World), (fun os => segRunT treeTable Challenge.rw_xm0852_01.row.toRowW.1 w 11 (some (.ref 6)) 1 228 (stT l161 107 312 w os) (piecesOf (cutL 9 1) envH codeH ⟨17, 0, 18, 8⟩ [topFrame qH])) = fun os => some (.next, stT l176 119 328 w os, codeH, ⟨19, 0, 20, 8⟩) := fun w => by rw [PySem.W.Fast.te10110043849684766642, PySem.W.Fast.te14364793385576792824]; run_tac Mine.Sh.now
theorem pc8 : ∀ (w : World), (fun os => segRunT treeTable Challenge.rw_xm0852_01.row.toRowW.1 w 11 (some (.ref 6)) 1 228 (stT l176 119 328 w os) (piecesOf (cutL 10 1) envH codeH ⟨19, 0, 20, 8⟩ [topFrame qH])) = fun os => some (.next, stT l191 131 344 w os, codeH, ⟨21, 0, 22, 8⟩) := fun w => by rw [PySem.W.Fast.te10110043849684766642, PySem.W.Fast.te14364793385576792824]; run_tac Mine.Sh.now
theorem pc9 : ∀ (w : World), (fun os => segRunT treeTable Challenge.rw_xm0852_01.row.toRowW.1 w 11 (some (.ref 6)) 1 373 (stT l191 131 344 w os) (piecesOf (cutL 11 10) envH codeH ⟨21, 0, 22, 8⟩ [topFrame qH])) = fun os => some (.next, stT l227 164 397 w os, codeH, ⟨39, 0, 51, 16⟩) := fun w => by rw [PySem.W.Fast.te10110043849684766642, PySem.W.Fast.te14364793385576792824]; run_tac Mine.Sh.now
theorem pc10 : ∀ (w : World), (fun os => segRunT treeTable Challenge.rw_xm0852_01.row.toRowW.1 w 11 (some (.ref 6)) 1 286 (stT l227 164 397 w os) (piecesOf (cutL 21 16) envH codeH ⟨39, 0, 51, 16⟩ [topFrame qH])) = fun os => some (.next, stT l272 207 471 w os, codeH, ⟨84, 0, 87, 87⟩) := fun w => by rw [PySem.W.Fast.te10110043849684766642, PySem.W.Fast.te14364793385576792824]; run_tac Mine.Sh.now
theorem pc11 : ∀ (w : World), (fun os => segRunT treeTable Challenge.rw_xm0852_01.row.toRowW.1 w 11 (some (.ref 6)) 1 331 (stT l272 207 471 w os) (piecesOf (cutL 37 1) envH codeH ⟨84, 0, 87, 87⟩ [topFrame qH])) = fun os => some (.next, stT l316 249 536 w os, codeH, ⟨88, 0, 125, 24⟩) := fun w => by rw [PySem.W.Fast.te10110043849684766642, PySem.W.Fast.te14364793385576792824]; run_tac Mine.Sh.now
theorem pc12 : ∀ (w : World), (fun os => segRunT treeTable Challenge.rw_xm0852_01.row.toRowW.1 w 11 (some (.ref 6)) 1 371 (stT l316 249 536 w os) (piecesOf (cutL 38 1) envH codeH ⟨88, 0, 125, 24⟩ [topFrame qH])) = fun os => some (.next, stT l367 298 617 w os, codeH, ⟨126, 0, 222, 29⟩) := fun w => by rw [PySem.W.Fast.te10110043849684766642, PySem.W.Fast.te14364793385576792824]; run_tac Mine.Sh.now
theorem pc13 : ∀ (w : World), (fun os => segRunT treeTable Challenge.rw_xm0852_01.row.toRowW.1 w 11 (some (.ref 6)) 1 394 (stT l367 298 617 w os) (piecesOf (cutL 39 7) envH codeH ⟨126, 0, 222, 29⟩ [topFrame qH])) = fun os => some (.next, stT l418 347 697 w os, codeH, ⟨245, 0, 256, 16⟩) := fun w => by rw [PySem.W.Fast.te10110043849684766642, PySem.W.Fast.te14364793385576792824]; run_tac Mine.Sh.now
theorem pc14 : ∀ (w : World), (fun os => segRunT treeTable Challenge.rw_xm0852_01.row.toRowW.1 w 11 (some (.ref 6)) 1 262 (stT l418 347 697 w os) (piecesOf (cutL 46 1) envH codeH ⟨245, 0, 256, 16⟩ [topFrame qH])) = fun os => some (.next, stT l448 375 741 w os, codeH, ⟨257, 0, 273, 42⟩) := fun w => by rw [PySem.W.Fast.te10110043849684766642, PySem.W.Fast.te14364793385576792824]; run_tac Mine.Sh.now
theorem pc15 : ∀ (w : World), (fun os => segRunT treeTable Challenge.rw_xm0852_01.row.toRowW.1 w 11 (some (.ref 6)) 1 386 (stT l448 375 741 w os) (piecesOf (cutL 47 1) envH codeH ⟨257, 0, 273, 42⟩ [topFrame qH])) = fun os => some (.next, stT l506 431 813 w os, codeH, ⟨274, 0, 308, 34⟩) := fun w => by rw [PySem.W.Fast.te10110043849684766642, PySem.W.Fast.te14364793385576792824]; run_tac Mine.Sh.now
theorem pc16 : ∀ (w : World), (fun os => segRunT treeTable Challenge.rw_xm0852_01.row.toRowW.1 w 11 (some (.ref 6)) 1 885 (stT l506 431 813 w os) (piecesOf (cutL 48 1) envH codeH ⟨274, 0, 308, 34⟩ [topFrame qH])) = fun os => some (.next, stT l669 592 1024 w os, codeH, ⟨309, 0, 444, 26⟩) := fun w => by rw [PySem.W.Fast.te10110043849684766642, PySem.W.Fast.te14364793385576792824]; run_tac Mine.Sh.now
theorem pc17 : ∀ (w : World), (fun os => segRunT treeTable Challenge.rw_xm0852_01.row.toRowW.1 w 11 (some (.ref 6)) 1 228 (stT l669 592 1024 w os) (piecesOf (cutL 49 8) envH codeH ⟨309, 0, 444, 26⟩ [topFrame qH])) = fun os => some (.next, stT l804 637 1094 w os, codeH, ⟨507, 0, 597, 84⟩) := fun w => by rw [PySem.W.Fast.te10110043849684766642, PySem.W.Fast.te14364793385576792824]; run_tac Mine.Sh.now
end Mine
end
end
section
namespace Mine
noncomputable section
set_option maxRecDepth 1000000
noncomputable abbrev pH : Program := Challenge.rw_xm0852_01.row.toRowW.1
noncomputable def h0H (P : Params) : Heap := ⟨(l47 P).toArray, {}⟩
noncomputable def hFH (P : Params) : Heap := ⟨(l804 P).toArray, {}⟩
theorem preH : ∀ w : World, (fun os => topGo treeTable pH w 11 (some (.ref 6)) 12 ⟨boot_heap w.params, #[], boot_drawn, boot_toks, os⟩ (topStub pH)) = fun os => some (⟨h0H w.params, #[], {}, 187, os⟩, ⟨denote treeTable codeH, codeH, qH, [topFrame qH]⟩) := fun w => by kernel_rfl
theorem blkH : ∀ w : World, (fun os => segRun treeTable pH w 11 (some (.ref 6)) 1 1 ⟨h0H w.params, #[], {}, 187, os⟩ (blockOf (behindTheImports pH) envH codeH qH [topFrame qH])) = fun os => some (.next, (stT l47 15 187 w os).abs, codeH, qH) := fun w => by kernel_rfl
theorem finH : ∀ w : World, (fun os => topRun treeTable pH w 11 (some (.ref 6)) 2 (stT l804 637 1094 w os).abs ⟨doneF .next, codeH, ⟨507, 0, 597, 84⟩, [topFrame qH]⟩) = fun os => some ⟨hFH w.params, #[], {}, 1094, os⟩ := fun w => by kernel_rfl
theorem cutsH : cutL 0 3 ++ (cutL 3 1 ++ (cutL 4 1 ++ (cutL 5 1 ++ (cutL 6 1 ++ (cutL 7 1 ++ (cutL 8 1 ++ (cutL 9 1 ++ (cutL 10 1 ++ (cutL 11 10 ++ (cutL 21 16 ++ (cutL 37 1 ++ (cutL 38 1 ++ (cutL 39 7 ++ (cutL 46 1 ++ (cutL 47 1 ++ (cutL 48 1 ++ (cutL 49 8 ++ []))))))))))))))))) = behindTheImports pH := by kernel_rfl
theorem runH : ∀ (w : World) (os : OsState), topRun treeTable pH w 11 (some (.ref 6)) (12 + (1 + (235 + (214 + (228 + (242 + (228 + (214 + (228 + (228 + (228 + (373 + (286 + (331 + (371 + (394 + (262 + (386 + (885 + (228 + (2))))))))))))))))))))) ⟨boot_heap w.params, #[], boot_drawn, boot_toks, os⟩ (topStub pH) = some ⟨hFH w.params, #[], {}, 1094, os⟩ := fun w os => by
  have k := piece_app (segRun_of (congrFun (pc0 w) os)) (piece_app (segRun_of (congrFun (pc1 w) os)) (piece_app (segRun_of (congrFun (pc2 w) os)) (piece_app (segRun_of (congrFun (pc3 w) os)) (piece_app (segRun_of (congrFun (pc4 w) os)) (piece_app (segRun_of (congrFun (pc5 w) os)) (piece_app (segRun_of (congrFun (pc6 w) os)) (piece_app (segRun_of (congrFun (pc7 w) os)) (piece_app (segRun_of (congrFun (pc8 w) os)) (piece_app (segRun_of (congrFun (pc9 w) os)) (piece_app (segRun_of (congrFun (pc10 w) os)) (piece_app (segRun_of (congrFun (pc11 w) os)) (piece_app (segRun_of (congrFun (pc12 w) os)) (piece_app (segRun_of (congrFun (pc13 w) os)) (piece_app (segRun_of (congrFun (pc14 w) os)) (piece_app (segRun_of (congrFun (pc15 w) os)) (piece_app (segRun_of (congrFun (pc16 w) os)) (piece_app (segRun_of (congrFun (pc17 w) os)) (piece_nil (congrFun (finH w) os)))))))))))))))))))
  rw [cutsH] at k
  exact go_top (congrFun (preH w) os) (piece_block (congrFun (blkH w) os) k)
theorem sizeH : ∀ w : World, ((boot_heap w.params).isNs mainGlobals && (#[] : Array GenState).size == 0, (boot_heap w.params).objs.size, (boot_heap w.params).nsMap mainGlobals "__annotations__") = (true, 11, some (.ref 6)) := fun w => by kernel_rfl
noncomputable def viewH : Program := { pH with main := { pH.main with body := cutL 0 1 ++ (cutL 2 10 ++ (cutL 13 8 ++ (cutL 22 2 ++ (cutL 25 16 ++ (cutL 42 7 ++ cutL 50 7))))) } }
noncomputable def dH : DefRec := (fun {k : DefRec} (_ : defOf viewH Challenge.rw_xm0852_01.row.name = some (k, [])) => k) (by conv => lhs; whnf)
noncomputable abbrev looseH : List Str := [Str.ofString "crc32c"]
theorem asE : ∀ P : Params, asH = (hd.heap_39 P).map (·.1) := fun _ => by kernel_rfl
theorem looks1 : ∀ (w : World) (os : OsState), (staticsOk (importedModules pH.main.body) (boot_heap w.params) (hFH w.params) && namesBound pH (hFH w.params) && gensDone ⟨hFH w.params, #[], {}, 1094, os⟩ && laidKept (boot_heap w.params) (hFH w.params)) = true := fun w os => by run_tac Mine.Sh.now
theorem looks2 : ∀ (w : World) (os : OsState), openSeen viewH looseH (importedModules pH.main.body) (fun s => xlAt viewH [] s && recOk Challenge.rw_xm0852_01.row.records s) true ⟨hFH w.params, #[], {}, 1094, os⟩ = openGood viewH looseH := fun w os => by run_tac Mine.Sh.now
theorem looks3 : ∀ (w : World) (os : OsState), (kHook hd.heap_39 asH asE).obs ⟨hFH w.params, #[], {}, 1094, os⟩ = (kHook hd.heap_39 asH asE).val w := fun w os => by run_tac Mine.Sh.now
theorem looksH : ∀ w : World, (fun os => ((staticsOk (importedModules pH.main.body) (boot_heap w.params) (hFH w.params) && namesBound pH (hFH w.params) && gensDone ⟨hFH w.params, #[], {}, 1094, os⟩ && laidKept (boot_heap w.params) (hFH w.params)), openSeen viewH looseH (importedModules pH.main.body) (fun s => xlAt viewH [] s && recOk Challenge.rw_xm0852_01.row.records s) true ⟨hFH w.params, #[], {}, 1094, os⟩, (kHook hd.heap_39 asH asE).obs ⟨hFH w.params, #[], {}, 1094, os⟩)) = fun _ => (true, openGood viewH looseH, (kHook hd.heap_39 asH asE).val w) := fun w => funext fun os => congr (congrArg Prod.mk (looks1 w os)) (congr (congrArg Prod.mk (looks2 w os)) (looks3 w os))
set_option maxHeartbeats 0 in
theorem saidH : Challenge.rw_xm0852_01.wellSaid = true := by
  unfold OpenLaw.wellSaid OpenRow.wellSaid OpenRow.partSaid looksOpen
  repeat' (with_reducible refine Bool.and_eq_true_iff.mpr ⟨?_, ?_⟩)
  all_goals first | (rw [PySem.W.Fast.te8326940854005059898]; decide +kernel) | (rw [PySem.W.Fast.te17119622794617984870]; decide +kernel) | (rw [PySem.W.Fast.te8377067652309620493]; decide +kernel) | decide +kernel
theorem hd (walk : WalkG viewH looseH (XL viewH []) (kHook hd.heap_39 asH asE).says Challenge.rw_xm0852_01.row.toRowW dH []) : Challenge.rw_xm0852_01.Holds := by
  refine holds_law saidH fun said => ?_
  refine' PySem.W.holds_open (N := 11212) (LeftO.of_pieces (boot_open (by kernel_rfl) (by decide) (fun s => rfl)) sizeH runH (by decide +kernel) looksH) (kHook hd.heap_39 asH asE).of (kHook hd.heap_39 asH asE).keeps (fun s e => xl_of s (Bool.and_eq_true_iff.mp e).1) XL.keeps (by rfl) (by rfl) (by rfl) (fun s e => recFacts_of (Bool.and_eq_true_iff.mp e).2) (by rfl) said (by decide +kernel) ⟨rfl, rfl, rfl, rfl, rfl, by decide +kernel⟩ ?hw walk
  case hw => w_witness2
end
end Mine
end
section
namespace Mine

abbrev kv (w : World) (n : Str) (t : Tok) (v : Value) : DictEntry := ⟨PyData.keyHash w.params n, .str n t, v⟩

structure Cx (K : Frag) (A₀ A : Around) (base h₀ : Heap) (outer : List Env) (env : Env) (L : Addr) (p : Program) (loose : List Str) (mean : ExcName → Option Value) (mg mb : Str → Option Value) (d : Nat) : Prop where
  B : Below A₀ base outer h₀
  X : K.In h₀
  T : Top p loose mean mg mb h₀
  hA : A.frames = some (env :: outer)
  hf : env.frame = some L
  hk : env.scope.kind = .function
  hh : A.handled = none
  room : A.depth + d < recursionLimit
  units : A.units + 8 * d < cLine

section
variable {prog : Program} {w : World} {A₀ A : Around} {s : Shared} {base h₀ : Heap} {outer : List Env} {L : Addr} {m : Str → Option Value} {env : Env} {cells rest : List (Addr × Obj)} {K : Frag}
  {R : Result → Shared → Prop} {name qual : Str} {params : Arguments} {body : List Stmt} {scope : Scope} {dV kV doc pm cdv ct oc : Value} {an od : Option Addr} {osl : Array (Option Value)} {f : Addr} {args : Args} {binds : List (Str × Value)}
  {p : Program} {loose : List Str} {mean : ExcName → Option Value} {mg mb : Str → Option Value} {d : Nat}

theorem callF (C : Cx K A₀ A base h₀ outer env L p loose mean mg mb (d + 1)) (F : Fr h₀ L s.heap m) (N : News h₀ L s.heap cells) (Nr : News h₀ L s.heap rest) (hdis : ∀ q ∈ rest, q.1 ∉ cells.map (·.1))
    (ho : K.lookup f = some ⟨oc, od, .func (fnOf name qual params body scope dV kV doc pm an cdv ct), osl⟩) (hcd : codeIn K cdv qual = true)
    (hbind : BindsTo s (fnOf name qual params body scope dV kV doc pm an cdv ct) args binds) (hloc : ∀ y ∈ binds, scope.names.lookup y.1 = some .local)
    (h : ∀ g L' h₁ dep gds uns, dep + (d + 1) < recursionLimit → uns + 8 * (d + 1) < cLine → K.In h₀ → Fr h₀ L g m → Fr g L' h₁ (fun y => binds.reverse.lookup y) → News g L' h₁ cells → News h₀ L g rest →
      Below ⟨none, dep, some (env :: outer), gds, uns⟩ base (env :: outer) g → K.In g → Top p loose mean mg mb g →
      wpAny (model prog w) (Around.deeper ⟨none, dep, some (env :: outer), gds, uns⟩ (envOf qual scope L' f cdv)) (execs body (envOf qual scope L' f cdv))
        (fun fl s' => LeaveK h₀ L m g (fun r s' => News h₀ L s'.heap rest → R r s') (match fl with | .ret v => v | _ => .none) s')
        (fun e s' => wpAny (model prog w) (Around.deeper ⟨none, dep, some (env :: outer), gds, uns⟩ (envOf qual scope L' f cdv)) (leaving (envOf qual scope L' f cdv) e) (fun _ s'' => R (.error e) s'') (fun e' s'' => R (.error e') s'') s')
        { s with heap := h₁, toks := s.toks + binds.length })
    (hcell : ∀ x ∈ scope.names, x.2 ≠ .cell) (hco : scope.isCoroutine = false) (hgen : scope.isGenerator = false) (hk : scope.kind = .function) : codeAny (model prog w) A (.call (.ref f) args) R s := by
  refine ?whole
  obtain ⟨a1, a2, a3, a4, a5⟩ := A
  obtain rfl : a3 = some (env :: outer) := C.hA
  obtain rfl : a1 = none := C.hh
  obtain ⟨FG, BG, st, lv⟩ := groundX (R := fun r s' => News h₀ L s'.heap rest → R r s') C.B F N C.hA C.hf C.hk
  refine codeAny_call_def (fd := fnOf name qual params body scope dV kV doc pm an cdv ct) (body := body) (binds := binds) (by have : a2 + (d + 1) < recursionLimit := C.room; show a2 < recursionLimit; k_extra "o") ((C.X.keeps F.keep) _ _ ho) rfl (C.T.nolimit.keeps F.keep) (codeRec_of (C.X.keeps F.keep) hcd) rfl hbind hcell hloc (fun h₁ hns hk₁ => ?_) hco hgen hk
  have Ng : News h₀ L (hideAll s.heap (cells.map (·.1))) rest := fun q hq => ⟨hideAll_get _ (Nr q hq).1 (hdis q hq), (Nr q hq).2⟩
  refine wpAny_mono (h _ s.heap.objs.size h₁ a2 a4 a5 C.room C.units C.X FG ⟨hns, fun b o e => hk₁ b o (of_hideAll _ e), Nat.le_of_eq (hideAll_size _ _)⟩
    (fun p hp => ⟨hk₁ _ _ (N p hp).1, Nat.ne_of_lt (Heap.lt_size (N p hp).1), hideAll_none _ (List.mem_map_of_mem hp)⟩) Ng BG (C.X.keeps st) (C.T.keeps st)) (fun fl s' hl => ?_) fun _ _ y => y
  obtain ⟨L', m', news', F', _⟩ := id hl
  exact lv _ _ hl fun q hq => ⟨F'.keep _ _ (Ng q hq).1, (Nr q hq).2⟩
  run_tac Mine.Sh.shrink
end

inductive Rem (c : Addr × Obj) : List (Addr × Obj) → List (Addr × Obj) → Prop
  | head {r} : Rem c (c :: r) r
  | tail {q r r'} : Rem c r r' → Rem c (q :: r) (q :: r')
inductive Takes : List (Addr × Obj) → List (Addr × Obj) → List (Addr × Obj) → Prop
  | nil {r} : Takes [] r r
  | cons {c cs l l' r} : Rem c l l' → Takes cs l' r → Takes (c :: cs) l r
theorem Rem.mem {c : Addr × Obj} : ∀ {l r : List (Addr × Obj)}, Rem c l r → c ∈ l ∧ ∀ q ∈ r, q ∈ l
  | _, _, .head => ⟨.head _, fun _ h => .tail _ h⟩
  | _, _, .tail h => ⟨.tail _ h.mem.1, fun q hq => by
    cases hq with
    | head => exact .head _
    | tail _ hq => exact .tail _ (h.mem.2 q hq)⟩
theorem Takes.mem : ∀ {cs l r : List (Addr × Obj)}, Takes cs l r → (∀ q ∈ cs, q ∈ l) ∧ ∀ q ∈ r, q ∈ l
  | _, _, _, .nil => ⟨fun _ h => (nomatch h), fun _ h => h⟩
  | _, _, _, .cons h t => ⟨fun q hq => by
      cases hq with
      | head => exact h.mem.1
      | tail _ hq => exact h.mem.2 q (t.mem.1 q hq), fun q hq => h.mem.2 q (t.mem.2 q hq)⟩
end Mine
namespace Mine
theorem Rem.perm {c : Addr × Obj} : ∀ {l r : List (Addr × Obj)}, Rem c l r → (c :: r).Perm l
  | _, _, .head => .refl _
  | _, _, .tail h => (List.Perm.swap _ _ _).trans (h.perm.cons _)
theorem Takes.perm : ∀ {cs l r : List (Addr × Obj)}, Takes cs l r → (cs ++ r).Perm l
  | _, _, _, .nil => .refl _
  | _, _, _, .cons h t => (t.perm.cons _).trans h.perm
theorem Takes.left {cs l r : List (Addr × Obj)} {h₀ h : Heap} {L : Addr} (t : Takes cs l r) (N : News h₀ L h l) : News h₀ L h cs := fun q hq => N q (t.mem.1 q hq)
theorem Takes.right {cs l r : List (Addr × Obj)} {h₀ h : Heap} {L : Addr} (t : Takes cs l r) (N : News h₀ L h l) : News h₀ L h r := fun q hq => N q (t.mem.2 q hq)
theorem Takes.nodup {cs l r : List (Addr × Obj)} (t : Takes cs l r) (D : (l.map (·.1)).Nodup) : ((cs ++ r).map (·.1)).Nodup := (t.perm.map _).nodup_iff.mpr D
theorem Takes.nodupL {cs l r : List (Addr × Obj)} (t : Takes cs l r) (D : (l.map (·.1)).Nodup) : (cs.map (·.1)).Nodup := by
  have := t.nodup D
  rw [List.map_append] at this
  exact (List.nodup_append.mp this).1
theorem Takes.apart {cs l r : List (Addr × Obj)} (t : Takes cs l r) (D : (l.map (·.1)).Nodup) : ∀ q ∈ r, q.1 ∉ cs.map (·.1) := fun q hq hm => by
  have := t.nodup D
  rw [List.map_append] at this
  exact (List.nodup_append.mp this).2.2 _ hm _ (List.mem_map_of_mem hq) rfl
end Mine

namespace Mine
inductive Put (c c' : Addr × Obj) : List (Addr × Obj) → List (Addr × Obj) → Prop
  | head {r} : Put c c' (c :: r) (c' :: r)
  | tail {q r r'} : Put c c' r r' → Put c c' (q :: r) (q :: r')
inductive Puts : List (Addr × Obj) → List (Addr × Obj) → List (Addr × Obj) → List (Addr × Obj) → Prop
  | nil {l} : Puts [] [] l l
  | cons {c c' cs cs' l l1 l'} : Put c c' l l1 → Puts cs cs' l1 l' → Puts (c :: cs) (c' :: cs') l l'
theorem Put.new_mem {c c' : Addr × Obj} {l l' : List (Addr × Obj)} (h : Put c c' l l') : c' ∈ l' := by
  induction h with
  | head => exact .head _
  | tail _ ih => exact .tail _ ih
theorem Put.old_mem {c c' : Addr × Obj} {l l' : List (Addr × Obj)} (h : Put c c' l l') : c ∈ l := by
  induction h with
  | head => exact .head _
  | tail _ ih => exact .tail _ ih
theorem Put.spec {c c' : Addr × Obj} (e : c.1 = c'.1) : ∀ {l l' : List (Addr × Obj)}, Put c c' l l' → (l.map (·.1)).Nodup → l'.map (·.1) = l.map (·.1) ∧ ∀ q ∈ l', q = c' ∨ (q ∈ l ∧ q.1 ≠ c.1)
  | _, _, .head (r := r), D => by
    rw [List.map_cons, List.nodup_cons] at D
    refine ⟨by rw [List.map_cons, List.map_cons, e], fun q hq => ?_⟩
    rcases List.mem_cons.mp hq with rfl | hq
    · exact .inl rfl
    · exact .inr ⟨.tail _ hq, fun z => D.1 (z ▸ List.mem_map_of_mem hq)⟩
  | _, _, .tail (q := q) (r := r) (r' := r') h, D => by
    rw [List.map_cons, List.nodup_cons] at D
    obtain ⟨h1, h2⟩ := h.spec e D.2
    refine ⟨by rw [List.map_cons, List.map_cons, h1], fun x hx => ?_⟩
    rcases List.mem_cons.mp hx with rfl | hx
    · refine .inr ⟨.head _, fun z => D.1 ?_⟩
      rw [z, ← h1, e]
      exact List.mem_map.mpr ⟨_, h.new_mem, rfl⟩
    · rcases h2 x hx with h | ⟨h, h'⟩
      · exact .inl h
      · exact .inr ⟨.tail _ h, h'⟩
theorem Puts.spec : ∀ {cs cs' l l' : List (Addr × Obj)}, Puts cs cs' l l' → cs.map (·.1) = cs'.map (·.1) → (l.map (·.1)).Nodup → l'.map (·.1) = l.map (·.1) ∧ ∀ q ∈ l', q ∈ cs' ∨ (q ∈ l ∧ q.1 ∉ cs.map (·.1))
  | _, _, _, _, .nil, _, _ => ⟨rfl, fun q hq => .inr ⟨hq, fun z => nomatch z⟩⟩
  | _, _, _, _, .cons (c := c) (c' := c') h t, e, D => by
    rw [List.map_cons, List.map_cons, List.cons.injEq] at e
    obtain ⟨h1, h2⟩ := h.spec e.1 D
    obtain ⟨t1, t2⟩ := t.spec e.2 (h1 ▸ D)
    refine ⟨t1.trans h1, fun q hq => ?_⟩
    rcases t2 q hq with h | ⟨h, h'⟩
    · exact .inl (.tail _ h)
    · rcases h2 q h with rfl | ⟨k, k'⟩
      · exact .inl (.head _)
      · exact .inr ⟨k, fun z => (List.mem_cons.mp z).elim k' h'⟩
def Back (h₀ : Heap) (L : Addr) (h : Heap) (full cs cs' : List (Addr × Obj)) : Prop := ∀ l', Puts cs cs' full l' → News h₀ L h l'
def BackF (h₀ : Heap) (L : Addr) (h : Heap) (full cs cs' fr : List (Addr × Obj)) : Prop := ∀ l', Puts cs cs' full l' → News h₀ L h (fr ++ l')
theorem Back.get {h₀ h : Heap} {L : Addr} {full cs cs' l' : List (Addr × Obj)} (B : Back h₀ L h full cs cs') (P : Puts cs cs' full l') : News h₀ L h l' := B _ P
theorem BackF.get {h₀ h : Heap} {L : Addr} {full cs cs' fr l' : List (Addr × Obj)} (B : BackF h₀ L h full cs cs' fr) (P : Puts cs cs' full l') : News h₀ L h (fr ++ l') := B _ P
theorem backF {h₀ h : Heap} {L : Addr} {full rest cs cs' fr : List (Addr × Obj)} (Tk : Takes cs full rest) (D : (full.map (·.1)).Nodup) (N : News h₀ L h (fr ++ cs')) (Nr : News h₀ L h rest) (e : cs.map (·.1) = cs'.map (·.1)) : BackF h₀ L h full cs cs' fr := fun l' P q hq => by
  rcases List.mem_append.mp hq with hq | hq
  · exact N _ (List.mem_append_left _ hq)
  rcases (P.spec e D).2 q hq with h | ⟨h, h'⟩
  · exact N _ (List.mem_append_right _ h)
  · rcases List.mem_append.mp (Tk.perm.mem_iff.mpr h) with z | z
    · exact absurd (List.mem_map_of_mem (f := (·.1)) z) h'
    · exact Nr _ z
theorem back {h₀ h : Heap} {L : Addr} {full rest cs cs' : List (Addr × Obj)} (Tk : Takes cs full rest) (D : (full.map (·.1)).Nodup) (N : News h₀ L h cs') (Nr : News h₀ L h rest) (e : cs.map (·.1) = cs'.map (·.1)) : Back h₀ L h full cs cs' :=
  backF (fr := []) Tk D N Nr e
theorem updOf {d : Addr} {o o' : Obj} {l l' : List (Addr × Obj)} (D : (l.map (·.1)).Nodup) (h : Put (d, o) (d, o') l l') : Upd d o o' l l' := by
  induction h with
  | head =>
    rw [List.map_cons, List.nodup_cons] at D
    exact .head fun p hp z => D.1 (List.mem_map.mpr ⟨p, hp, z⟩)
  | tail h ih =>
    rw [List.map_cons, List.nodup_cons] at D
    exact .tail (fun z => D.1 (List.mem_map.mpr ⟨_, h.old_mem, z.symm⟩)) (ih D.2)
theorem newsSub {h₀ h : Heap} {L : Addr} {l cs r : List (Addr × Obj)} (N : News h₀ L h l) (T : Takes cs l r) : News h₀ L h cs := T.left N
theorem backF2 {h₀ h : Heap} {L : Addr} {full rest cs cs' fr : List (Addr × Obj)} (Tk : Takes cs full rest) (D : (full.map (·.1)).Nodup) (Nr : News h₀ L h rest) (N : News h₀ L h cs') (Nf : News h₀ L h fr) (e : cs.map (·.1) = cs'.map (·.1)) : BackF h₀ L h full cs cs' fr :=
  backF Tk D (fun q hq => by rcases List.mem_append.mp hq with z | z; exact Nf q z; exact N q z) Nr e
def FreshR (g : Heap) (rest : List (Addr × Obj)) : Prop := ∀ a, g.get? a = none → a ∉ rest.map (·.1)
theorem freshR {h₀ g : Heap} {L : Addr} {rest : List (Addr × Obj)} (N : News h₀ L g rest) : FreshR g rest := fun a ha hm => by
  obtain ⟨q, hq, rfl⟩ := List.mem_map.mp hm
  have := (N q hq).1
  rw [ha] at this
  exact nomatch this
theorem freshFull {g h' : Heap} {L' : Addr} {full rest cs news' r' : List (Addr × Obj)} {a : Addr} {o : Obj} (Tk : Takes cs full rest) (D : (full.map (·.1)).Nodup) (FR : FreshR g rest) (N : News g L' h' news') (hm : Rem (a, o) news' r') (hc : (a :: cs.map (·.1)).Nodup) :
    (a :: full.map (·.1)).Nodup := by
  refine List.nodup_cons.mpr ⟨fun z => ?_, D⟩
  obtain ⟨q, hq, e⟩ := List.mem_map.mp z
  rcases List.mem_append.mp (Tk.perm.mem_iff.mpr hq) with k | k
  · exact (List.nodup_cons.mp hc).1 (e ▸ List.mem_map_of_mem (f := (·.1)) k)
  · exact FR a (N _ hm.mem.1).2.2 (e ▸ List.mem_map_of_mem (f := (·.1)) k)
def NeAll (a : Nat) : List Nat → Prop
  | [] => True
  | b :: r => @Ne Nat a b ∧ NeAll a r
def LtC (a : Nat) : List Nat → Prop
  | [] => True
  | [b] => b < a
  | b :: c :: r => b < a ∧ LtC a (c :: r)
theorem neAll_of {a : Nat} : ∀ {l : List Nat}, LtC a l → NeAll a l
  | [], _ => trivial
  | [_], h => ⟨Nat.ne_of_gt h, trivial⟩
  | _ :: _ :: _, h => ⟨Nat.ne_of_gt h.1, neAll_of h.2⟩
theorem nodup_push {a : Addr} {l : List Addr} (D : l.Nodup) (h : NeAll a l) : (a :: l).Nodup := by
  rw [List.nodup_cons]
  refine ⟨fun z => ?_, D⟩
  clear D
  induction l with
  | nil => exact nomatch z
  | cons p r ih =>
    rcases List.mem_cons.mp z with e | z
    · exact h.1 e
    · exact ih h.2 z
theorem neAll_trans {a b : Nat} (h : b < a) : ∀ {l : List Nat}, LtC b l → NeAll a l
  | [], _ => trivial
  | [_], k => ⟨Nat.ne_of_gt (Nat.lt_trans k h), trivial⟩
  | _ :: _ :: _, k => ⟨Nat.ne_of_gt (Nat.lt_trans k.1 h), neAll_trans h k.2⟩
theorem nodup_push2 {a b : Addr} {l : List Addr} (h2 : b < a) (h1 : LtC b l) (D : l.Nodup) : (a :: b :: l).Nodup :=
  nodup_push (nodup_push D (neAll_of h1)) ⟨Nat.ne_of_gt h2, neAll_trans h2 h1⟩
inductive Addrs : List (Addr × Obj) → List Addr → Prop
  | nil : Addrs [] []
  | cons {a o l as} : Addrs l as → Addrs ((a, o) :: l) (a :: as)
theorem Addrs.eq : ∀ {l as}, Addrs l as → l.map (·.1) = as
  | _, _, .nil => rfl
  | _, _, .cons h => by rw [List.map_cons, h.eq]
theorem map_eq {l l' : List (Addr × Obj)} {as : List Addr} (h : Addrs l as) (h' : Addrs l' as) : l.map (·.1) = l'.map (·.1) := h.eq.trans h'.eq.symm
theorem nodup_addrs {l : List (Addr × Obj)} {as : List Addr} (h : Addrs l as) (D : as.Nodup) : (l.map (·.1)).Nodup := h.eq.symm ▸ D
theorem nodup_addrs2 {l fr : List (Addr × Obj)} {as as' : List Addr} (h' : Addrs fr as') (h : Addrs l as) (D : (as' ++ as).Nodup) : (fr.map (·.1) ++ l.map (·.1)).Nodup := h.eq.symm ▸ h'.eq.symm ▸ D
theorem nodup_addrs1 {l : List (Addr × Obj)} {a : Addr} {as : List Addr} (h : Addrs l as) (D : (a :: as).Nodup) : (a :: l.map (·.1)).Nodup := h.eq.symm ▸ D
inductive Ext (n : List (Addr × Obj)) (F : List Addr) : List Addr → List Addr → Prop
  | nil : Ext n F F []
  | cons {a o r as fr} : Rem (a, o) n r → Ext n F as fr → Ext n F (a :: as) (a :: fr)
theorem Ext.spec {n : List (Addr × Obj)} {F : List Addr} : ∀ {as fr}, Ext n F as fr → as = fr ++ F ∧ ∀ a ∈ fr, ∃ o, (a, o) ∈ n
  | _, _, .nil => ⟨rfl, fun _ h => nomatch h⟩
  | _, _, .cons h e => ⟨by rw [e.spec.1]; rfl, fun a ha => by
      rcases List.mem_cons.mp ha with rfl | ha
      · exact ⟨_, h.mem.1⟩
      · exact e.spec.2 a ha⟩
theorem freshExt {g h' : Heap} {L' : Addr} {full rest cs news' : List (Addr × Obj)} {as fr cA : List Addr} (Tk : Takes cs full rest) (D : (full.map (·.1)).Nodup) (FR : FreshR g rest) (N : News g L' h' news') (E : Ext news' (full.map (·.1)) as fr) (A : Addrs cs cA) (hc : (fr ++ cA).Nodup) : as.Nodup := by
  rw [E.spec.1]
  rw [← A.eq] at hc
  rw [List.nodup_append] at hc ⊢
  refine ⟨hc.1, D, fun a ha b hb e => ?_⟩
  subst e
  obtain ⟨o, ho⟩ := E.spec.2 a ha
  obtain ⟨z, hz, e⟩ := List.mem_map.mp hb
  rcases List.mem_append.mp (Tk.perm.mem_iff.mpr hz) with k | k
  · exact hc.2.2 _ ha _ (List.mem_map_of_mem (f := (·.1)) k) e.symm
  · exact FR a (N _ ho).2.2 (e ▸ List.mem_map_of_mem (f := (·.1)) k)
inductive PutF (d : Addr) (o : Obj) : List (Addr × Obj) → (Obj → List (Addr × Obj)) → Prop
  | head {r} : PutF d o ((d, o) :: r) (fun o' => (d, o') :: r)
  | tail {q r g} : PutF d o r g → PutF d o (q :: r) (fun o' => q :: g o')
theorem PutF.mem {d : Addr} {o : Obj} {l : List (Addr × Obj)} {g : Obj → List (Addr × Obj)} (h : PutF d o l g) : (d, o) ∈ l := by
  induction h with
  | head => exact .head _
  | tail _ ih => exact .tail _ ih
theorem updFOf {d : Addr} {o : Obj} {l : List (Addr × Obj)} {g : Obj → List (Addr × Obj)} (D : (l.map (·.1)).Nodup) (h : PutF d o l g) : UpdF d o l g := by
  induction h with
  | head =>
    rw [List.map_cons, List.nodup_cons] at D
    exact .head fun p hp z => D.1 (List.mem_map.mpr ⟨p, hp, z⟩)
  | tail h ih =>
    rw [List.map_cons, List.nodup_cons] at D
    exact .tail (fun z => D.1 (List.mem_map.mpr ⟨_, h.mem, z.symm⟩)) (ih D.2)
end Mine

namespace Mine
structure DiskS where
  left : Int
  spent : Int
  alive : Bool
  nd : Addr
  made : Int
  kn : Addr
  pr : Addr
  jn : Addr
  t0 : Tok
  t1 : Tok
  t2 : Tok
  t3 : Tok
  t4 : Tok
  t5 : Tok
  t6 : Tok
  t7 : Tok
  u0 : Tok
  u1 : Tok
  u2 : Tok
abbrev diskO (w : World) (σ : DiskS) : Obj :=
  dictOf [kv w "left" σ.t0 (.int σ.left σ.u0), kv w "spent" σ.t1 (.int σ.spent σ.u1), kv w "alive" σ.t2 (.bool σ.alive), kv w "nodes" σ.t3 (.ref σ.nd), kv w "made" σ.t4 (.int σ.made σ.u2), kv w "kept_names" σ.t5 (.ref σ.kn), kv w "present" σ.t6 (.ref σ.pr), kv w "journal" σ.t7 (.ref σ.jn)] 8
structure NodeS where
  num : Int
  ba : Addr
  kept : Int
  t0 : Tok
  t1 : Tok
  t2 : Tok
  u0 : Tok
  u2 : Tok
abbrev nodeO (w : World) (ν : NodeS) : Obj := dictOf [kv w "number" ν.t0 (.int ν.num ν.u0), kv w "data" ν.t1 (.ref ν.ba), kv w "kept" ν.t2 (.int ν.kept ν.u2)] 3
structure FileS where
  disk : Addr
  node : Addr
  closed : Bool
  t0 : Tok
  t1 : Tok
  t2 : Tok
  t3 : Tok
  u1 : Tok
abbrev fileO (w : World) (φ : FileS) : Obj := dictOf [kv w "disk" φ.t0 (.ref φ.disk), kv w "name" φ.t1 (.str "j" φ.u1), kv w "node" φ.t2 (.ref φ.node), kv w "closed" φ.t3 (.bool φ.closed)] 4

structure StepS where
  num : Int
  t0 : Tok
  t1 : Tok
  t2 : Tok
  t3 : Tok
  u0 : Tok
  u1 : Tok
  u2 : Tok
  u3 : Tok
abbrev stepO (w : World) (τ : StepS) : Obj := dictOf [kv w "kind" τ.t0 (.int 1 τ.u0), kv w "name" τ.t1 (.str "j" τ.u1), kv w "other" τ.t2 (.str "" τ.u2), kv w "number" τ.t3 (.int τ.num τ.u3)] 4
structure WrS where
  file : Addr
  block : Int
  check : Int
  length : Int
  t0 : Tok
  t1 : Tok
  t2 : Tok
  t3 : Tok
  u1 : Tok
  u2 : Tok
  u3 : Tok
abbrev wrO (w : World) (ω : WrS) : Obj := dictOf [kv w "file" ω.t0 (.ref ω.file), kv w "block" ω.t1 (.int ω.block ω.u1), kv w "check" ω.t2 (.int ω.check ω.u2), kv w "length" ω.t3 (.int ω.length ω.u3)] 4
end Mine

namespace Mine
noncomputable def cellI : List (Addr × Obj) → Nat → Addr × Obj
  | [], _ => (0, instObj 0 0)
  | a :: _, 0 => a
  | _ :: l, i + 1 => cellI l i
noncomputable def hasI : List (Addr × Obj) → Nat → Bool
  | [], _ => false
  | _ :: _, 0 => true
  | _ :: l, i + 1 => hasI l i
noncomputable def delI : List (Addr × Obj) → Nat → List (Addr × Obj)
  | [], _ => []
  | _ :: l, 0 => l
  | a :: l, i + 1 => a :: delI l i
noncomputable def putI : List (Addr × Obj) → Nat → Addr × Obj → List (Addr × Obj)
  | [], _, _ => []
  | _ :: l, 0, c => c :: l
  | a :: l, i + 1, c => a :: putI l i c
noncomputable def picksI (l : List (Addr × Obj)) : List Nat → List (Addr × Obj)
  | [] => []
  | i :: is => cellI l i :: picksI (delI l i) is
noncomputable def restsI (l : List (Addr × Obj)) : List Nat → List (Addr × Obj)
  | [] => l
  | i :: is => restsI (delI l i) is
noncomputable def hasAllI (l : List (Addr × Obj)) : List Nat → Bool
  | [] => true
  | i :: is => hasI l i && hasAllI (delI l i) is
noncomputable def oldsI (l : List (Addr × Obj)) : List Nat → List (Addr × Obj) → List (Addr × Obj)
  | i :: is, c :: cs => cellI l i :: oldsI (putI l i c) is cs
  | _, _ => []
noncomputable def newsI (l : List (Addr × Obj)) : List Nat → List (Addr × Obj) → List (Addr × Obj)
  | i :: is, c :: cs => newsI (putI l i c) is cs
  | _, _ => l
noncomputable def putsOkI (l : List (Addr × Obj)) : List Nat → List (Addr × Obj) → Bool
  | i :: is, c :: cs => hasI l i && putsOkI (putI l i c) is cs
  | [], [] => true
  | _, _ => false
theorem mem_at : ∀ (l : List (Addr × Obj)) (i : Nat), hasI l i = true → cellI l i ∈ l
  | [], _, h => nomatch h
  | _ :: _, 0, _ => .head _
  | _ :: l, i + 1, h => .tail _ (mem_at l i h)
theorem rem_at : ∀ (l : List (Addr × Obj)) (i : Nat), hasI l i = true → Rem (cellI l i) l (delI l i)
  | [], _, h => nomatch h
  | _ :: _, 0, _ => .head
  | _ :: l, i + 1, h => .tail (rem_at l i h)
theorem takes_at : ∀ (l : List (Addr × Obj)) (is : List Nat), hasAllI l is = true → Takes (picksI l is) l (restsI l is)
  | _, [], _ => .nil
  | l, i :: is, h => .cons (rem_at l i (Bool.and_eq_true_iff.mp h).1) (takes_at (delI l i) is (Bool.and_eq_true_iff.mp h).2)
theorem put_at : ∀ (l : List (Addr × Obj)) (i : Nat) (c : Addr × Obj), hasI l i = true → Put (cellI l i) c l (putI l i c)
  | [], _, _, h => nomatch h
  | a :: r, 0, c, _ => @Put.head a c r
  | a :: l, i + 1, c, h => @Put.tail (cellI l i) c a l (putI l i c) (put_at l i c h)
theorem puts_at : ∀ (l : List (Addr × Obj)) (is : List Nat) (cs : List (Addr × Obj)), putsOkI l is cs = true → Puts (oldsI l is cs) cs l (newsI l is cs)
  | l, [], [], _ => @Puts.nil l
  | l, i :: is, c :: cs, h => @Puts.cons (cellI l i) c (oldsI (putI l i c) is cs) cs l (putI l i c) (newsI (putI l i c) is cs) (put_at l i c (Bool.and_eq_true_iff.mp h).1) (puts_at (putI l i c) is cs (Bool.and_eq_true_iff.mp h).2)
  | _, [], _ :: _, h => Bool.noConfusion h
  | _, _ :: _, [], h => Bool.noConfusion h
theorem putF_at : ∀ (l : List (Addr × Obj)) (i : Nat), hasI l i = true → PutF (cellI l i).1 (cellI l i).2 l (fun o => putI l i ((cellI l i).1, o))
  | [], _, h => nomatch h
  | a :: r, 0, _ => @PutF.head a.1 a.2 r
  | a :: l, i + 1, h => @PutF.tail (cellI l i).1 (cellI l i).2 a l (fun o => putI l i ((cellI l i).1, o)) (putF_at l i h)
theorem ltC_of {d : Addr} : ∀ {l : List (Addr × Obj)}, AllLt d l → LtC d (l.map (·.1))
  | [], _ => trivial
  | [_], h => h.1
  | _ :: q :: l, h => ⟨h.1, ltC_of (l := q :: l) h.2⟩
theorem freshExt' {g h' : Heap} {L' : Addr} {full rest cs news' : List (Addr × Obj)} {as fr : List Addr} (Tk : Takes cs full rest) (D : (full.map (·.1)).Nodup) (FR : FreshR g rest) (N : News g L' h' news') (E : Ext news' (full.map (·.1)) as fr) (hc : (fr ++ cs.map (·.1)).Nodup) : as.Nodup :=
  freshExt (cA := cs.map (·.1)) Tk D FR N E (by clear Tk hc; induction cs with | nil => exact .nil | cons _ _ ih => exact .cons ih) hc
end Mine
end
section
set_option maxRecDepth 100000
namespace Mine
open PySem.Spec Builtin

namespace BA
theorem mro : mroOf (.type "bytearray") = pure [.type "bytearray", .type "object"] := by rw [mroOf_type]; kernel_rfl
theorem look_new : typeLookup (.type "bytearray") "__new__" = pure (some (.builtin "bytearray.__new__")) := by rw [typeLookup_type, builtinLookup_eq_fast]; kernel_rfl
theorem slot_init : Slot "bytearray" "__init__" "bytearray.__init__" :=
  .of (owner := "bytearray") (n := "__init__") (by rw [typeLookup_type, builtinLookup_eq_fast]; kernel_rfl) (by decide +kernel) (by decide +kernel) (by decide +kernel)
    (by first | exact .inl (by decide +kernel) | exact .inr (by decide +kernel)) (by rw [isSubtype_type]; kernel_rfl)
theorem called : TypeCalled "bytearray" "bytearray.__new__" "bytearray.__init__" :=
  ⟨by decide +kernel, by decide +kernel, ⟨_, _, mro⟩, madeBy_type mro look_new (by decide +kernel), by decide +kernel, by rw [isSubtype_type]; kernel_rfl, slot_init⟩
theorem typeCall0 : checkTypeCall "bytearray" ⟨[], []⟩ = pure () := by kernel_rfl
theorem typeCall1 (a : Value) : checkTypeCall "bytearray" ⟨[a], []⟩ = pure () := by kernel_rfl
theorem newCall (r : List Value) : checkBuiltinCall "bytearray.__new__" ⟨.type "bytearray" :: r, []⟩ = pure () := by kernel_rfl
theorem entry_new : entryFor table "bytearray.__new__" = some Builtin.«list.__new__» := entryFor_alias (id' := "list.__new__") (by rw [fastTable_eq_tree]; kernel_rfl) rfl (by decide +kernel) (by rw [fastTable_eq_tree]; kernel_rfl)
theorem plain_new : plainId "bytearray.__new__" = true := by decide +kernel
theorem entry_init : entryFor table "bytearray.__init__" = some Builtin.«bytearray.__init__» := entryFor_of_tree (by kernel_rfl)
theorem args_init0 (a : Value) : argsOk "bytearray.__init__" ⟨[a], []⟩ := by unfold argsOk; kernel_rfl
theorem args_init1 (a b : Value) : argsOk "bytearray.__init__" ⟨[a, b], []⟩ := by unfold argsOk; kernel_rfl
theorem sub_self : isSubtype (.type "bytearray") (.type "bytearray") = pure true := by rw [isSubtype_type]; kernel_rfl
theorem look_release : typeLookup (.type "bytearray") "__release_buffer__" = pure (some (.builtin "bytearray.__release_buffer__")) := by rw [typeLookup_type, builtinLookup_eq_fast]; kernel_rfl
theorem look_buffer : typeLookup (.type "bytearray") "__buffer__" = pure (some (.builtin "bytearray.__buffer__")) := by rw [typeLookup_type, builtinLookup_eq_fast]; kernel_rfl
theorem look_index : typeLookup (.type "bytearray") "__index__" = pure none := by rw [typeLookup_type, builtinLookup_eq_fast]; kernel_rfl
theorem look_bytes : typeLookup (.type "bytearray") "__bytes__" = pure none := by rw [typeLookup_type, builtinLookup_eq_fast]; kernel_rfl
theorem bytes_look_index : typeLookup (.type "bytes") "__index__" = pure none := by rw [typeLookup_type, builtinLookup_eq_fast]; kernel_rfl
theorem sub_str : isSubtype (.type "bytearray") (.type "str") = pure false := by rw [isSubtype_type]; kernel_rfl
theorem bind0 : Bytes.bindOptional "bytearray.__init__" "bytearray" ["source", "encoding", "errors"] [] [] = pure [none, none, none] := by kernel_rfl
theorem bind1 (v : Value) : Bytes.bindOptional "bytearray.__init__" "bytearray" ["source", "encoding", "errors"] [v] [] = pure [some v, none, none] := by kernel_rfl
set_option maxRecDepth 1000000 in
set_option maxHeartbeats 4000000 in
theorem owner_new : ("bytearray.__new__".splitOn ".__new__").headD "" = "bytearray" := by simp +decide [String.splitOn, String.splitOnAux]
theorem slot_extend : Slot "bytearray" "extend" "bytearray.extend" :=
  .of (owner := "bytearray") (n := "extend") (by rw [typeLookup_type, builtinLookup_eq_fast]; kernel_rfl) (by decide +kernel) (by decide +kernel) (by decide +kernel)
    (by first | exact .inl (by decide +kernel) | exact .inr (by decide +kernel)) sub_self
theorem slot_len : Slot "bytearray" "__len__" "bytearray.__len__" :=
  .of (owner := "bytearray") (n := "__len__") (by rw [typeLookup_type, builtinLookup_eq_fast]; kernel_rfl) (by decide +kernel) (by decide +kernel) (by decide +kernel)
    (by first | exact .inl (by decide +kernel) | exact .inr (by decide +kernel)) sub_self
theorem slot_getitem : Slot "bytearray" "__getitem__" "bytearray.__getitem__" :=
  .of (owner := "bytearray") (n := "__getitem__") (by rw [typeLookup_type, builtinLookup_eq_fast]; kernel_rfl) (by decide +kernel) (by decide +kernel) (by decide +kernel)
    (by first | exact .inl (by decide +kernel) | exact .inr (by decide +kernel)) sub_self
theorem entry_extend : entryFor table "bytearray.extend" = some Builtin.«bytearray.extend» := entryFor_of_tree (by kernel_rfl)
theorem entry_len : entryFor table "bytearray.__len__" = some Builtin.«bytearray.__len__» := entryFor_of_tree (by kernel_rfl)
theorem entry_getitem : entryFor table "bytearray.__getitem__" = some Builtin.«bytearray.__getitem__» := entryFor_of_tree (by kernel_rfl)
theorem args_extend (a b : Value) : argsOk "bytearray.extend" ⟨[a, b], []⟩ := by unfold argsOk; kernel_rfl
theorem args_len (a : Value) : argsOk "bytearray.__len__" ⟨[a], []⟩ := by unfold argsOk; kernel_rfl
theorem args_getitem (a b : Value) : argsOk "bytearray.__getitem__" ⟨[a, b], []⟩ := by unfold argsOk; kernel_rfl
theorem type_extend : typeOf (.builtin "bytearray.extend") = pure (.type "method_descriptor") := by show builtinType _ = _; rw [builtinType_eq_fast]; kernel_rfl
theorem plainAttrs : PlainAttrs "bytearray" :=
  ⟨⟨"bytearray.__getattribute__", by rw [typeLookup_type, builtinLookup_eq_fast]; kernel_rfl, by decide +kernel⟩, by rw [typeLookup_type, builtinLookup_eq_fast]; kernel_rfl⟩
theorem ok_extend (args : Args) : OkCode (.builtin "bytearray.extend" args) := fun p self => by
  obtain ⟨pos, kw⟩ := args
  cases pos with
  | nil => rfl
  | cons v r =>
    show stackSays (Builtin.Bytes.exported self) [(.builtin "bytearray.extend" ⟨v :: r, kw⟩, p)] = some false
    have e : stackSays (Builtin.Bytes.exported self) [(.builtin "bytearray.extend" ⟨v :: r, kw⟩, p)] = some ((Builtin.Bytes.sameRef v self && Builtin.Bytes.decodersThatHold.contains "bytearray.extend") || false) := by kernel_rfl
    rw [e, show Builtin.Bytes.decodersThatHold.contains "bytearray.extend" = false by kernel_rfl, Bool.and_false]; rfl
theorem ok_typecall (v : String) (r : List Value) (kw : List (Str × Value)) : OkCode (.builtin "type.__call__" ⟨.type v :: r, kw⟩) := fun _ _ => rfl
end BA

abbrev baO (b : Array UInt8) : Obj := { cls := .type "bytearray", data := .bytearray b }

section
variable {prog : Program} {w : World} {A : Around} {E : Value → Shared → Prop} {s : Shared}
theorem ba_typeIs {a : Addr} {b : Array UInt8} (h : s.heap.get? a = some (baO b)) : s.TypeIs (.ref a) "bytearray" := ⟨_, h, rfl⟩

theorem ba_new (rest : List Value) {Q₁ : Value → Shared → Prop}
    (h : Q₁ (.ref s.heap.objs.size) { s with heap := s.heap.push (baO #[]) }) :
    codeAny (model prog w) A (.call (.builtin "bytearray.__new__") ⟨.type "bytearray" :: rest, []⟩) (wants Q₁ E) s := by
  refine ?whole
  refine codeAny_of_tree ?_
  show wpAny _ A.in1 (do checkBuiltinCall "bytearray.__new__" ⟨.type "bytearray" :: rest, []⟩; again (.builtin "bytearray.__new__" ⟨.type "bytearray" :: rest, []⟩)) _ _ s
  refine wpAny_bind (wpAny_of_eq (BA.newCall rest) (wpAny_pure ⟨plainId_quiet BA.plain_new _, codeAny_builtin_stack BA.entry_new rfl fun p st => ?_⟩))
  rw [Around.under_plainId BA.plain_new _]
  have hsub := BA.sub_self
  have hown := BA.owner_new
  obtain ⟨hp, g, d, tk, os⟩ := s
  simp only [hown]
  wp_walk
  exact h
  run_tac Mine.Sh.shrink
theorem ba_payload {a : Addr} {b : Array UInt8} {Q : Array UInt8 → Shared → Prop} (h : s.heap.get? a = some (baO b)) (hq : Q b s) : wpAny (model prog w) A (Bytes.payload (.ref a)) Q E s := by
  unfold Bytes.payload Bytes.payload?
  exact wpAny_bind (wpAny_bind (wpAny_load h (wpAny_pure (wpAny_pure hq))))
theorem ba_slotIsOwn {name : String} {a : Addr} {b : Array UInt8} {Q : Bool → Shared → Prop} (h : s.heap.get? a = some (baO b))
    (hl : typeLookup (.type "bytearray") (name : Str) = pure (some (.builtin ("bytearray." ++ name)))) (h1 : (!("bytearray." ++ name).endsWith ("." ++ name)) = false)
    (h2 : ("bytearray." ++ name).dropRight (name.length + 1) = "bytearray") (hq : Q true s) : wpAny (model prog w) A (Bytes.slotIsOwn (.ref a) name) Q E s := by
  unfold Bytes.slotIsOwn
  refine wpAny_bind (wpAny_specialOf (ba_typeIs h) hl ?_)
  dsimp only
  rw [h1, h2]
  exact wpAny_isInstance (ba_typeIs h) BA.sub_self hq
theorem ba_ownRelease {a : Addr} {b : Array UInt8} {Q : Bool → Shared → Prop} (h : s.heap.get? a = some (baO b)) (hq : Q false s) : wpAny (model prog w) A (Bytes.ownRelease (.ref a)) Q E s := by
  unfold Bytes.ownRelease
  exact wpAny_bind (ba_slotIsOwn (name := "__release_buffer__") h BA.look_release (by decide +kernel) (by decide +kernel) (wpAny_pure hq))
theorem ba_buffer {id : String} {full : Bool} {a : Addr} {b : Array UInt8} {Q : Option (Array UInt8) → Shared → Prop} (h : s.heap.get? a = some (baO b)) (hq : Q (some b) s) : wpAny (model prog w) A (Bytes.buffer? id (.ref a) full) Q E s := by
  unfold Bytes.buffer?
  refine wpAny_bind (wpAny_specialOf (ba_typeIs h) BA.look_buffer ?_)
  refine wpAny_bind (ba_slotIsOwn (name := "__buffer__") h BA.look_buffer (by decide +kernel) (by decide +kernel) ?_)
  refine wpAny_bind (wpAny_specialOf (ba_typeIs h) BA.look_buffer ?_)
  refine wpAny_bind (ba_ownRelease h ?_)
  exact wpAny_bind (ba_payload h (wpAny_pure hq))
theorem ba_write {a : Addr} {b : Array UInt8} {f : Array UInt8 → Array UInt8} {Q : Unit → Shared → Prop} (h : s.heap.get? a = some (baO b)) (hz : (f b).size ≤ sizeLine)
    (hq : ∀ h', Heap.SameBut a s.heap h' → h'.get? a = some (baO (f b)) → Q () { s with heap := h' }) : wpAny (model prog w) A (Bytes.write (.ref a) f) Q E s := by
  unfold Bytes.write updateBytearray
  refine wpAny_bind (wpAny_load h ?_)
  dsimp only
  refine wpAny_bind (wpAny_update h ?_)
  have hs : Heap.SameBut a s.heap (s.heap.update a (Obj.mapBytearray f)) := Heap.SameBut.update ..
  have hg : (s.heap.update a (Obj.mapBytearray f)).get? a = some (baO (f b)) := by
    exact Heap.get?_update_self _ h rfl
  refine wpAny_lookBehind hg (by show (if (f b).size > sizeLine then _ else _) = none; rw [if_neg (by k_extra "o")]) (hq _ hs hg)

section
variable {A : Around}
theorem callTypeG {T newId initId : String} {Bi : Builtin} {args : List Value} {Q Q₁ : Value → Shared → Prop} (ft : TypeCalled T newId initId)
    (hct : checkTypeCall T ⟨args, []⟩ = pure ()) (entryI : entryFor table initId = some Bi) (okI : ∀ obj, OkCode (.builtin initId ⟨obj :: args, []⟩))
    (hnew : codeAny (model prog w) A.in1 (.call (.builtin newId) ⟨.type T :: args, []⟩) (wants Q₁ E) s)
    (hnext : ∀ obj s₁, Q₁ obj s₁ → s₁.TypeIs obj T ∧ argsOk initId ⟨obj :: args, []⟩ ∧
      wpG (model prog w) A.in1.in1 (Bi ⟨obj :: args, []⟩) (fun fin s' => fin = .done (.ret .none) ∧ Q obj s') E s₁) :
    wpG (model prog w) A (call (.type T) args) Q E s := by
  refine ?whole
  obtain ⟨c, tl, hmro⟩ := ft.mro
  have hmade := ft.made
  have hsub := ft.sub
  refine wpG_call (codeG_of_tree (ok_call _ _) ?_)
  refine wpG_of_any ?_
  show wpAny _ _ (callAny (.type T) _) _ _ _
  refine wpAny_pure ⟨Code.quiet_builtin _ (by decide +kernel), codeG_builtin F.entry_type_call (BA.ok_typecall T args []) ?_⟩
  rw [Around.under_plain (weight_type_call_type T args []) rfl]
  have h1 := ft.notType
  have h2 := ft.canCreate
  unfold Builtin.«type.__call__»
  dsimp only
  rw [h1]
  simp only [Bool.false_eq_true, if_false]
  rw [h2]
  simp only [Bool.false_eq_true, if_false]
  refine wpG_bind (wpG_of_eq hct ?_)
  refine wpG_bind (wpG_of_eq hmro ?_)
  simp only [List.isEmpty_cons, Bool.false_eq_true, if_false]
  refine wpG_bind (wpG_of_eq hmade ?_)
  dsimp only
  refine wpG_bind (wpG_pure ?_)
  refine wpG_bind (wpG_holding (wpG_call (codeG_of_any (codeAny_mono hnew fun r s₁ hr => ?_))))
  cases r with
  | error e => exact hr
  | ok fl => cases fl with
    | ret obj =>
      obtain ⟨hT, hok, hsi⟩ := hnext _ _ hr
      dsimp only
      refine wpG_bind (wpG_of_any (wpAny_isInstance hT hsub ?_))
      simp only [Bool.not_true, Bool.false_eq_true, if_false]
      refine wpG_bind (wpG_holding ?_)
      unfold callSpecial?
      refine wpG_bind (wpG_of_any (wpAny_specialOf hT ft.init.lookup ?_))
      dsimp only
      refine wpG_holding (wpG_bind (wpG_of_eq (ft.init.bind obj) ?_))
      dsimp only
      refine wpG_bind (wpG_call (codeG_of_tree (ok_call _ _) ?_))
      show wpG _ _ (do checkBuiltinCall initId ⟨[obj] ++ args, []⟩; again (.builtin initId ⟨[obj] ++ args, []⟩)) _ _ _
      refine wpG_bind (wpG_of_any (ft.init.check _ _ _ _ _ _ _ _ hT hok ?_))
      refine wpG_pure ⟨plainId_quiet ft.init.plain _, codeG_builtin entryI (okI obj) ?_⟩
      rw [Around.under_plainId ft.init.plain _]
      refine wpG_mono hsi (fun fin s' h => ?_) (fun e s' h => h)
      obtain ⟨rfl, hq⟩ := h
      dsimp only
      refine wpG_pure ?_
      dsimp only
      exact wpG_pure hq
    | _ => exact hr.elim
  run_tac Mine.Sh.shrink
theorem ba_exportsOf {a : Addr} {b : Array UInt8} {Q : Nat → Shared → Prop} (h : s.heap.get? a = some (baO b)) (hq : Q 0 s) : wpAny (model prog w) A (Bytes.exportsOf (.ref a)) Q E s := by
  unfold Bytes.exportsOf
  exact wpAny_bind (wpAny_load h (wpAny_pure hq))
theorem ba_noExport {a : Addr} {b : Array UInt8} {Q : Bool → Shared → Prop} (h : s.heap.get? a = some (baO b)) (hq : Q false s) :
    wpG (model prog w) A (Bytes.exported (.ref a) <||> do return (← Bytes.exportsOf (.ref a)) > 0) Q E s := by
  show wpG _ _ (Bytes.exported (.ref a) >>= fun b => match toBool b with | true => pure b | false => do return (← Bytes.exportsOf (.ref a)) > 0) Q E s
  refine wpG_bind (wpG_exported ?_)
  exact wpG_of_any (wpAny_bind (ba_exportsOf h (wpAny_pure hq)))
theorem ba_checkResize {a : Addr} {b : Array UInt8} {Q : Unit → Shared → Prop} (h : s.heap.get? a = some (baO b)) (hq : Q () s) : wpG (model prog w) A (Bytes.checkResize (.ref a)) Q E s := by
  unfold Bytes.checkResize
  refine wpG_bind (ba_noExport h ?_)
  exact wpG_pure hq
theorem ba_init0 {a : Addr} {Q : Shared → Prop} (h : s.heap.get? a = some (baO #[])) (hq : ∀ h', Heap.SameBut a s.heap h' → h'.get? a = some (baO #[]) → Q { s with heap := h' }) :
    wpG (model prog w) A (Builtin.«bytearray.__init__» ⟨[.ref a], []⟩) (fun fin s' => fin = .done (.ret .none) ∧ Q s') E s := by
  refine ?whole
  unfold Builtin.«bytearray.__init__»
  dsimp only
  refine wpG_bind (wpG_of_any (ba_ownRelease h ?_))
  simp only [Bool.false_eq_true, if_false]
  refine wpG_bind (wpG_of_eq BA.bind0 ?_)
  dsimp only
  refine wpG_bind (wpG_of_eq rfl (wpG_bind (wpG_of_eq rfl (wpG_bind (ba_noExport h ?_)))))
  simp only [Bool.false_eq_true, if_false, Option.isSome_none]
  refine wpG_bind (wpG_of_any (ba_write h (Nat.zero_le _) fun h' hs hg => ?_))
  exact wpG_bind (wpG_pure (wpG_pure ⟨rfl, hq h' hs hg⟩))
  run_tac Mine.Sh.shrink
theorem ba_init_any {a : Addr} {src : Value} {b : Array UInt8} {Q : Shared → Prop} (h : s.heap.get? a = some (baO #[])) (hz : b.size ≤ 16777216)
    (hstr : ∀ s' : Shared, Heap.SameBut a s.heap s'.heap → wpAny (model prog w) A (asStr? src) (fun r s'' => r = none ∧ s'' = s') E s')
    (hidx : ∀ s' : Shared, Heap.SameBut a s.heap s'.heap → wpAny (model prog w) A (specialOf src "__index__") (fun r s'' => r = none ∧ s'' = s') E s')
    (hbuf : ∀ s' : Shared, Heap.SameBut a s.heap s'.heap → wpAny (model prog w) A (Bytes.buffer? "bytearray.__init__" src true) (fun r s'' => r = some b ∧ s'' = s') E s')
    (hq : ∀ h', Heap.SameBut a s.heap h' → h'.get? a = some (baO b) → Q { s with heap := h' }) :
    wpG (model prog w) A (Builtin.«bytearray.__init__» ⟨[.ref a, src], []⟩) (fun fin s' => fin = .done (.ret .none) ∧ Q s') E s := by
  refine ?whole
  unfold Builtin.«bytearray.__init__»
  dsimp only
  refine wpG_bind (wpG_of_any (ba_ownRelease h ?_))
  simp only [Bool.false_eq_true, if_false]
  refine wpG_bind (wpG_of_eq (BA.bind1 src) ?_)
  dsimp only
  refine wpG_bind (wpG_of_eq rfl (wpG_bind (wpG_of_eq rfl (wpG_bind (ba_noExport h ?_)))))
  simp only [Bool.false_eq_true, if_false, Option.isSome_none]
  refine wpG_bind (wpG_of_any (ba_write h (Nat.zero_le _) fun h' hs hg => ?_))
  refine wpG_of_any ?_
  refine wpAny_bind (wpAny_mono (hstr { s with heap := h' } hs) (fun r s' e => ?_) fun _ _ e => e)
  obtain ⟨rfl, rfl⟩ := e
  simp only [Option.isSome_none, Bool.false_eq_true, if_false]
  refine wpAny_bind (wpAny_pure ?_)
  refine wpAny_bind (wpAny_mono (hidx { s with heap := h' } hs) (fun r s' e => ?_) fun _ _ e => e)
  obtain ⟨rfl, rfl⟩ := e
  simp only [Option.isSome_none, Bool.false_eq_true, if_false]
  refine wpAny_bind (wpAny_mono (hbuf { s with heap := h' } hs) (fun r s' e => ?_) fun _ _ e => e)
  obtain ⟨rfl, rfl⟩ := e
  dsimp only
  refine wpAny_bind (wpAny_rule (wpAny_bind (ba_write hg (by rw [sizeLine_eq]; exact hz) fun h'' hs' hg' => wpAny_bind (wpAny_pure (wpAny_pure ⟨rfl, ?_⟩)))))
  exact hq h'' (hs.trans hs') hg'
  run_tac Mine.Sh.shrink
theorem ba_same_old {a : Addr} {h h' : Heap} (hs : Heap.SameBut a (h.push (baO #[])) h') (e : a = h.objs.size) : ∀ b o, h.get? b = some o → h'.get? b = some o := fun b o hb =>
  (hs.2 b (by rw [e]; exact Nat.ne_of_lt (Heap.lt_size hb))).trans (Heap.get?_push_of_some _ hb)

section
variable {h₀ : Heap} {L : Addr} {m : Str → Option Value} {news : List (Addr × Obj)} {Q : Value → Shared → Prop}

theorem call_ba0 (F : Fr h₀ L s.heap m) (N : News h₀ L s.heap news)
    (h : ∀ a h', Fr h₀ L h' m → News h₀ L h' ((a, baO #[]) :: news) → (∀ p ∈ news, p.1 < a) → Q (.ref a) { s with heap := h' }) : wpG (model prog w) A (call (.type "bytearray") []) Q E s := by
  refine callTypeG (Q₁ := fun obj s₁ => obj = .ref s.heap.objs.size ∧ s₁ = { s with heap := s.heap.push (baO #[]) }) BA.called BA.typeCall0 BA.entry_init (fun _ => ok_init _) (ba_new [] ⟨rfl, rfl⟩) ?_
  rintro _ _ ⟨rfl, rfl⟩
  have hg : (s.heap.push (baO #[])).get? s.heap.objs.size = some (baO #[]) := Heap.get?_push_size _ rfl
  refine ⟨⟨_, hg, rfl⟩, BA.args_init0 _, ba_init0 (s := { s with heap := s.heap.push (baO #[]) }) hg fun h' hs hg' => ?_⟩
  exact h _ h' (F.filled hs) (N.filled F hs hg') fun p hp => Heap.lt_size (N p hp).1
theorem call_ba_bytes {b : Array UInt8} {t : Tok} (F : Fr h₀ L s.heap m) (N : News h₀ L s.heap news) (hz : b.size ≤ 16777216)
    (h : ∀ a h', Fr h₀ L h' m → News h₀ L h' ((a, baO b) :: news) → (∀ p ∈ news, p.1 < a) → Q (.ref a) { s with heap := h' }) : wpG (model prog w) A (call (.type "bytearray") [.bytes b t]) Q E s := by
  refine callTypeG (Q₁ := fun obj s₁ => obj = .ref s.heap.objs.size ∧ s₁ = { s with heap := s.heap.push (baO #[]) }) BA.called (BA.typeCall1 _) BA.entry_init (fun _ => ok_init _) (ba_new [.bytes b t] ⟨rfl, rfl⟩) ?_
  rintro _ _ ⟨rfl, rfl⟩
  have hg : (s.heap.push (baO #[])).get? s.heap.objs.size = some (baO #[]) := Heap.get?_push_size _ rfl
  refine ⟨⟨_, hg, rfl⟩, BA.args_init1 _ _, ba_init_any (s := { s with heap := s.heap.push (baO #[]) }) (b := b) hg hz (fun s' _ => wpAny_of_eq rfl ⟨rfl, rfl⟩) (fun s' _ => wpAny_specialOf (typeIs_bytes _ _ _) BA.bytes_look_index ⟨rfl, rfl⟩)
    (fun s' _ => wpAny_of_eq KBy.buffer_eq ⟨rfl, rfl⟩) fun h' hs hg' => ?_⟩
  exact h _ h' (F.filled hs) (N.filled F hs hg') fun p hp => Heap.lt_size (N p hp).1
theorem call_ba_ba {x : Addr} {b : Array UInt8} (F : Fr h₀ L s.heap m) (N : News h₀ L s.heap news) (hx : (x, baO b) ∈ news) (hz : b.size ≤ 16777216)
    (h : ∀ a h', Fr h₀ L h' m → News h₀ L h' ((a, baO b) :: news) → (∀ p ∈ news, p.1 < a) → Q (.ref a) { s with heap := h' }) : wpG (model prog w) A (call (.type "bytearray") [.ref x]) Q E s := by
  refine callTypeG (Q₁ := fun obj s₁ => obj = .ref s.heap.objs.size ∧ s₁ = { s with heap := s.heap.push (baO #[]) }) BA.called (BA.typeCall1 _) BA.entry_init (fun _ => ok_init _) (ba_new [.ref x] ⟨rfl, rfl⟩) ?_
  rintro _ _ ⟨rfl, rfl⟩
  have hg : (s.heap.push (baO #[])).get? s.heap.objs.size = some (baO #[]) := Heap.get?_push_size _ rfl
  have hx' : ∀ s' : Shared, Heap.SameBut s.heap.objs.size (s.heap.push (baO #[])) s'.heap → s'.heap.get? x = some (baO b) := fun s' hs =>
    (hs.2 x (Nat.ne_of_lt (Heap.lt_size (N _ hx).1))).trans (Heap.get?_push_of_some _ (N _ hx).1)
  refine ⟨⟨_, hg, rfl⟩, BA.args_init1 _ _, ba_init_any (s := { s with heap := s.heap.push (baO #[]) }) (b := b) hg hz
    (fun s' hs => by
      unfold asStr?
      exact wpAny_bind (wpAny_load (hx' s' hs) (wpAny_pure ⟨rfl, rfl⟩)))
    (fun s' hs => wpAny_specialOf (ba_typeIs (hx' s' hs)) BA.look_index ⟨rfl, rfl⟩)
    (fun s' hs => ba_buffer (hx' s' hs) ⟨rfl, rfl⟩) fun h' hs hg' => ?_⟩
  exact h _ h' (F.filled hs) (N.filled F hs hg') fun p hp => Heap.lt_size (N p hp).1

theorem method_extend {a : Addr} {b : Array UInt8} {pl : Sem Bool} {Q : Value × List Value → Shared → Prop} (ha : s.heap.get? a = some (baO b)) (h : Q (.builtin "bytearray.extend", [.ref a]) s) :
    wpAny (model prog w) A (getMethod (.ref a) "extend" pl) Q E s :=
  getMethod_builtin (ba_typeIs ha) BA.plainAttrs BA.slot_extend BA.type_extend (fun x e => by cases e; exact ⟨_, ha, rfl⟩) h
theorem call_extend {a : Addr} {b c : Array UInt8} {t : Tok} (F : Fr h₀ L s.heap m) {news' : List (Addr × Obj)} (N : News h₀ L s.heap news) (U : Upd a (baO b) (baO (b ++ c)) news news') (hz : b.size + c.size ≤ 16777216)
    (h : ∀ h', Fr h₀ L h' m → News h₀ L h' news' → Q .none { s with heap := h' }) : wpG (model prog w) A (call (.builtin "bytearray.extend") [.ref a, .bytes c t]) Q E s := by
  refine ?whole
  obtain ⟨pre, post, rfl, rfl, h1, h2⟩ := U.split
  have ha := (N (a, baO b) (by simp)).1
  refine wpG_call (codeG_of_tree (ok_call _ _) ?_)
  show wpG _ _ (do checkBuiltinCall "bytearray.extend" ⟨[.ref a, .bytes c t], []⟩; again (.builtin "bytearray.extend" ⟨[.ref a, .bytes c t], []⟩)) _ _ _
  refine wpG_bind (wpG_of_any (BA.slot_extend.check _ _ _ _ _ _ _ _ (ba_typeIs ha) (BA.args_extend _ _) ?_))
  refine wpG_pure ⟨plainId_quiet BA.slot_extend.plain _, codeG_builtin BA.entry_extend (BA.ok_extend _) ?_⟩
  unfold Builtin.«bytearray.extend»
  refine wpG_bind (wpG_of_eq (a := (Value.ref a, Value.bytes c t)) rfl ?_)
  dsimp only
  refine wpG_bind (wpG_of_any (wpAny_specialOf (typeIs_bytes _ _ _) KBy.look_buffer ?_))
  simp only [Option.isSome_some, if_true]
  refine wpG_bind (wpG_rule (wpG_bind (wpG_of_any (ba_payload ha ?_))))
  have tk : ∀ {id : String}, Bytes.takeBufferQuiet? id (.bytes c t) 0 = pure (some (c, none)) := by
    intro id
    unfold Bytes.takeBufferQuiet? Bytes.takeBuffer?
    rw [KBy.special_eq KBy.look_buffer, KBy.own_buffer]
    simp only [pure_bind]
    rw [if_neg (by decide), show ((0 : Int) == Bytes.fullReadOnly) = false from rfl, KBy.buffer_eq]
    rfl
  refine wpG_bind (wpG_of_eq tk ?_)
  simp only [Option.isNone_none, if_true]
  have key : ∀ {E : Value → Shared → Prop}, wpG (model prog w) A.in1 (if (!c.isEmpty) = true then (do Bytes.checkResize (.ref a); Bytes.write (.ref a) (· ++ c); ret .none) else (do Bytes.write (.ref a) (· ++ c); ret .none)) (fun fin s' => fin = .done (.ret .none) ∧ Q .none s') E s := by
    intro E
    have fin : ∀ {E : Value → Shared → Prop}, wpG (model prog w) A.in1 (do Bytes.write (.ref a) (· ++ c); ret .none) (fun fin s' => fin = .done (.ret .none) ∧ Q .none s') E s := by
      intro E
      refine wpG_bind (wpG_of_any (ba_write ha (by rw [Array.size_append, sizeLine_eq]; exact hz) fun h' hs hg => ?_))
      refine wpG_pure ⟨rfl, h h' ?_ ?_⟩
      · exact F.change hs (N.ne (a := a) (o := baO b) (by simp)) (N.fresh (o := baO b) (by simp))
      · exact news_set N h1 h2 hs hg
    split
    · exact wpG_bind (ba_checkResize ha fin)
    · exact fin
  rw [Around.under_plainId BA.slot_extend.plain _]
  refine wpG_mono (E := E) (Q := fun fin s' => fin = .done (.ret .none) ∧ Q .none s') ?_ (fun fin s' hh => ?_) fun _ _ e => e
  · exact key
  · obtain ⟨rfl, hq⟩ := hh
    exact hq
  run_tac Mine.Sh.shrink
theorem call_len_ba {a : Addr} {b : Array UInt8} (ha : s.heap.get? a = some (baO b)) (hz : b.size ≤ 16777216) (h : ∀ t k, Q (.int (b.size : Nat) t) { s with toks := k }) :
    wpAny (model prog w) A (call (.builtin "len") [.ref a]) Q E s := by
  refine call_len_slot (n := (b.size : Nat)) (ba_typeIs ha) BA.slot_len (fun Q' h' => ?_) (by k_extra "o") (by k_extra "o") (h _ _)
  refine wpAny_call (codeAny_call_builtin BA.slot_len.plain BA.entry_len (BA.slot_len.check _ _ _ _ _ _ _ _ (ba_typeIs ha) (BA.args_len _) ?_))
  unfold Builtin.«bytearray.__len__»
  refine wpAny_bind (wpAny_of_eq (a := (Value.ref a, [])) rfl ?_)
  exact wpAny_bind (ba_payload ha (wpAny_bind (wpAny_mkInt (wpAny_pure h'))))
theorem meets_ba_slice {x a : Addr} {b : Array UInt8} {l u : Value} {lo hi : Option Int} (hl : IsPart l lo) (hu : IsPart u hi) :
    Meets («bytearray.__getitem__» ⟨[.ref x, .ref a], []⟩) (fun _ R s => s.heap.get? x = some (baO b) ∧ s.heap.IsSliceOf a l u .none ∧ b.size ≤ sizeLine ∧ ∀ k, R (.ok (.ret (.ref s.heap.objs.size))) { s with heap := s.heap.push (baO (KBy.picked b lo hi)), toks := k }) := by
  refine ?whole
  refine .of_wp fun prog w A R s hS => ?_
  obtain ⟨hx, ⟨o, ho, hc, hd⟩, hsz, h⟩ := hS
  have hT : s.TypeIs (.ref a) "slice" := ⟨o, ho, hc⟩
  unfold «bytearray.__getitem__»
  refine wpAny_bind (wpAny_of_eq (a := (Value.ref x, [Value.ref a])) rfl ?_)
  dsimp only
  refine wpAny_bind ?_
  unfold Bytes.subscript?
  refine wpAny_bind (wpAny_specialOf hT slice_no_index (wpAny_pure ?_))
  dsimp only
  refine wpAny_bind (wpAny_typeOf hT ?_)
  rw [if_neg (by decide)]
  refine wpAny_bind ?_
  unfold Bytes.sliceParts
  refine wpAny_bind (wpAny_field (x := .none) ho hd rfl ?_)
  refine wpAny_bind (wpAny_of_eq (a := Value.none) rfl ?_)
  refine wpAny_ite (KBy.ite_no (show ¬ ((Value.none == rawInt 0) = true) from Bool.false_ne_true) ?_)
  refine wpAny_bind (wpAny_field (x := l) ho hd rfl ?_)
  have go : wpAny (model prog w) A.in1 (sliceIndices (rawPart lo) (rawPart hi) (rawPart none) b.size) (fun r s' => r = sliceBounds lo hi none b.size ∧ s' = s) (fun _ _ => False) s :=
    wpAny_of_eq (sliceIndices_raw lo hi none b.size (fun e => nomatch e)) ⟨rfl, rfl⟩
  have hpick : (KBy.picked b lo hi).size ≤ sizeLine := Nat.le_trans (KBc.size_picked_le b lo hi) hsz
  cases hl <;> cases hu <;> (first
    | ((refine wpAny_bind (wpAny_of_eq (a := Value.none) rfl ?_)); (refine wpAny_bind (wpAny_field (x := .none) ho hd rfl ?_)); (refine wpAny_bind (wpAny_of_eq (a := Value.none) rfl ?_)))
    | ((refine wpAny_bind (wpAny_of_eq (a := Value.none) rfl ?_)); (refine wpAny_bind (wpAny_field (x := .int _ _) ho hd rfl ?_)); kby_int)
    | (kby_int; (refine wpAny_bind (wpAny_field (x := .none) ho hd rfl ?_)); (refine wpAny_bind (wpAny_of_eq (a := Value.none) rfl ?_)))
    | (kby_int; (refine wpAny_bind (wpAny_field (x := .int _ _) ho hd rfl ?_)); kby_int)) <;> refine wpAny_pure ?_
  all_goals
    dsimp only
    refine wpAny_bind (ba_payload hx ?_)
    refine wpAny_bind (wpAny_mono go (fun r s' hr => ?_) fun _ _ e => e.elim)
    obtain ⟨hr1, hr2⟩ := hr
    subst hr1 hr2
    refine wpAny_bind ?_
    unfold Bytes.newBytearray
    exact wpAny_newObj_type (wpAny_pure ⟨_, rfl, h _⟩) hpick
  run_tac Mine.Sh.shrink
theorem slice_ba {value slice : PySem.Expr} {x : Addr} {b : Array UInt8} {l u : Value} {lo hi : Option Int} (hF : Fr h₀ L s.heap m) (hN : News h₀ L s.heap news) (hx : (x, baO b) ∈ news) (hl : IsPart l lo) (hu : IsPart u hi) (hz : b.size ≤ 16777216)
    (h : ∀ a h' k, Fr h₀ L h' m → News h₀ L h' ((a, baO (KBy.picked b lo hi)) :: news) → (∀ p ∈ news, p.1 < a) → Q (.ref a) { s with heap := h', toks := k })
    (hs : subscripted slice false (.ref x) (.ref s.heap.objs.size) = operate [.ref s.heap.objs.size, .ref x] (getItem (.ref x) (.ref s.heap.objs.size)) := by with_unfolding_all rfl) :
    wpAny (model prog w) A (subscriptTail value slice (.ref x) (.ref s.heap.objs.size)) Q E { s with heap := s.heap.push { cls := .type "slice", data := .fields #[l, u, .none] } } := by
  have hx1 : (s.heap.push { cls := .type "slice", data := .fields #[l, u, .none] }).get? x = some (baO b) := Heap.get?_push_of_some _ (hN _ hx).1
  refine tail_any (T := "bytearray") (s := { s with heap := s.heap.push { cls := .type "slice", data := .fields #[l, u, .none] } }) ⟨_, hx1, rfl⟩ BA.slot_getitem.lookup ?_ hs
  refine getItem_meets (s := { s with heap := s.heap.push { cls := .type "slice", data := .fields #[l, u, .none] } }) ⟨_, hx1, rfl⟩ (by decide) BA.slot_getitem BA.entry_getitem (BA.args_getitem _ _) (meets_ba_slice hl hu) ⟨hx1, Heap.IsSliceOf.new _ _ _ _, by rw [sizeLine_eq]; exact hz, fun k => ?_⟩
  have N1 := News.pushKeep hN { cls := .type "slice", data := .fields #[l, u, .none] }
  exact h _ _ k ((hF.push _).push _) (N1.push (hF.push _) (baO (KBy.picked b lo hi))) fun p hp => Heap.lt_size (N1 p hp).1
end
end
end
end Mine
end
section
set_option maxRecDepth 100000
namespace Mine
open PySem.Spec Builtin
namespace BY
theorem look_bytes : typeLookup (.type "bytes") "__bytes__" = pure (some (.builtin "bytes.__bytes__")) := by rw [typeLookup_type, builtinLookup_eq_fast]; kernel_rfl
theorem int_look_bytes : typeLookup (.type "int") "__bytes__" = pure none := by rw [typeLookup_type, builtinLookup_eq_fast]; kernel_rfl
end BY
section
variable {prog : Program} {w : World} {A : Around} {E : Value → Shared → Prop} {s : Shared} {Q : Value → Shared → Prop}

example : True := by (k_with "by head" => ((
  (refine codeAny_of_tree ?_);
  (show wpAny _ A.in1 (do checkBuiltinCall "bytes.__new__" ⟨[.type "bytes", _], []⟩; again (.builtin "bytes.__new__" ⟨[.type "bytes", _], []⟩)) _ _ s);
  (refine wpAny_bind (wpAny_of_eq (F.bm_newCall _) (wpAny_pure ⟨plainId_quiet F.bm_plain _, codeAny_builtin F.bm_entry ?_⟩)));
  (rw [Around.under_plainId F.bm_plain _]);
  unfold Builtin.«bytes.__new__»;
  (refine wpAny_bind (wpAny_of_eq (a := true) rfl ?_));
  (refine bm_if_false rfl ?_);
  (refine wpAny_bind (wpAny_of_eq F.bm_sub ?_));
  (refine bm_if_false rfl ?_);
  (refine wpAny_bind (wpAny_of_eq (F.bm_bind _) ?_));
  (refine wpAny_bind (wpAny_of_eq (a := ()) rfl ?_));
  (refine wpAny_bind (wpAny_of_eq (a := ()) rfl ?_));
  (refine bm_if_false rfl ?_)))); trivial

theorem by_new_bytes {b : Array UInt8} {t : Tok} {P : Value → Shared → Prop} (h : P (.bytes b t) s) :
    codeAny (model prog w) A (.call (.builtin "bytes.__new__") ⟨[.type "bytes", .bytes b t], []⟩) (wants P E) s := by
  refine ?whole
  k_extra "by head"
  refine wpAny_bind (wpAny_specialOf (typeIs_bytes _ _ _) BY.look_bytes ?_)
  refine wpAny_bind (wpAny_rule (wpAny_bind (wpAny_typeOf (typeIs_bytes _ _ _) ?_)))
  refine bm_if_true rfl ?_
  exact wpAny_pure h
  run_tac Mine.Sh.shrink
theorem by_new_ba {a : Addr} {b : Array UInt8} {P : Value → Shared → Prop} (ha : s.heap.get? a = some (baO b)) (hz : b.size ≤ 16777216) (h : ∀ t k, P (.bytes b t) { s with toks := k }) :
    codeAny (model prog w) A (.call (.builtin "bytes.__new__") ⟨[.type "bytes", .ref a], []⟩) (wants P E) s := by
  refine ?whole
  k_extra "by head"
  refine wpAny_bind (wpAny_specialOf (ba_typeIs ha) BA.look_bytes ?_)
  refine wpAny_bind (wpAny_bind ?_)
  unfold asStr?
  refine wpAny_bind (wpAny_load ha ?_)
  refine wpAny_pure (wpAny_pure ?_)
  refine bm_if_false rfl ?_
  refine wpAny_bind (wpAny_specialOf (ba_typeIs ha) BA.look_index ?_)
  refine bm_if_true rfl ?_
  first
    | show wpAny _ _ (Builtin.Bytes.buffer? "bytes.__new__" (.ref a) true >>= _) _ _ _
    | (refine wpAny_bind ?_; show wpAny _ _ (Builtin.Bytes.buffer? "bytes.__new__" (.ref a) true >>= _) _ _ _)
  refine wpAny_bind (ba_buffer ha ?_)
  refine wpAny_bind (wpAny_rule (wpAny_bind (wpAny_mkBytes ?_ (by rw [sizeLine_eq]; exact hz))))
  exact wpAny_pure (h _ _)
  run_tac Mine.Sh.shrink
theorem by_new_int {n : Int} {t : Tok} {P : Value → Shared → Prop} (h0 : 0 ≤ n) (hn : n ≤ 16777216) (h : ∀ t k, P (.bytes (Array.replicate n.toNat 0) t) { s with toks := k }) :
    codeAny (model prog w) A (.call (.builtin "bytes.__new__") ⟨[.type "bytes", .int n t], []⟩) (wants P E) s := by
  refine ?whole
  k_extra "by head"
  refine wpAny_bind (wpAny_specialOf (typeIs_int _ _ _) BY.int_look_bytes ?_)
  refine wpAny_bind (wpAny_bind (wpAny_of_eq (a := none) rfl ?_))
  refine wpAny_pure ?_
  refine bm_if_false rfl ?_
  refine wpAny_bind (wpAny_specialOf (typeIs_int _ _ _) F.slot_int_index.lookup ?_)
  refine bm_if_false rfl ?_
  refine wpAny_bind (wpAny_attempt (wpAny_of_eq (a := n) rfl ?_))
  dsimp only
  refine bm_if_false (by simp [Bytes.fitsIndex]; k_extra "o") ?_
  rw [if_neg (by k_extra "o"), if_neg (by k_extra "o")]
  refine bm_if_false (KBy.tooLong_not (by k_extra "o")) ?_
  refine wpAny_bind (wpAny_rule (wpAny_bind (wpAny_mkBytes ?_ (by rw [sizeLine_eq, Array.size_replicate]; k_extra "o"))))
  exact wpAny_pure (h _ _)
  run_tac Mine.Sh.shrink
theorem call_by {v : Value} (hn : ∀ {P : Value → Shared → Prop} {A : Around}, (∀ b t k, Q (.bytes b t) { s with toks := k } → P (.bytes b t) { s with toks := k }) → codeAny (model prog w) A (.call (.builtin "bytes.__new__") ⟨[.type "bytes", v], []⟩) (wants P E) s) :
    wpAny (model prog w) A (call (.type "bytes") [v]) Q E s := by
  refine callType_codes (Q₁ := fun obj s₁ => s₁.TypeIs obj "bytes" ∧ Q obj s₁) F.bm_called (F.bm_typeCall _) F.entry_object_init
    (hn fun b t k hq => ⟨typeIs_bytes _ _ _, hq⟩) fun obj s₁ h₁ => ?_
  exact ⟨h₁.1, F.args_object_init_2 obj _, object_init_meets F.bm_called.init.lookup F.bm_called.made (by decide) prog w A.in1 _ s₁ ⟨h₁.1, rfl, h₁.2⟩⟩
theorem call_by_bytes {b : Array UInt8} {t : Tok} (h : ∀ t k, Q (.bytes b t) { s with toks := k }) : wpAny (model prog w) A (call (.type "bytes") [.bytes b t]) Q E s :=
  call_by fun hp => by_new_bytes (hp b t s.toks (h t s.toks))
theorem call_by_ba {a : Addr} {b : Array UInt8} (ha : s.heap.get? a = some (baO b)) (hz : b.size ≤ 16777216) (h : ∀ t k, Q (.bytes b t) { s with toks := k }) : wpAny (model prog w) A (call (.type "bytes") [.ref a]) Q E s :=
  call_by fun hp => by_new_ba ha hz fun t k => hp b t k (h t k)
theorem call_by_int {n : Int} {t : Tok} (h0 : 0 ≤ n) (hn : n ≤ 16777216) (h : ∀ t k, Q (.bytes (Array.replicate n.toNat 0) t) { s with toks := k }) : wpAny (model prog w) A (call (.type "bytes") [.int n t]) Q E s :=
  call_by fun hp => by_new_int h0 hn fun t k => hp _ t k (h t k)
end
end Mine
end
section
set_option maxRecDepth 100000
namespace Mine
open Sem (wp)
section
variable {M : Model} {A : Around} {E : Value → Shared → Prop} {s : Shared} {env : Env}
theorem g_nil {Q : Flow → Shared → Prop} (h : Q .next s) : wpG M A (execs [] env) Q E s := wpG_of_any (wpAny_execs_nil h)
theorem g_cons {st rest} {Q : Flow → Shared → Prop} (h : wpG M A (exec st env) (fun f s' => match f with | .next => wpG M A (execs rest env) Q E s' | f => Q f s') E s) :
    wpG M A (execs (st :: rest) env) Q E s := by
  rw [execs_cons]
  refine wpG_bind (wpG_mono h (fun f s' h' => ?_) fun _ _ e => e)
  cases f <;> first | exact h' | exact wpG_pure h'
theorem g_cons_any {st rest} {Q : Flow → Shared → Prop} (h : wpAny M A (exec st env) (fun f s' => match f with | .next => wpG M A (execs rest env) Q E s' | f => Q f s') E s) :
    wpG M A (execs (st :: rest) env) Q E s := g_cons (wpG_of_any h)
theorem g_assign_name {x pos' value pos} {Q : Flow → Shared → Prop} (h : wpG M A (eval value env) (fun v s₁ => wpAny M A (storeName env x v) (fun _ => Q .next) E s₁) E s)
    (hs : swapsWith value (some (.Name x pos')) pos.line env = pure false := by rfl) : wpG M A (exec (.Assign [.Name x pos'] value pos) env) Q E s := by
  rw [exec_Assign_Name env x pos' value pos hs]
  refine wpG_bind (wpG_standAt (wpG_bind (wpG_mono h (fun v s₁ h₁ => ?_) fun _ _ e => e)))
  exact wpG_of_any (wpAny_bind (wpAny_standAt (wpAny_bind (wpAny_bindName (wpAny_mono h₁ (fun _ _ z => wpAny_pure z) fun _ _ e => e)))))
theorem g_assign {t value pos} {Q : Flow → Shared → Prop} (h : wpG M A (eval value env) (fun v s₁ => wpAny M A (assign t env v) (fun _ => Q .next) E s₁) E s)
    (hs : swapsWithSole [t] value pos.line env = pure false := by rfl) (hw : swappedStores [t] value env = pure none := by rfl) (he : (assignEach [t] env).map (·.2) = [assign t env] := by rfl) :
    wpG M A (exec (.Assign [t] value pos) env) Q E s := by
  rw [exec_Assign_arm]
  refine wpG_bind (wpG_standAt ?_)
  rw [hs]
  refine wpG_bind (wpG_pure ?_)
  rw [if_neg (by decide)]
  refine wpG_bind (wpG_mono h (fun v s₁ h₁ => ?_) fun _ _ e => e)
  rw [hw, he]
  refine wpG_bind (wpG_pure ?_)
  show wpG M A (do assignAll v [assign t env]; pure .next) Q E s₁
  exact wpG_of_any (wpAny_bind (wpAny_mono h₁ (fun _ _ z => wpAny_pure z) fun _ _ e => e))
theorem g_return {e pos} {Q : Flow → Shared → Prop} (h : wpG M A (eval e env) (fun v => Q (.ret v)) E s) : wpG M A (exec (.Return (some e) pos) env) Q E s := by
  rw [exec_Return_some]
  exact wpG_bind (wpG_standAt (wpG_bind (wpG_mono h (fun v s₁ h₁ => wpG_pure h₁) fun _ _ e => e)))
theorem g_if {test body orelse pos} {Q : Flow → Shared → Prop}
    (h : wpG M A (isTrue test env (eval test env)) (fun b s₂ => if b then wpG M A (execs body env) Q E s₂ else wpG M A (execs orelse env) Q E s₂) E s) :
    wpG M A (exec (.If test body orelse pos) env) Q E s := by
  rw [exec_If]
  refine wpG_bind (wpG_standAt (wpG_bind (wpG_mono h (fun b s₂ h₂ => ?_) fun _ _ e => e)))
  cases b <;> exact h₂
theorem g_if_any {test body orelse pos} {Q : Flow → Shared → Prop}
    (h : wpAny M A (isTrue test env (eval test env)) (fun b s₂ => if b then wpG M A (execs body env) Q E s₂ else wpG M A (execs orelse env) Q E s₂) E s) :
    wpG M A (exec (.If test body orelse pos) env) Q E s := g_if (wpG_of_any h)
theorem g_isTrue_compare {l op r pos whole} {Q : Bool → Shared → Prop}
    (h : wpG M A (eval l env) (fun a s₁ => wpAny M A (eval r env) (fun b s₂ => wpAny M A (compareOp op a b) (fun c s₃ => wpAny M A (truthy c) Q E s₃) E s₂) E s₁) E s)
    (hm : behindInMarks op r = false := by with_unfolding_all rfl) : wpG M A (isTrue (.Compare l [op] [r] pos) env whole) Q E s := by
  rw [isTrue_Compare1, markedBehindIn_of_false hm]
  refine wpG_bind (wpG_mono h (fun a s₁ h₁ => ?_) fun _ _ e => e)
  exact wpG_of_any (wpAny_bind (wpAny_holding (wpAny_mono h₁ (fun b s₂ h₂ => wpAny_bind (wpAny_standAt (wpAny_bind (wpAny_operateT (wpAny_mono h₂ (fun c s₃ h₃ => wpAny_holding h₃) fun _ _ e => e))))) fun _ _ e => e)))
theorem g_call_attr {o : Expr} {name : Str} {apos pos : Pos} {args : List Expr} {pl : Sem Bool} {Q : Value → Shared → Prop}
    (h : wpAny M A (eval o env) (fun ov s₁ => wpAny M A (getMethod ov name pl) (fun fx s₂ => wpG M A (callWith pos fx.1 fx.2 (backTo pos (starEach args env)) []) Q E s₂) E s₁) E s)
    (he : eval (.Call (.Attribute o name apos) args [] pos) env = (do
      let ov ← eval o env
      standAt apos.atName
      let (f, first) ← holding [ov] (getMethod ov name pl)
      callWith pos f first (backTo pos (starEach args env)) []) := by rfl) : wpG M A (eval (.Call (.Attribute o name apos) args [] pos) env) Q E s := by
  rw [he]
  refine wpG_bind (wpG_mono (wpG_of_any h) (fun ov s₁ h₁ => wpG_bind (wpG_standAt (wpG_bind (wpG_holding (wpG_mono (wpG_of_any h₁) (fun fx s₂ h₂ => ?_) fun _ _ x => x))))) fun _ _ x => x)
  exact h₂
theorem g_call_attr_on {o : Expr} {name : Str} {apos pos : Pos} {args : List Expr} {pl : Sem Bool} {Q : Value → Shared → Prop}
    (h : wpG M A (eval o env) (fun ov s₁ => wpAny M A (getMethod ov name pl) (fun fx s₂ => wpAny M A (callWith pos fx.1 fx.2 (backTo pos (starEach args env)) []) Q E s₂) E s₁) E s)
    (he : eval (.Call (.Attribute o name apos) args [] pos) env = (do
      let ov ← eval o env
      standAt apos.atName
      let (f, first) ← holding [ov] (getMethod ov name pl)
      callWith pos f first (backTo pos (starEach args env)) []) := by rfl) : wpG M A (eval (.Call (.Attribute o name apos) args [] pos) env) Q E s := by
  rw [he]
  refine wpG_bind (wpG_mono h (fun ov s₁ h₁ => wpG_bind (wpG_standAt (wpG_bind (wpG_holding (wpG_mono (wpG_of_any h₁) (fun fx s₂ h₂ => ?_) fun _ _ x => x))))) fun _ _ x => x)
  exact wpG_of_any h₂
theorem g_call_name {func : Expr} {args : List Expr} {pos : Pos} {Q : Value → Shared → Prop}
    (h : wpAny M A (eval func env) (fun f s₁ => wpG M A (callWith pos f [] (backTo pos (starEach args env)) []) Q E s₁) E s)
    (he : eval (.Call func args [] pos) env = (do callWith pos (← eval func env) [] (backTo pos (starEach args env)) (backToKw pos (keywordEach [] env))) := by rfl) :
    wpG M A (eval (.Call func args [] pos) env) Q E s := by
  rw [he]; exact wpG_bind (wpG_of_any h)
theorem g_keep {α : Type} {vs : List Value} {m : Sem α} {Q : α → Shared → Prop} (h : wpG M A m Q E s) : wpG M A (m.keep vs) Q E s :=
  fun Γ p hΓ g => by rw [Sem.wp_keep]; exact h Γ p hΓ g
theorem g_spliced_nil {Q : List Value → Shared → Prop} (h : Q [] s) : wpG M A (spliced []) Q E s := wpG_pure h
theorem g_spliced_cons {x : Sem Value} {rest : List (Bool × Sem Value)} {Q : List Value → Shared → Prop}
    (h : wpG M A x (fun v s₁ => wpG M A (spliced rest) (fun vs s₂ => Q (v :: vs) s₂) E s₁) E s) : wpG M A (spliced ((false, x) :: rest)) Q E s := by
  rw [spliced]
  refine wpG_bind (wpG_mono h (fun v s₁ h₁ => ?_) fun _ _ x => x)
  simp only [Bool.false_eq_true, if_false]
  exact wpG_bind (wpG_pure (wpG_bind (wpG_holding (wpG_mono h₁ (fun vs s₂ h₂ => wpG_pure h₂) fun _ _ x => x))))
theorem g_args_nil {pos : Pos} {Q : List Value → Shared → Prop} (h : Q [] s) : wpG M A (spliced (backTo pos (starEach [] env))) Q E s := g_spliced_nil h
theorem g_args_cons {e : Expr} {rest : List Expr} {pos : Pos} {Q : List Value → Shared → Prop}
    (h : wpG M A (eval e env) (fun v s₁ => wpG M A (spliced (backTo pos (starEach rest env))) (fun vs s₂ => Q (v :: vs) s₂) E s₁) E s)
    (he : starEach (e :: rest) env = (false, eval e env) :: starEach rest env := by rfl) : wpG M A (spliced (backTo pos (starEach (e :: rest) env))) Q E s := by
  rw [he]; exact g_spliced_cons h
theorem g_args_any {e : Expr} {rest : List Expr} {pos : Pos} {Q : List Value → Shared → Prop}
    (h : wpAny M A (eval e env) (fun v s₁ => wpG M A (spliced (backTo pos (starEach rest env))) (fun vs s₂ => Q (v :: vs) s₂) E s₁) E s)
    (he : starEach (e :: rest) env = (false, eval e env) :: starEach rest env := by rfl) : wpG M A (spliced (backTo pos (starEach (e :: rest) env))) Q E s := g_args_cons (wpG_of_any h) he
theorem g_evalArgs {f : Value} {args : List (Bool × Sem Value)} {Q : Args → Shared → Prop} (hp : args.any (·.1) = false)
    (h : wpG M A (spliced args) (fun vs s' => Q ⟨vs, []⟩ s') E s) : wpG M A (evalArgs f true args []) Q E s := by
  refine ?whole
  unfold evalArgs
  match args, hp, h with
  | [], _, h =>
    show wpG M A (spliced [] >>= _) Q E s
    refine wpG_bind (wpG_mono h (fun vs s' h' => ?_) fun _ _ x => x)
    refine wpG_holding ?_
    exact wpG_bind (wpG_pure (wpG_bind (wpG_pure (wpG_pure h'))))
  | (false, x) :: rest, _, h =>
    show wpG M A (spliced ((false, x) :: rest) >>= _) Q E s
    refine wpG_bind (wpG_mono h (fun vs s' h' => ?_) fun _ _ x => x)
    refine wpG_holding ?_
    exact wpG_bind (wpG_pure (wpG_bind (wpG_pure (wpG_pure h'))))
  | (true, _) :: _, hp, _ => simp at hp
  run_tac Mine.Sh.shrink
theorem g_callWith {f : Value} {pos : Pos} {first : List Value} {args : List (Bool × Sem Value)} {Q : Value → Shared → Prop} {P : Heap → Prop} (hplain : args.any (·.1) = false)
    (hk : ∀ h, P h → ∃ k, (k = Keeper.frame ∨ k = Keeper.machine ∨ k = Keeper.boundFrame) ∧ Looks M h (keeperOf f) k)
    (h : wpG M A (spliced args) (fun vs s₁ => P s₁.heap ∧ wpG M A (call f (first ++ vs)) Q E s₁) E s) : wpG M A (callWith pos f first args []) Q E s := by
  refine ?whole
  unfold callWith
  refine wpG_bind (wpG_holding (g_evalArgs hplain (wpG_mono h (fun a s₁ h₁ => wpG_bind (wpG_standAt ?_)) fun _ _ x => x)))
  obtain ⟨k, hk', L⟩ := hk _ h₁.1
  simp only [hplain, List.any_nil, Bool.or_false]
  refine wpG_bind (wpG_of_any (L.here ?_))
  have tail : ∀ {t : Sem Value}, wpG M A t Q E s₁ → wpG M A (t >>= fun r => holding [r] point >>= fun _ => pure r) Q E s₁ :=
    fun ht => wpG_bind (wpG_mono ht (fun r s₂ hr => wpG_bind (wpG_holding (wpG_point (wpG_pure hr)))) fun _ _ x => x)
  have marked (mk : Value) : wpG M A (callMarked mk f (first ++ a) []) Q E s₁ := by unfold callMarked; exact g_keep h₁.2
  rcases hk' with rfl | rfl | rfl <;> dsimp only <;> first | exact tail h₁.2 | (split <;> first | exact tail h₁.2 | exact tail (marked _))
  run_tac Mine.Sh.shrink
theorem g_callWith_K {K : Frag} {f : Value} {pos : Pos} {first : List Value} {es : List Expr} {Q : Value → Shared → Prop} (hk : keepIn K f = true) (hplain : (backTo pos (starEach es env)).any (·.1) = false)
    (h : wpG M A (spliced (backTo pos (starEach es env))) (fun vs s₁ => K.In s₁.heap ∧ wpG M A (call f (first ++ vs)) Q E s₁) E s) : wpG M A (callWith pos f first (backTo pos (starEach es env)) []) Q E s :=
  g_callWith hplain (keeps_K hk) h
theorem g_callWith_B {f : Value} {pos : Pos} {first : List Value} {es : List Expr} {Q : Value → Shared → Prop} (hf : ∀ a, f ≠ .ref a) (hplain : (backTo pos (starEach es env)).any (·.1) = false)
    (h : wpG M A (spliced (backTo pos (starEach es env))) (fun vs s₁ => wpG M A (call f (first ++ vs)) Q E s₁) E s) : wpG M A (callWith pos f first (backTo pos (starEach es env)) []) Q E s :=
  g_callWith (P := fun _ => True) hplain (fun h _ => ⟨.machine, .inr (.inl rfl), Looks.of_pure (by unfold keeperOf; split <;> first | exact absurd rfl (hf _) | rfl)⟩) (wpG_mono h (fun _ _ z => ⟨trivial, z⟩) fun _ _ e => e)
end
section
variable {prog : Program} {w : World} {A : Around} {E : Value → Shared → Prop} {s : Shared} {env : Env}
theorem g_expr {e pos} {Q : Flow → Shared → Prop} (h : wpG (model prog w) A (eval e env) (fun _ => Q .next) E s)
    (hi : interactive env = false := by rfl) (hs : swapsWith e none pos.line env = pure false := by rfl) : wpG (model prog w) A (exec (.Expr e pos) env) Q E s := by
  rw [exec_Expr env e pos hi hs]
  exact wpG_bind (wpG_standAt (wpG_bind (wpG_mono h (fun v s' h' => wpG_of_any (wpAny_dropValue h')) fun _ _ x => x)))

theorem codeG_func {body : List Stmt} {R : Result → Shared → Prop}
    (h : wpG (model prog w) (A.deeper env) (execs body env) (fun f s' => R (.ok (.ret (match f with | .ret v => v | _ => .none))) s')
      (fun e s' => wpAny (model prog w) (A.deeper env) (leaving env e) (fun _ s'' => R (.error e) s'') (fun e' s'' => R (.error e') s'') s') s) :
    codeG (model prog w) A (.func body env) R s := by
  refine codeG_of_tree (ok_func _ _) ?_
  show wpG _ (A.deeper env) (do point; match ← (execs body env).onRaise (leaving env) with | .ret v => ret v | _ => ret .none) _ _ s
  refine wpG_bind (wpG_point (wpG_bind (wpG_onRaise (wpG_mono h (fun f s' h' => ?_) fun _ _ h' => wpG_of_any h'))))
  cases f <;> exact wpG_pure h'
theorem codeG_call_def {R : Result → Shared → Prop} {a : Addr} {o : Obj} {fd : FuncData} {body : List Stmt} {args : Args} {binds : List (Str × Value)}
    (hroom : A.depth < recursionLimit) (ho : s.heap.get? a = some o) (hdata : o.data = .func fd) (hlim : s.heap.NoLimit) (hcd : s.heap.CodeRec fd.code fd.qualname)
    (hbody : fd.body = .stmts body) (hbind : BindsTo s fd args binds)
    (hcell : ∀ x ∈ fd.scope.names, x.2 ≠ .cell) (hloc : ∀ x ∈ binds, fd.scope.names.lookup x.1 = some .local)
    (h : ∀ h₀, h₀.Ns s.heap.objs.size (fun x => binds.reverse.lookup x) → (∀ b o, s.heap.get? b = some o → h₀.get? b = some o) →
      wpG (model prog w) (A.deeper (callEnv fd s.heap.objs.size a)) (execs body (callEnv fd s.heap.objs.size a)) (fun f s' => R (.ok (.ret (match f with | .ret v => v | _ => .none))) s')
        (fun e s' => wpAny (model prog w) (A.deeper (callEnv fd s.heap.objs.size a)) (leaving (callEnv fd s.heap.objs.size a) e) (fun _ s'' => R (.error e) s'') (fun e' s'' => R (.error e') s'') s')
        { s with heap := h₀, toks := s.toks + binds.length })
    (hco : fd.scope.isCoroutine = false := by rfl) (hgen : fd.scope.isGenerator = false := by rfl) (hk : fd.scope.kind = .function := by rfl) :
    codeG (model prog w) A (.call (.ref a) args) R s := by
  refine ?whole
  refine codeG_of_tree (ok_call _ _) (wpG_of_any ?_)
  show wpAny _ A.in1 (callAny (.ref a) args) _ _ s
  simp only [callAny]
  refine wpAny_bind (wpAny_load ho ?_)
  obtain ⟨c, oc, vs, tq, hc, hoc, hdc, hq⟩ := hcd
  simp only [hdata, callFunction, hco, hgen, hbody, hc]
  refine wpAny_bind (m := field (.ref c) 1) (wpAny_field hoc hdc hq (wpAny_bind (wpAny_pure ?_)))
  refine wpAny_bind (hbind _ _ _ _ ?_)
  refine wpAny_bind ?_
  rw [← hc]
  refine wpAny_newFunctionEnv hcell hloc (fun h₀ hns₀ hsb₀ => ?_) hk
  refine wpAny_bind (wpAny_enterFrame (hlim.fresh _ hsb₀) hroom (wpAny_pure (And.intro rfl ?_)))
  exact codeG_func (h h₀ hns₀ fun b o e => hsb₀.extBut b o (Nat.ne_of_lt (Heap.lt_size e)) (Heap.get?_push_of_some _ e))
  run_tac Mine.Sh.shrink
end
end Mine
end
section
namespace Mine
section
variable {prog : Program} {w : World} {A₀ A : Around} {s : Shared} {base h₀ : Heap} {outer : List Env} {L : Addr} {m : Str → Option Value} {env : Env} {cells rest : List (Addr × Obj)} {K : Frag}
  {R : Result → Shared → Prop} {name qual : Str} {params : Arguments} {body : List Stmt} {scope : Scope} {dV kV doc pm cdv ct oc : Value} {an od : Option Addr} {osl : Array (Option Value)} {f : Addr} {args : Args} {binds : List (Str × Value)}
  {p : Program} {loose : List Str} {mean : ExcName → Option Value} {mg mb : Str → Option Value} {d : Nat}
theorem callFG (C : Cx K A₀ A base h₀ outer env L p loose mean mg mb (d + 1)) (F : Fr h₀ L s.heap m) (N : News h₀ L s.heap cells) (Nr : News h₀ L s.heap rest) (hdis : ∀ q ∈ rest, q.1 ∉ cells.map (·.1))
    (ho : K.lookup f = some ⟨oc, od, .func (fnOf name qual params body scope dV kV doc pm an cdv ct), osl⟩) (hcd : codeIn K cdv qual = true)
    (hbind : BindsTo s (fnOf name qual params body scope dV kV doc pm an cdv ct) args binds) (hloc : ∀ y ∈ binds, scope.names.lookup y.1 = some .local)
    (h : ∀ g L' h₁ dep gds uns, dep + (d + 1) < recursionLimit → uns + 8 * (d + 1) < cLine → K.In h₀ → Fr h₀ L g m → Fr g L' h₁ (fun y => binds.reverse.lookup y) → News g L' h₁ cells → News h₀ L g rest →
      Below ⟨none, dep, some (env :: outer), gds, uns⟩ base (env :: outer) g → K.In g → Top p loose mean mg mb g →
      wpG (model prog w) (Around.deeper ⟨none, dep, some (env :: outer), gds, uns⟩ (envOf qual scope L' f cdv)) (execs body (envOf qual scope L' f cdv))
        (fun fl s' => LeaveK h₀ L m g (fun r s' => News h₀ L s'.heap rest → R r s') (match fl with | .ret v => v | _ => .none) s')
        (fun e s' => wpAny (model prog w) (Around.deeper ⟨none, dep, some (env :: outer), gds, uns⟩ (envOf qual scope L' f cdv)) (leaving (envOf qual scope L' f cdv) e) (fun _ s'' => R (.error e) s'') (fun e' s'' => R (.error e') s'') s')
        { s with heap := h₁, toks := s.toks + binds.length })
    (hcell : ∀ x ∈ scope.names, x.2 ≠ .cell) (hco : scope.isCoroutine = false) (hgen : scope.isGenerator = false) (hk : scope.kind = .function) : codeG (model prog w) A (.call (.ref f) args) R s := by
  refine ?whole
  obtain ⟨a1, a2, a3, a4, a5⟩ := A
  obtain rfl : a3 = some (env :: outer) := C.hA
  obtain rfl : a1 = none := C.hh
  obtain ⟨FG, BG, st, lv⟩ := groundX (R := fun r s' => News h₀ L s'.heap rest → R r s') C.B F N C.hA C.hf C.hk
  refine codeG_call_def (fd := fnOf name qual params body scope dV kV doc pm an cdv ct) (body := body) (binds := binds) (by have : a2 + (d + 1) < recursionLimit := C.room; show a2 < recursionLimit; k_extra "o") ((C.X.keeps F.keep) _ _ ho) rfl (C.T.nolimit.keeps F.keep) (codeRec_of (C.X.keeps F.keep) hcd) rfl hbind hcell hloc (fun h₁ hns hk₁ => ?_) hco hgen hk
  have Ng : News h₀ L (hideAll s.heap (cells.map (·.1))) rest := fun q hq => ⟨hideAll_get _ (Nr q hq).1 (hdis q hq), (Nr q hq).2⟩
  refine wpG_mono (h _ s.heap.objs.size h₁ a2 a4 a5 C.room C.units C.X FG ⟨hns, fun b o e => hk₁ b o (of_hideAll _ e), Nat.le_of_eq (hideAll_size _ _)⟩
    (fun p hp => ⟨hk₁ _ _ (N p hp).1, Nat.ne_of_lt (Heap.lt_size (N p hp).1), hideAll_none _ (List.mem_map_of_mem hp)⟩) Ng BG (C.X.keeps st) (C.T.keeps st)) (fun fl s' hl => ?_) fun _ _ y => y
  obtain ⟨L', m', news', F', _⟩ := id hl
  exact lv _ _ hl fun q hq => ⟨F'.keep _ _ (Ng q hq).1, (Nr q hq).2⟩
  run_tac Mine.Sh.shrink
end
end Mine
end
section
set_option maxRecDepth 100000
namespace Mine
open Sem (wp)
section
variable {M : Model} {A : Around} {E : Value → Shared → Prop} {s : Shared} {env : Env}
theorem wpG_noted {α : Type} {m : Sem α} {Q : α → Shared → Prop} (h : wpG M A m Q (notedBy M A env E) s) : wpG M A (m.onRaise fun x => do noteFrame x env; theTreesLotGoes x) Q E s :=
  wpG_onRaise (wpG_mono h (fun _ _ q => q) fun _ _ hx => wpG_of_any (wpAny_bind (wpAny_mono hx (fun _ _ e => wpAny_theTreesLotGoes e) fun _ _ e => e)))
theorem wpG_runOwn {c : Code} {h : Option Value} {Q : Flow → Shared → Prop}
    (hc : codeG M (A.mark h) c (fun r s' => match r with | .ok f => Q f s' | .error e => cameBackBy M A env E e s') s) (hnb : h ≠ some byPass := by intro x; cases x) :
    wpG M A (runOwn c env h) Q E s := by
  unfold runOwn
  exact wpG_onRaise (wpG_mono (wpG_run (E := fun e s' => cameBackBy M A env E e s') hc hnb) (fun _ _ x => x) fun _ _ x => wpG_of_any x)
theorem wpG_tryStmt {body orelse : Sem Flow} {h₀ : ExceptHandler} {hs : List ExceptHandler} {Q : Flow → Shared → Prop}
    (h : wpG M A body (fun f s₁ => match f with | .next => wpG M A orelse Q E s₁ | f => Q f s₁)
      (fun e s₁ => wpAny M A (noteFrame e env) (fun _ s₂ => wpAny M A (setFlight e none) (fun _ s₃ => wpAny M A (handleBy e env (h₀ :: hs)) Q E s₃) E s₂) E s₁) s) :
    wpG M A (tryStmt false body (h₀ :: hs) orelse [] env) Q E s := by
  refine ?whole
  unfold tryStmt
  simp only [List.isEmpty_nil, if_true, List.isEmpty_cons, Bool.false_and, Bool.false_eq_true, if_false]
  refine wpG_bind (wpG_attempt (wpG_mono h (fun f s₁ h₁ => ?_) fun e s₁ h₁ => ?_))
  · cases f <;> first | exact h₁ | exact wpG_pure h₁
  · exact wpG_of_any (wpAny_bind (wpAny_mono h₁ (fun _ _ h₂ => wpAny_bind h₂) fun _ _ x => x))
  run_tac Mine.Sh.shrink
end
section
variable {prog : Program} {w : World} {A : Around} {E : Value → Shared → Prop} {s : Shared} {env : Env}
theorem g_Try {body orelse : List Stmt} {h₀ : ExceptHandler} {hs : List ExceptHandler} {pos : Pos} {Q : Flow → Shared → Prop}
    (h : wpG (model prog w) A (execs body env) (fun f s₁ => match f with | .next => wpG (model prog w) A (execs orelse env) Q E s₁ | f => Q f s₁)
      (fun e s₁ => wpAny (model prog w) A (noteFrame e env) (fun _ s₂ => wpAny (model prog w) A (setFlight e none) (fun _ s₃ => wpAny (model prog w) A (handleBy e env (h₀ :: hs)) Q E s₃) E s₂) E s₁) s) :
    wpG (model prog w) A (exec (.Try body (h₀ :: hs) orelse [] pos) env) Q E s := by
  rw [arm_exec_Try]
  exact wpG_bind (wpG_standAt (wpG_tryStmt h))

def WhG (prog : Program) (w : World) (A : Around) (E : Value → Shared → Prop) (env : Env) (test : Expr) (body : List Stmt) (Q : Flow → Shared → Prop) (s : Shared) : Prop :=
  codeG (model prog w) A (.whileLoop test body [] env) (fun r s' => match r with | .ok f => Q f s' | .error e => cameBackBy (model prog w) A env E e s') s
theorem g_While {test : Expr} {body : List Stmt} {pos : Pos} {Q : Flow → Shared → Prop} (h : WhG prog w A E env test body Q s) : wpG (model prog w) A (exec (.While test body [] pos) env) Q E s := by
  rw [exec_While]
  refine wpG_bind (wpG_standAt ?_)
  exact wpG_runOwn h
theorem whG_turn {test : Expr} {body : List Stmt} {Q : Flow → Shared → Prop}
    (h : wpAny (model prog w) A (isTrue test env (eval test env)) (fun b s₂ => if b = true then wpG (model prog w) A (execs body env) (fun f s₃ => match f with
        | .next | .cont => WhG prog w A E env test body Q s₃
        | .brk => Q .next s₃
        | .ret v => Q (.ret v) s₃) E s₂ else Q .next s₂) E s) (hE : PassesOwn (model prog w) A env E := by passes_own) : WhG prog w A E env test body Q s := by
  refine ?whole
  refine codeG_of_tree (ok_while _ _ _ _) ?_
  show wpG _ A ((whileTurn test body [] env).onRaise (fun x => do noteFrame x env; theTreesLotGoes x)) _ _ s
  refine wpG_noted ?_
  simp only [whileTurn]
  refine wpG_bind (wpG_mono (wpG_of_any h) (fun b s₂ h₂ => ?_) hE)
  cases b with
  | false =>
    simp only [Bool.false_eq_true, if_false] at h₂ ⊢
    exact wpG_bind (g_nil (wpG_pure h₂))
  | true =>
    simp only [if_true] at h₂ ⊢
    refine wpG_bind (wpG_mono h₂ (fun f s₃ h₃ => ?_) hE)
    cases f with
    | next => exact wpG_pure ⟨rfl, h₃⟩
    | cont => exact wpG_pure ⟨rfl, h₃⟩
    | brk => exact wpG_pure h₃
    | ret v => exact wpG_pure h₃
  run_tac Mine.Sh.shrink
def FoG (prog : Program) (w : World) (A : Around) (E : Value → Shared → Prop) (env : Env) (target : Expr) (it : Value) (body : List Stmt) (Q : Flow → Shared → Prop) (s : Shared) : Prop :=
  codeG (model prog w) A (.forLoop target it body [] env) (fun r s' => match r with | .ok f => Q f s' | .error e => cameBackBy (model prog w) A env E e s') s
theorem g_For {target iter : Expr} {body : List Stmt} {pos : Pos} {Q : Flow → Shared → Prop}
    (h : wpAny (model prog w) A (eval iter env) (fun x s₁ => wpAny (model prog w) A (pyIter x) (fun it s₂ => FoG prog w A E env target it body Q s₂) E s₁) E s)
    (hs : ∀ x, foldedSetIterable iter env x = pure x := by intro _; rfl) : wpG (model prog w) A (exec (.For target iter body [] pos) env) Q E s := by
  rw [exec_For]
  refine wpG_bind (wpG_standAt (wpG_bind (wpG_mono (wpG_of_any h) (fun x s₁ h₁ => ?_) fun _ _ e => e)))
  rw [hs x]
  refine wpG_bind (wpG_pure (wpG_bind (wpG_standAt (wpG_bind (wpG_holding (wpG_mono (wpG_of_any h₁) (fun it s₂ h₂ => ?_) fun _ _ e => e))))))
  exact wpG_runOwn h₂
theorem foG_turn {target : Expr} {it : Value} {body : List Stmt} {Q : Flow → Shared → Prop}
    (h : wpAny (model prog w) A (pyNext it) (fun r s₁ => match r with
      | none => Q .next s₁
      | some v => wpAny (model prog w) A (assign target env v) (fun _ s₂ => wpG (model prog w) A (execs body env) (fun f s₃ => match f with
          | .next | .cont => FoG prog w A E env target it body Q s₃
          | .brk => Q .next s₃
          | .ret v => Q (.ret v) s₃) E s₂) E s₁) E s) (hE : PassesOwn (model prog w) A env E := by passes_own)
    (ht : ∀ v, letOwnedTupleGo target it v = pure () := by intro _; rfl) : FoG prog w A E env target it body Q s := by
  refine ?whole
  refine codeG_of_tree (ok_for _ _ _ _ _) ?_
  show wpG _ _ ((forTurn target it body [] env).onRaise (fun x => do noteFrame x env; theTreesLotGoes x)) _ _ s
  refine wpG_noted ?_
  simp only [forTurn]
  refine wpG_bind (wpG_standAt (wpG_bind (wpG_onRaise (wpG_mono (wpG_of_any h) (fun r s₁ h₁ => ?_) fun e s' h' => wpG_standAt (hE e s' h')))))
  cases r with
  | none =>
    refine wpG_pure ⟨rfl, codeG_of_any (codeAny_block (wpAny_execs_nil h₁))⟩
  | some v =>
    refine wpG_bind (wpG_of_eq (ht v) (wpG_bind (wpG_mono (wpG_of_any h₁) (fun _ s₂ h₂ => wpG_bind (wpG_mono h₂ (fun f s₃ h₃ => ?_) hE)) hE)))
    cases f with
    | next => exact wpG_pure ⟨rfl, h₃⟩
    | cont => exact wpG_pure ⟨rfl, h₃⟩
    | brk => exact wpG_pure h₃
    | ret v => exact wpG_pure h₃
  run_tac Mine.Sh.shrink
end
end Mine
end
section
set_option maxRecDepth 100000
namespace Mine
abbrev Bs := List UInt8
section
variable {prog : Program} {w : World} {A : Around} {E : Value → Shared → Prop} {s : Shared} {value slice : PySem.Expr} {t u : Tok} {h₀ : Heap} {L : Addr} {m : PySem.Str → Option Value} {news : List (Addr × Obj)} {Q : Value → Shared → Prop} {b c : Bs}
theorem len_L (hz : b.length ≤ 16777216) (h : ∀ t k, Q (.int (b.length : Int) t) { s with toks := k }) : wpAny (model prog w) A (call (.builtin "len") [.bytes b.toArray t]) Q E s :=
  len_bytes (b := b.toArray) (by rw [List.size_toArray]; k_extra "o") (h _ _)
theorem item_L {i : Int} {ui : Tok} (hz : b.length ≤ 16777216) (h0 : 0 ≤ i) (h1 : i < (b.length : Int)) (h : ∀ t k, Q (.int ((b.getD i.toNat 0).toNat : Nat) t) { s with toks := k })
    (hs : subscripted slice false (.bytes b.toArray t) (.int i ui) = operate [.bytes b.toArray t, .int i ui] (getItem (.bytes b.toArray t) (.int i ui)) := by with_unfolding_all rfl)
    (ht : ∀ r, letTemporaryGo value (.bytes b.toArray t) r = pure () := by intro _; with_unfolding_all rfl) :
    wpAny (model prog w) A (subscriptTail value slice (.bytes b.toArray t) (.int i ui)) Q E s := KBy.item_N (by k_extra "o") h0 h1 (h _ _) hs ht
theorem add_L (hsz : b.length + c.length ≤ 16777216) (h : ∀ t' k, Q (.bytes (b ++ c).toArray t') { s with toks := k }) :
    wpAny (model prog w) A (binaryOp .Add (.bytes b.toArray t) (.bytes c.toArray u)) Q E s := by
  refine KBy.add_bytes hsz fun t' k => ?_
  rw [List.append_toArray]
  exact h t' k
def cut (b : Bs) (lo hi : Nat) : Bs := (b.drop lo).take (hi - lo)
theorem clip_of {n : Nat} {i : Int} (h : 0 ≤ i) : clipAt n i = min i.toNat n := by
  obtain ⟨k, rfl⟩ := Int.eq_ofNat_of_zero_le h
  exact clipAt_nat n k
theorem slice_LU {l u : Int} {tl tu : Tok} (hF : Fr h₀ L s.heap m) (hN : News h₀ L s.heap news) (hz : b.length ≤ 16777216) (hl : 0 ≤ l) (hu : 0 ≤ u)
    (h : ∀ h' t' k, Fr h₀ L h' m → News h₀ L h' news → Q (.bytes (cut b l.toNat u.toNat).toArray t') { s with heap := h', toks := k })
    (hs : subscripted slice false (.bytes b.toArray t) (.ref s.heap.objs.size) = operate [.ref s.heap.objs.size, .bytes b.toArray t] (getItem (.bytes b.toArray t) (.ref s.heap.objs.size)) := by with_unfolding_all rfl)
    (ht : ∀ r, letTemporaryGo value (.bytes b.toArray t) r = pure () := by intro _; with_unfolding_all rfl) :
    wpAny (model prog w) A (subscriptTail value slice (.bytes b.toArray t) (.ref s.heap.objs.size)) Q E { s with heap := s.heap.push { cls := .type "slice", data := .fields #[.int l tl, .int u tu, .none] } } := by
  refine ?whole
  refine KBc.slice_K hF hN rfl (.int l tl) (.int u tu) (by rw [KBw.ints_length, List.size_toArray]; exact hz) (fun h' t' k F' N' _ => ?_) hs ht
  have e : KBy.picked b.toArray (some l) (some u) = (cut b l.toNat u.toNat).toArray := by
    rw [KBc.picked_eq]
    simp only [Option.elim, List.size_toArray, cut]
    rw [clip_of hl, clip_of hu]
    congr 1
    apply List.ext_getElem?
    intro i
    simp only [List.getElem?_take, List.getElem?_drop]
    by_cases hd : l.toNat ≤ b.length
    · rw [Nat.min_eq_left hd]
      by_cases hu2 : u.toNat ≤ b.length
      · rw [Nat.min_eq_left hu2]
      · rw [Nat.min_eq_right (by k_extra "o")]
        by_cases h1 : i < u.toNat - l.toNat
        · rw [if_pos h1]
          by_cases h2 : i < b.length - l.toNat
          · rw [if_pos h2]
          · rw [if_neg h2]; exact (List.getElem?_eq_none (by k_extra "o")).symm
        · rw [if_neg h1, if_neg (by k_extra "o")]
    · have e2 : min l.toNat b.length = b.length := Nat.min_eq_right (by k_extra "o")
      rw [e2, List.getElem?_eq_none (l := b) (i := l.toNat + i) (by k_extra "o"), List.getElem?_eq_none (l := b) (i := b.length + i) (by k_extra "o")]
      simp
  rw [e]
  exact h h' t' k F' N'
  run_tac Mine.Sh.shrink
theorem slice_U {u : Int} {tu : Tok} (hF : Fr h₀ L s.heap m) (hN : News h₀ L s.heap news) (hz : b.length ≤ 16777216) (hu : 0 ≤ u)
    (h : ∀ h' t' k, Fr h₀ L h' m → News h₀ L h' news → Q (.bytes (b.take u.toNat).toArray t') { s with heap := h', toks := k })
    (hs : subscripted slice false (.bytes b.toArray t) (.ref s.heap.objs.size) = operate [.ref s.heap.objs.size, .bytes b.toArray t] (getItem (.bytes b.toArray t) (.ref s.heap.objs.size)) := by with_unfolding_all rfl)
    (ht : ∀ r, letTemporaryGo value (.bytes b.toArray t) r = pure () := by intro _; with_unfolding_all rfl) :
    wpAny (model prog w) A (subscriptTail value slice (.bytes b.toArray t) (.ref s.heap.objs.size)) Q E { s with heap := s.heap.push { cls := .type "slice", data := .fields #[.none, .int u tu, .none] } } := by
  refine KBc.slice_K hF hN rfl .none (.int u tu) (by rw [KBw.ints_length, List.size_toArray]; exact hz) (fun h' t' k F' N' _ => ?_) hs ht
  have e : KBy.picked b.toArray none (some u) = (b.take u.toNat).toArray := by
    rw [KBc.picked_eq]
    simp only [Option.elim, List.size_toArray, List.drop_zero, Nat.sub_zero]
    rw [clip_of hu]
    congr 1
    by_cases hd : u.toNat ≤ b.length
    · rw [Nat.min_eq_left hd]
    · rw [Nat.min_eq_right (by k_extra "o"), List.take_of_length_le (Nat.le_refl _), List.take_of_length_le (by k_extra "o")]
  rw [e]
  exact h h' t' k F' N'
theorem slice_L {l : Int} {tl : Tok} (hF : Fr h₀ L s.heap m) (hN : News h₀ L s.heap news) (hz : b.length ≤ 16777216) (hl : 0 ≤ l)
    (h : ∀ h' t' k, Fr h₀ L h' m → News h₀ L h' news → Q (.bytes (b.drop l.toNat).toArray t') { s with heap := h', toks := k })
    (hs : subscripted slice false (.bytes b.toArray t) (.ref s.heap.objs.size) = operate [.ref s.heap.objs.size, .bytes b.toArray t] (getItem (.bytes b.toArray t) (.ref s.heap.objs.size)) := by with_unfolding_all rfl)
    (ht : ∀ r, letTemporaryGo value (.bytes b.toArray t) r = pure () := by intro _; with_unfolding_all rfl) :
    wpAny (model prog w) A (subscriptTail value slice (.bytes b.toArray t) (.ref s.heap.objs.size)) Q E { s with heap := s.heap.push { cls := .type "slice", data := .fields #[.int l tl, .none, .none] } } := by
  refine KBc.slice_K hF hN rfl (.int l tl) .none (by rw [KBw.ints_length, List.size_toArray]; exact hz) (fun h' t' k F' N' _ => ?_) hs ht
  have e : KBy.picked b.toArray (some l) none = (b.drop l.toNat).toArray := by
    rw [KBc.picked_eq]
    simp only [Option.elim, List.size_toArray]
    rw [clip_of hl]
    congr 1
    by_cases hd : l.toNat ≤ b.length
    · rw [Nat.min_eq_left hd]
      exact List.take_of_length_le (by rw [List.length_drop]; exact Nat.le_refl _)
    · have e1 : b.drop l.toNat = [] := List.drop_eq_nil_of_le (by k_extra "o")
      have e2 : min l.toNat b.length = b.length := Nat.min_eq_right (by k_extra "o")
      rw [e1, e2, Nat.sub_self, List.take_zero]
  rw [e]
  exact h h' t' k F' N'
theorem bytes_L {D : Addr} {vs : List Value} {ns : List Int} (F : Fr h₀ L s.heap m) (N : News h₀ L s.heap news) (hh : A.handled = none) (hl : s.heap.IsList D vs.toArray) (hi : IntsAre vs ns) (hr : KBa.In ns) (hn : ns.length ≤ 16777216)
    (h : ∀ h' t' k, Fr h₀ L h' m → News h₀ L h' news → Q (.bytes (ns.map fun n => n.toNat.toUInt8).toArray t') { s with heap := h', toks := k }) : wpAny (model prog w) A (call (.type "bytes") [.ref D]) Q E s :=
  KBa.make_K F N hh hl hi hr hn fun h' t' k F' N' _ => h h' t' k F' N'
theorem bytesInt_L {n : Int} (h0 : 0 ≤ n) (hn : n ≤ 16777216) (h : ∀ t k, Q (.bytes (List.replicate n.toNat (0 : UInt8)).toArray t) { s with toks := k }) : wpAny (model prog w) A (call (.type "bytes") [.int n t]) Q E s := by
  refine call_by_int h0 hn fun t k => ?_
  rw [← List.toArray_replicate]
  exact h t k
end
end Mine
end
section
set_option maxRecDepth 100000
namespace Mine
open Builtin
theorem or_split : ∀ x y : Nat, x ||| y = (x ^^^ y) + (x &&& y) := by
  intro x
  induction x using Nat.strongRecOn with
  | ind x ih =>
    intro y
    by_cases hx : x = 0
    · subst hx; simp
    · have h := ih (x / 2) (by k_extra "o") (y / 2)
      have o1 := Nat.or_div_two (a := x) (b := y)
      have a1 := Nat.and_div_two (a := x) (b := y)
      have x1 := Nat.xor_div_two (a := x) (b := y)
      have o2 := Nat.or_mod_two_pow (a := x) (b := y) (n := 1)
      have a2 := Nat.and_mod_two_pow (a := x) (b := y) (n := 1)
      have x2 := Nat.xor_mod_two_pow (a := x) (b := y) (n := 1)
      simp only [Nat.pow_one] at o2 a2 x2
      rcases Nat.mod_two_eq_zero_or_one x with h1 | h1 <;> rcases Nat.mod_two_eq_zero_or_one y with h2 | h2 <;> rw [h1, h2] at o2 a2 x2 <;> simp only [Nat.reduceOr, Nat.reduceAnd, Nat.reduceXor] at o2 a2 x2 <;> k_extra "o"
theorem or_nat (x y : Nat) : bitOr (x : Int) (y : Int) = ((x ||| y : Nat) : Int) := by
  unfold bitOr
  rw [bitAnd_nn (by unfold bitNot; k_extra "o") (by unfold bitNot; k_extra "o"), bitNot_bitNot, bitNot_bitNot, bitNot_bitNot, Int.toNat_natCast, Int.toNat_natCast]
theorem xor_nat (x y : Nat) : bitXor (x : Int) (y : Int) = ((x ^^^ y : Nat) : Int) := by
  unfold bitXor
  rw [or_nat, bitAnd_pp (by k_extra "o") (by k_extra "o"), Int.toNat_natCast, Int.toNat_natCast]
  have := or_split x y
  k_extra "o"
def crcBit (c : Nat) : Nat := (c / 2) ^^^ (c % 2 * 2197175160)
theorem crcBit_tb (c i : Nat) : (crcBit c).testBit i = ((c.testBit (i + 1)) ^^ (c.testBit 0 && Nat.testBit 2197175160 i)) := by
  unfold crcBit
  rw [Nat.testBit_xor, Nat.testBit_succ, Nat.testBit_zero]
  rcases Nat.mod_two_eq_zero_or_one c with h | h <;> rw [h] <;> simp
theorem crcBit_xor (a b : Nat) : crcBit (a ^^^ b) = crcBit a ^^^ crcBit b := by
  refine ?whole
  apply Nat.eq_of_testBit_eq
  intro i
  rw [Nat.testBit_xor, crcBit_tb, crcBit_tb, crcBit_tb, Nat.testBit_xor, Nat.testBit_xor]
  cases a.testBit (i + 1) <;> cases b.testBit (i + 1) <;> cases a.testBit 0 <;> cases b.testBit 0 <;> cases Nat.testBit 2197175160 i <;> rfl
  run_tac Mine.Sh.shrink
theorem crcBit_lt {c : Nat} (h : c < 4294967296) : crcBit c < 4294967296 := by
  unfold crcBit
  have h1 : c / 2 < 2 ^ 32 := by have : (2 : Nat) ^ 32 = 4294967296 := rfl; k_extra "o"
  refine Nat.xor_lt_two_pow (n := 32) h1 ?_
  rcases Nat.mod_two_eq_zero_or_one c with h | h
  · rw [h]; exact Nat.le_of_ble_eq_true rfl
  · rw [h]; exact Nat.le_of_ble_eq_true rfl
theorem crcBit_two (x : Nat) : crcBit (x * 2) = x := by
  unfold crcBit
  have h1 : x * 2 % 2 = 0 := by k_extra "o"
  have h2 : x * 2 / 2 = x := by k_extra "o"
  rw [h1, h2, Nat.zero_mul, Nat.xor_zero]
def crc4 (c : Nat) : Nat := crcBit (crcBit (crcBit (crcBit c)))
theorem crc4_xor (a b : Nat) : crc4 (a ^^^ b) = crc4 a ^^^ crc4 b := by
  have e1 := crcBit_xor a b
  have e2 := (congrArg crcBit e1).trans (crcBit_xor (crcBit a) (crcBit b))
  have e3 := (congrArg crcBit e2).trans (crcBit_xor (crcBit (crcBit a)) (crcBit (crcBit b)))
  exact (congrArg crcBit e3).trans (crcBit_xor (crcBit (crcBit (crcBit a))) (crcBit (crcBit (crcBit b))))
theorem crc4_lt {c : Nat} (h : c < 4294967296) : crc4 c < 4294967296 := by unfold crc4; exact crcBit_lt (crcBit_lt (crcBit_lt (crcBit_lt h)))
theorem crc4_16 (x : Nat) : crc4 (x * 16) = x := by
  unfold crc4
  have e : x * 16 = x * 2 * 2 * 2 * 2 := by k_extra "o"
  rw [e, crcBit_two (x * 2 * 2 * 2), crcBit_two (x * 2 * 2), crcBit_two (x * 2), crcBit_two x]
theorem split16 (n : Nat) : n = (n / 16 * 16) ^^^ (n % 16) := by
  apply Nat.eq_of_testBit_eq
  intro i
  rw [Nat.testBit_xor, show n / 16 * 16 = 2 ^ 4 * (n / 2 ^ 4) by k_extra "o", show (16 : Nat) = 2 ^ 4 from rfl, Nat.testBit_two_pow_mul, Nat.testBit_mod_two_pow, Nat.testBit_div_two_pow]
  by_cases h : 4 ≤ i
  · have h' : ¬ i < 4 := by k_extra "o"
    have e : i - 4 + 4 = i := by k_extra "o"
    simp [h, h', e]
  · have h' : i < 4 := by k_extra "o"
    simp [h, h']
def tbl : List Int := [0, 274646895, 549293790, 820201905, 1098587580, 1361435347, 1640403810, 1905808397, 2197175160, 2460548119, 2722870694, 2987750089, 3280807620, 3553878443, 3811616794, 4084100981]
def tblN : List Nat := (List.range 16).map crc4
theorem crc4_nib (n : Nat) : crc4 n = (n / 16) ^^^ tblN.getD (n % 16) 0 := by
  have h : tblN.getD (n % 16) 0 = crc4 (n % 16) := by
    have : n % 16 < 16 := Nat.mod_lt _ (by decide)
    unfold tblN
    simp [List.getD, this]
  rw [h]
  conv => lhs; rw [split16 n, crc4_xor, crc4_16]
theorem tbl_eq (k : Nat) : tbl.getD k 0 = ((tblN.getD k 0 : Nat) : Int) := by
  have e : tbl = tblN.map (fun n => ((n : Nat) : Int)) := by decide +kernel
  rw [e]
  simp only [List.getD_eq_getElem?_getD, List.getElem?_map]
  cases tblN[k]? <;> rfl
def nib (c : Int) : Int := bitXor (c.fdiv (2 ^ Int.toNat 4)) (tbl.getD (bitAnd c 15).toNat 0)
theorem fdivN (n k : Nat) : (n : Int).fdiv ((2 : Int) ^ k) = ((n / 2 ^ k : Nat) : Int) := by
  have h : (0 : Int) ≤ 2 ^ k := by have := Int.pow_pos (n := 2) (m := k) (by decide); k_extra "o"
  rw [Int.fdiv_eq_ediv_of_nonneg _ h, Int.natCast_ediv, kbt_cast]
theorem nib_eq (n : Nat) : nib n = (crc4 n : Nat) := by
  unfold nib
  have h1 : (n : Int).fdiv (2 ^ Int.toNat 4) = ((n / 16 : Nat) : Int) := fdivN n 4
  have h2 : bitAnd (n : Int) 15 = ((n % 16 : Nat) : Int) := by
    have := kbt_mask (n : Int) 4
    rw [show ((2 : Int) ^ 4 - 1) = 15 from rfl] at this
    rw [this]; k_extra "o"
  rw [h1, h2, Int.toNat_natCast, tbl_eq, xor_nat, ← crc4_nib]
def crcOct (c o : Nat) : Nat := crc4 (crc4 (c ^^^ o))
theorem crcOct_lt {c o : Nat} (h : c < 4294967296) (ho : o < 256) : crcOct c o < 4294967296 := crc4_lt (crc4_lt (Nat.xor_lt_two_pow (n := 32) h (by k_extra "o")))
theorem oct_eq (c o : Nat) : nib (nib (bitXor (c : Int) (o : Int))) = (crcOct c o : Nat) := by
  rw [xor_nat, nib_eq, nib_eq]; rfl
def crcAll (b : Bs) : Nat := b.foldl (fun c o => crcOct c o.toNat) 4294967295
theorem crcFold_lt : ∀ (b : Bs) (c : Nat), c < 4294967296 → b.foldl (fun c o => crcOct c o.toNat) c < 4294967296
  | [], _, h => h
  | o :: r, c, h => crcFold_lt r _ (crcOct_lt h o.toNat_lt)
theorem crcAll_lt (b : Bs) : crcAll b < 4294967296 := crcFold_lt b _ (by decide)
theorem xor_ones {c : Nat} (h : c < 4294967296) : c ^^^ 4294967295 = 4294967295 - c := by
  apply Nat.eq_of_testBit_eq
  intro i
  rw [Nat.testBit_xor, show (4294967295 : Nat) - c = 2 ^ 32 - (c + 1) by k_extra "o", Nat.testBit_two_pow_sub_succ (n := 32) h, show (4294967295 : Nat) = 2 ^ 32 - 1 from rfl, Nat.testBit_two_pow_sub_one]
  by_cases hi : i < 32
  · cases c.testBit i <;> simp [hi]
  · have : c.testBit i = false := Nat.testBit_lt_two_pow (Nat.lt_of_lt_of_le h (Nat.pow_le_pow_right (n := 2) (by decide) (show 32 ≤ i by k_extra "o")))
    simp [hi, this]
def maskN (c : Nat) : Nat := (c / 32768 + c % 32768 * 131072 + 2726488792) % 4294967296
theorem maskN_lt (c : Nat) : maskN c < 4294967296 := Nat.mod_lt _ (by decide)
theorem mask_eq {n : Nat} (h : n < 4294967296) : bitAnd (bitOr ((n : Int).fdiv (2 ^ Int.toNat 15)) ((n : Int) * 2 ^ Int.toNat 17) + 2726488792) 4294967295 = (maskN n : Nat) := by
  have h1 : (n : Int).fdiv (2 ^ Int.toNat 15) = ((n / 32768 : Nat) : Int) := fdivN n 15
  have h2 : (n : Int) * 2 ^ Int.toNat 17 = ((n * 131072 : Nat) : Int) := by rw [show (2 : Int) ^ Int.toNat 17 = 131072 from rfl]; k_extra "o"
  have h3 : (n / 32768) ||| (n * 131072) = n * 131072 + n / 32768 := by
    have := Nat.two_pow_add_eq_or_of_lt (i := 17) (b := n / 32768) (by k_extra "o") n
    rw [Nat.or_comm, show n * 131072 = 2 ^ 17 * n by k_extra "o", ← this]
  rw [h1, h2, or_nat, h3]
  have := kbt_mask (((n * 131072 + n / 32768 : Nat) : Int) + 2726488792) 32
  rw [show ((2 : Int) ^ 32 - 1) = 4294967295 from rfl] at this
  rw [this, show ((2 : Int) ^ 32) = 4294967296 from rfl]
  unfold maskN
  k_extra "o"
def sumB (b : Bs) : Nat := (b.map (·.toNat)).sum
def chk (check : Int) (b : Bs) : Nat := if check = 2 then (sumB b * 251 + b.length * 65537 + 7) % 4294967296 else maskN (4294967295 - crcAll b)
theorem chk_lt (check : Int) (b : Bs) : chk check b < 4294967296 := by
  unfold chk
  split
  · exact Nat.mod_lt _ (by decide)
  · exact maskN_lt _
def le32 (n : Nat) : Bs := [(n % 256).toUInt8, (n / 256 % 256).toUInt8, (n / 65536 % 256).toUInt8, (n / 16777216).toUInt8]
theorem and255 (n : Nat) : bitAnd (n : Int) 255 = ((n % 256 : Nat) : Int) := by
  have := kbt_mask (n : Int) 8
  rw [show ((2 : Int) ^ 8 - 1) = 255 from rfl] at this
  rw [this]; k_extra "o"
theorem le32_vals (n : Nat) : [bitAnd (n : Int) 255, bitAnd ((n : Int).fdiv (2 ^ Int.toNat 8)) 255, bitAnd ((n : Int).fdiv (2 ^ Int.toNat 16)) 255, (n : Int).fdiv (2 ^ Int.toNat 24)]
    = [((n % 256 : Nat) : Int), ((n / 256 % 256 : Nat) : Int), ((n / 65536 % 256 : Nat) : Int), ((n / 16777216 : Nat) : Int)] := by
  rw [show (n : Int).fdiv (2 ^ Int.toNat 8) = ((n / 256 : Nat) : Int) from fdivN n 8, show (n : Int).fdiv (2 ^ Int.toNat 16) = ((n / 65536 : Nat) : Int) from fdivN n 16, show (n : Int).fdiv (2 ^ Int.toNat 24) = ((n / 16777216 : Nat) : Int) from fdivN n 24, and255, and255, and255]
theorem le32_in {n : Nat} (h : n < 4294967296) : KBa.In [bitAnd (n : Int) 255, bitAnd ((n : Int).fdiv (2 ^ Int.toNat 8)) 255, bitAnd ((n : Int).fdiv (2 ^ Int.toNat 16)) 255, (n : Int).fdiv (2 ^ Int.toNat 24)] := by
  rw [le32_vals]
  intro x hx
  simp only [List.mem_cons, List.not_mem_nil, or_false] at hx
  k_extra "o"
theorem le32_map (n : Nat) : [bitAnd (n : Int) 255, bitAnd ((n : Int).fdiv (2 ^ Int.toNat 8)) 255, bitAnd ((n : Int).fdiv (2 ^ Int.toNat 16)) 255, (n : Int).fdiv (2 ^ Int.toNat 24)].map (fun n => n.toNat.toUInt8) = le32 n := by
  rw [le32_vals]; rfl
theorem u8 {n : Nat} (h : n < 256) : (n.toUInt8).toNat = n := by
  show n % 256 = n
  k_extra "o"
def rd32 (b : Bs) (i : Nat) : Int := bitOr (bitOr (bitOr ((b.getD i 0).toNat : Nat) (((b.getD (i + 1) 0).toNat : Nat) * 2 ^ Int.toNat 8)) (((b.getD (i + 2) 0).toNat : Nat) * 2 ^ Int.toNat 16)) (((b.getD (i + 3) 0).toNat : Nat) * 2 ^ Int.toNat 24)
theorem or_add {a b k : Nat} (h : a < 2 ^ k) : a ||| (b * 2 ^ k) = a + b * 2 ^ k := by
  have := Nat.two_pow_add_eq_or_of_lt (i := k) h b
  rw [Nat.or_comm, Nat.mul_comm b, ← this, Nat.add_comm]
theorem rd32_of {n : Nat} (hn : n < 4294967296) {b : Bs} {i : Nat} (h0 : b.getD i 0 = (n % 256).toUInt8) (h1 : b.getD (i + 1) 0 = (n / 256 % 256).toUInt8) (h2 : b.getD (i + 2) 0 = (n / 65536 % 256).toUInt8) (h3 : b.getD (i + 3) 0 = (n / 16777216).toUInt8) : rd32 b i = n := by
  refine ?whole
  unfold rd32
  rw [h0, h1, h2, h3, u8 (by k_extra "o"), u8 (by k_extra "o"), u8 (by k_extra "o"), u8 (by k_extra "o")]
  have e8 : ((n / 256 % 256 : Nat) : Int) * 2 ^ Int.toNat 8 = ((n / 256 % 256 * 2 ^ 8 : Nat) : Int) := by rw [show (2 : Int) ^ Int.toNat 8 = 256 from rfl]; k_extra "o"
  have e16 : ((n / 65536 % 256 : Nat) : Int) * 2 ^ Int.toNat 16 = ((n / 65536 % 256 * 2 ^ 16 : Nat) : Int) := by rw [show (2 : Int) ^ Int.toNat 16 = 65536 from rfl]; k_extra "o"
  have e24 : ((n / 16777216 : Nat) : Int) * 2 ^ Int.toNat 24 = ((n / 16777216 * 2 ^ 24 : Nat) : Int) := by rw [show (2 : Int) ^ Int.toNat 24 = 16777216 from rfl]; k_extra "o"
  rw [e8, e16, e24, or_nat, or_add (by k_extra "o"), or_nat, or_add (by k_extra "o"), or_nat, or_add (by k_extra "o")]
  k_extra "o"
  run_tac Mine.Sh.shrink
theorem u8_abs (x : UInt8) : ((x.toNat : Nat) : Int).natAbs < 2 ^ 64 := by
  have := x.toNat_lt
  rw [Int.natAbs_natCast]
  k_extra "o"
theorem abs_of {a : Int} (h0 : 0 ≤ a) (h1 : a < 4294967296) : a.natAbs < 2 ^ 64 := by k_extra "o"
end Mine
end
section
set_option maxRecDepth 100000
namespace Mine
section
variable {prog : Program} {w : World} {A : Around} {E : Value → Shared → Prop} {s : Shared} {env : Env} {h₀ : Heap} {x : PySem.Str} {body : List Stmt} {Q : Flow → Shared → Prop} {σ : Type}
def TurnEnd (h₀ : Heap) (L : Addr) (x : PySem.Str) (fr : σ → PySem.Str → Option Value) (led : σ → List (Addr × Obj)) (Inv : σ → Prop) (own : List (Addr × Obj)) (s : Shared) (Q : Flow → Shared → Prop) (f : Flow) (s₂ : Shared) : Prop :=
  match f with
  | .ret v => Q (.ret v) s₂
  | .brk => Q .next s₂
  | _ => ∃ h' tk m' c', s₂ = { s with heap := h', toks := tk } ∧ Fr h₀ L h' m' ∧ News h₀ L h' (led c' ++ own) ∧ (∀ z, z ≠ x → m' z = fr c' z) ∧ Inv c'
theorem TurnEnd.next {L : Addr} {fr : σ → PySem.Str → Option Value} {led : σ → List (Addr × Obj)} {Inv : σ → Prop} {own : List (Addr × Obj)} {h' : Heap} {tk : Nat} {m' : PySem.Str → Option Value} (c' : σ)
    (F : Fr h₀ L h' m') (N : News h₀ L h' (led c' ++ own)) (e : ∀ z, z ≠ x → m' z = fr c' z) (I : Inv c') : TurnEnd h₀ L x fr led Inv own s Q .next { s with heap := h', toks := tk } := ⟨h', tk, m', c', rfl, F, N, e, I⟩
theorem loop_G {I : Addr} {fp wr : List Addr} {n : Nat} {P : Nat → Value → Prop} {St : Nat → Heap → Prop} {m₀ : PySem.Str → Option Value} (fr : σ → PySem.Str → Option Value) (led : σ → List (Addr × Obj)) (Inv : Nat → σ → Prop) (c₀ : σ)
    (W : Walks prog w A I fp wr n P St) (hLf : env.locals ∉ fp) (hwr : ∀ b ∈ wr, h₀.get? b = none) (hnw : ∀ p ∈ led c₀, p.1 ∉ wr) (hfp : ∀ q ∈ led c₀, q.1 ∉ fp) (hst : St 0 s.heap) (F : Fr h₀ env.locals s.heap m₀) (N : News h₀ env.locals s.heap (led c₀))
    (ha : ∀ c, (led c).map (·.1) = (led c₀).map (·.1)) (e0 : ∀ z, z ≠ x → m₀ z = fr c₀ z) (hi : Inv 0 c₀)
    (turn : ∀ i c v h tk own, i < n → P i v → OwnOff own ((led c₀).map (·.1)) → Inv i c → Fr h₀ env.locals h (fun y => if y = x then some v else fr c y) → News h₀ env.locals h (led c ++ own) →
      wpAny (model prog w) A (execs body env) (TurnEnd h₀ env.locals x fr led (Inv (i + 1)) own { s with heap := h, toks := tk } Q) E { s with heap := h, toks := tk })
    (done : ∀ c u h tk, Inv n c → Fr h₀ env.locals h (fun y => if y = x then u else fr c y) → News h₀ env.locals h (led c) → Q .next { s with heap := h, toks := tk }) :
    LoopAtV prog w A h₀ env x body Q E (.ref I) s := by
  refine ?whole
  refine loop_invN (fun i m nx => ∃ c, nx = led c ∧ (∀ z, z ≠ x → m z = fr c z) ∧ Inv i c) W hLf hwr hnw hfp hst F N ⟨c₀, rfl, e0, hi⟩ ?_ ?_
  · rintro i v m₁ nx h tk own hin hP _ hoff ⟨c, rfl, hm, hI⟩ F₁ N₁
    have e : (fun y => if y = x then some v else m₁ y) = fun y => if y = x then some v else fr c y := by
      funext y
      by_cases hy : y = x
      · simp [hy]
      · simp only [if_neg hy]; exact hm y hy
    rw [e] at F₁
    refine wpAny_mono (turn i c v h tk own hin hP hoff hI F₁ N₁) (fun f s₂ p => ?_) fun _ _ z => z
    have fin : (∃ h' tk' m' c', s₂ = { s with heap := h', toks := tk' } ∧ Fr h₀ env.locals h' m' ∧ News h₀ env.locals h' (led c' ++ own) ∧ (∀ z, z ≠ x → m' z = fr c' z) ∧ Inv (i + 1) c') →
        InvEndN h₀ env.locals (fun m nx => ∃ c, nx = led c ∧ (∀ z, z ≠ x → m z = fr c z) ∧ Inv (i + 1) c) own ((led c₀).map (·.1)) { s with heap := h, toks := tk } s₂ := by
      rintro ⟨h', tk', m', c', e, F', N', hm', hI'⟩
      exact ⟨h', tk', m', led c' ++ own, led c', e, F', N', fun p hp => List.mem_append_left _ hp, fun p hp => List.mem_append_right _ hp, ha c', c', rfl, hm', hI'⟩
    cases f with
    | ret v => exact p
    | brk => exact p
    | next => exact fin p
    | cont => exact fin p
  · rintro m₁ nx h tk ⟨c, rfl, hm, hI⟩ F₁ N₁
    refine done c (m₁ x) h tk hI ?_ N₁
    have e : m₁ = fun y => if y = x then m₁ x else fr c y := by
      funext y
      by_cases hy : y = x
      · simp [hy]
      · simp only [if_neg hy]; exact hm y hy
    exact e ▸ F₁
  run_tac Mine.Sh.shrink
theorem loop_bytes {b : Bs} {tb : Tok} {m₀ : PySem.Str → Option Value} (fr : σ → PySem.Str → Option Value) (led : σ → List (Addr × Obj)) (Inv : Nat → σ → Prop) (c₀ : σ)
    (hh : A.handled = none) (F : Fr h₀ env.locals s.heap m₀) (N : News h₀ env.locals s.heap (led c₀)) (ha : ∀ c, (led c).map (·.1) = (led c₀).map (·.1)) (e0 : ∀ z, z ≠ x → m₀ z = fr c₀ z) (hi : Inv 0 c₀)
    (turn : ∀ i c t h tk own, i < b.length → OwnOff own ((led c₀).map (·.1)) → Inv i c → Fr h₀ env.locals h (fun y => if y = x then some (.int ((b.getD i 0).toNat : Nat) t) else fr c y) → News h₀ env.locals h (led c ++ own) →
      wpAny (model prog w) A (execs body env) (TurnEnd h₀ env.locals x fr led (Inv (i + 1)) own { s with heap := h, toks := tk } Q) E { s with heap := h, toks := tk })
    (done : ∀ c u h tk, Inv b.length c → Fr h₀ env.locals h (fun y => if y = x then u else fr c y) → News h₀ env.locals h (led c) → Q .next { s with heap := h, toks := tk }) :
    wpAny (model prog w) A (pyIter (.bytes b.toArray tb)) (fun it s₂ => LoopAtV prog w A h₀ env x body Q E it s₂) E s := by
  refine ?whole
  refine KBw.pyIter_bytes ?_
  have W := KBw.walks (prog := prog) (w := w) hh s.heap.objs.size b.toArray tb
  refine loop_G fr led Inv c₀ W ?_ ?_ ?_ ?_ ⟨_, Heap.get?_push_size _ rfl, rfl, rfl⟩ (F.push _) (fun p hp => ⟨Heap.get?_push_of_some _ (N p hp).1, (N p hp).2⟩) ha e0 hi ?_ ?_
  · intro hm
    exact absurd F.ns.lt ((List.mem_singleton.mp hm) ▸ Nat.lt_irrefl _)
  · intro b' hb
    rw [List.mem_singleton.mp hb]
    exact next_is_new F
  · intro p hp hI
    exact absurd (Heap.lt_size (N p hp).1) ((List.mem_singleton.mp hI) ▸ Nat.lt_irrefl _)
  · intro p hp hI
    exact absurd (Heap.lt_size (N p hp).1) ((List.mem_singleton.mp hI) ▸ Nat.lt_irrefl _)
  · rintro i c v h tk own hin ⟨o, t, hn, rfl⟩ hoff hI F₁ N₁
    have hlt : i < b.length := by rw [List.size_toArray] at hin; exact hin
    have ho : b.getD i 0 = o := by
      rw [List.getElem?_toArray] at hn
      rw [List.getD_eq_getElem?_getD, hn]; rfl
    rw [← ho] at F₁
    exact turn i c t h tk own hlt hoff hI F₁ N₁
  · intro c u h tk hI F₁ N₁
    rw [List.size_toArray] at hI
    exact done c u h tk hI F₁ N₁
  run_tac Mine.Sh.shrink
theorem loop_range {r : Addr} {a₀ b₀ d : Int} {t₀ u₀ v₀ : Tok} {n : Nat} {m₀ : PySem.Str → Option Value} (fr : σ → PySem.Str → Option Value) (led : σ → List (Addr × Obj)) (Inv : Nat → σ → Prop) (c₀ : σ)
    (hh : A.handled = none) (hr : IsRange s.heap r a₀ b₀ d t₀ u₀ v₀) (hsmall : Builtin.Range.small a₀ b₀ d = true) (hn : Builtin.Range.rangeSize a₀ b₀ d = (n : Int))
    (F : Fr h₀ env.locals s.heap m₀) (N : News h₀ env.locals s.heap (led c₀)) (ha : ∀ c, (led c).map (·.1) = (led c₀).map (·.1)) (e0 : ∀ z, z ≠ x → m₀ z = fr c₀ z) (hi : Inv 0 c₀)
    (turn : ∀ i c t h tk own, i < n → OwnOff own ((led c₀).map (·.1)) → Inv i c → Fr h₀ env.locals h (fun y => if y = x then some (.int (a₀ + (i : Nat) * d) t) else fr c y) → News h₀ env.locals h (led c ++ own) →
      wpAny (model prog w) A (execs body env) (TurnEnd h₀ env.locals x fr led (Inv (i + 1)) own { s with heap := h, toks := tk } Q) E { s with heap := h, toks := tk })
    (done : ∀ c u h tk, Inv n c → Fr h₀ env.locals h (fun y => if y = x then u else fr c y) → News h₀ env.locals h (led c) → Q .next { s with heap := h, toks := tk }) :
    wpAny (model prog w) A (pyIter (.ref r)) (fun it s₂ => LoopAtV prog w A h₀ env x body Q E it s₂) E s := by
  refine ?whole
  refine wpAny_pyIter_range hr hsmall ?_
  have W : Walks prog w A s.heap.objs.size [s.heap.objs.size] [s.heap.objs.size] n (fun i v => i < n ∧ ∃ t, v = .int (a₀ + i * d) t)
      (fun i h => IsRangeIter h s.heap.objs.size (a₀ + (i : Nat) * d) ((n : Int) - (i : Nat)) d) := (Walks.range hh _ a₀ d n).bound
  refine loop_G fr led Inv c₀ W ?_ ?_ ?_ ?_ (by show IsRangeIter _ _ _ _ _; rw [hn]; simpa using Heap.get?_push_size _ rfl) (F.push _) (fun p hp => ⟨Heap.get?_push_of_some _ (N p hp).1, (N p hp).2⟩) ha e0 hi ?_ ?_
  · intro hm
    exact absurd F.ns.lt ((List.mem_singleton.mp hm) ▸ Nat.lt_irrefl _)
  · intro b hb
    rw [List.mem_singleton.mp hb]
    exact next_is_new F
  · intro p hp hI
    exact absurd (Heap.lt_size (N p hp).1) ((List.mem_singleton.mp hI) ▸ Nat.lt_irrefl _)
  · intro p hp hI
    exact absurd (Heap.lt_size (N p hp).1) ((List.mem_singleton.mp hI) ▸ Nat.lt_irrefl _)
  · rintro i c v h tk own hin ⟨_, t, rfl⟩ hoff hI F₁ N₁
    exact turn i c t h tk own hin hoff hI F₁ N₁
  · intro c u h tk hI F₁ N₁
    exact done c u h tk hI F₁ N₁
  run_tac Mine.Sh.shrink
end
end Mine
end
section
set_option maxRecDepth 100000
namespace Mine
section
variable {prog : Program} {w : World} {A : Around} {E : Value → Shared → Prop} {s : Shared} {env : Env} {h₀ : Heap} {L : Addr} {test : PySem.Expr} {body : List Stmt} {Q : Flow → Shared → Prop} {m : PySem.Str → Option Value} {led : List (Addr × Obj)}
theorem fr_has {h : Heap} {y : PySem.Str} {v : Value} (e : m y = some v) (F : Fr h₀ L h m) : Fr h₀ L h (fun z => if z = y then some v else m z) := by
  have : (fun z => if z = y then some v else m z) = m := by
    funext z
    by_cases hz : z = y
    · subst hz; simp [e]
    · simp [hz]
  rw [this]; exact F
def frL : List (PySem.Str × Value) → (PySem.Str → Option Value) → PySem.Str → Option Value
  | [], m => m
  | (y, v) :: r, m => fun z => if z = y then some v else frL r m z
inductive Has (m : PySem.Str → Option Value) : List (PySem.Str × Value) → Prop
  | nil : Has m []
  | cons {y v r} : m y = some v → Has m r → Has m ((y, v) :: r)
theorem frL_eq {ps : List (PySem.Str × Value)} (e : Has m ps) : frL ps m = m := by
  induction e with
  | nil => rfl
  | @cons y v r e _ ih =>
    funext z
    show (if z = y then some v else frL r m z) = m z
    rw [ih]
    by_cases hz : z = y
    · rw [if_pos hz, hz, e]
    · rw [if_neg hz]
theorem fr_hasL {h : Heap} {ps : List (PySem.Str × Value)} (e : Has m ps) (F : Fr h₀ L h m) : Fr h₀ L h (frL ps m) := by rw [frL_eq e]; exact F
theorem fr_hasX {h : Heap} {ps : List (PySem.Str × Value)} {x : PySem.Str} {v : Value} (e : Has m ps) (F : Fr h₀ L h (fun y => if y = x then some v else m y)) : Fr h₀ L h (fun y => if y = x then some v else frL ps m y) := by rw [frL_eq e]; exact F
def At (h₀ : Heap) (L : Addr) (K : (PySem.Str → Option Value) → List (Addr × Obj) → Prop) (s s₂ : Shared) : Prop :=
  ∃ h' tk m' l', s₂ = { s with heap := h', toks := tk } ∧ Fr h₀ L h' m' ∧ News h₀ L h' l' ∧ K m' l'
theorem At.intro {K : (PySem.Str → Option Value) → List (Addr × Obj) → Prop} {h' : Heap} {tk : Nat} {m' : PySem.Str → Option Value} {l' : List (Addr × Obj)} (F : Fr h₀ L h' m') (N : News h₀ L h' l') (k : K m' l') : At h₀ L K s { s with heap := h', toks := tk } :=
  ⟨h', tk, m', l', rfl, F, N, k⟩
def JEnd (h₀ : Heap) (L : Addr) (K : (PySem.Str → Option Value) → List (Addr × Obj) → Prop) (s : Shared) (Q : Flow → Shared → Prop) (f : Flow) (s₂ : Shared) : Prop :=
  match f with
  | .ret v => Q (.ret v) s₂
  | .brk => Q .next s₂
  | _ => At h₀ L K s s₂
theorem JEnd.next {K : (PySem.Str → Option Value) → List (Addr × Obj) → Prop} {h' : Heap} {tk : Nat} {m' : PySem.Str → Option Value} {l' : List (Addr × Obj)} (F : Fr h₀ L h' m') (N : News h₀ L h' l') (k : K m' l') : JEnd h₀ L K s Q .next { s with heap := h', toks := tk } :=
  At.intro F N k
theorem while_J (J : Nat → (PySem.Str → Option Value) → List (Addr × Obj) → Prop) {n : Nat} {pos : Pos} (hJ : J n m led) (F : Fr h₀ L s.heap m) (N : News h₀ L s.heap led)
    (turn : ∀ n m led h tk, J n m led → Fr h₀ L h m → News h₀ L h led →
      wpAny (model prog w) A (isTrue test env (eval test env)) (fun b s₂ => WhlIf b (wpAny (model prog w) A (execs body env) (JEnd h₀ L (fun m' l' => ∃ n', n' < n ∧ J n' m' l') s Q) E s₂) (Q .next s₂)) E { s with heap := h, toks := tk })
    (hE : PassesOwn (model prog w) A env E := by passes_own) : wpAny (model prog w) A (exec (.While test body [] pos) env) Q E s := by
  refine ?whole
  refine whl_start 0 ?_
  have key : ∀ n m led h tk, J n m led → Fr h₀ L h m → News h₀ L h led → WhlRest prog w A E env test body [] Q 0 { s with heap := h, toks := tk } := by
    intro n
    induction n using Nat.strongRecOn with
    | ind n ih =>
      intro m led h tk hJ F N
      refine whl_turn (k := 0) hE (wpAny_mono (turn n m led h tk hJ F N) (fun b s₂ hb => ?_) fun _ _ e => e)
      cases b with
      | true =>
        refine WhlIf.yes rfl (wpAny_mono (show wpAny _ _ _ _ _ _ from hb) (fun f s₃ h₃ => ?_) fun _ _ e => e)
        cases f with
        | ret v => exact h₃
        | brk => exact h₃
        | next => obtain ⟨h', tk', m', l', rfl, F', N', n', hn, hJ'⟩ := h₃; exact ih n' hn m' l' h' tk' hJ' F' N'
        | cont => obtain ⟨h', tk', m', l', rfl, F', N', n', hn, hJ'⟩ := h₃; exact ih n' hn m' l' h' tk' hJ' F' N'
      | false => exact WhlIf.no rfl (wpAny_execs_nil (show Q .next s₂ from hb))
  exact key n m led s.heap s.toks hJ F N
  run_tac Mine.Sh.shrink
theorem while_JG (J : Nat → (PySem.Str → Option Value) → List (Addr × Obj) → Prop) {n : Nat} {pos : Pos} (hJ : J n m led) (F : Fr h₀ L s.heap m) (N : News h₀ L s.heap led)
    (turn : ∀ n m led h tk, J n m led → Fr h₀ L h m → News h₀ L h led →
      wpAny (model prog w) A (isTrue test env (eval test env)) (fun b s₂ => WhlIf b (wpG (model prog w) A (execs body env) (JEnd h₀ L (fun m' l' => ∃ n', n' < n ∧ J n' m' l') s Q) E s₂) (Q .next s₂)) E { s with heap := h, toks := tk })
    (hE : PassesOwn (model prog w) A env E := by passes_own) : wpG (model prog w) A (exec (.While test body [] pos) env) Q E s := by
  refine ?whole
  refine g_While ?_
  have key : ∀ n m led h tk, J n m led → Fr h₀ L h m → News h₀ L h led → WhG prog w A E env test body Q { s with heap := h, toks := tk } := by
    intro n
    induction n using Nat.strongRecOn with
    | ind n ih =>
      intro m led h tk hJ F N
      refine whG_turn (wpAny_mono (turn n m led h tk hJ F N) (fun b s₂ hb => ?_) fun _ _ e => e) hE
      cases b with
      | true =>
        rw [if_pos rfl]
        refine wpG_mono (show wpG _ _ _ _ _ _ from hb) (fun f s₃ h₃ => ?_) fun _ _ e => e
        cases f with
        | ret v => exact h₃
        | brk => exact h₃
        | next => obtain ⟨h', tk', m', l', rfl, F', N', n', hn, hJ'⟩ := h₃; exact ih n' hn m' l' h' tk' hJ' F' N'
        | cont => obtain ⟨h', tk', m', l', rfl, F', N', n', hn, hJ'⟩ := h₃; exact ih n' hn m' l' h' tk' hJ' F' N'
      | false => rw [if_neg Bool.false_ne_true]; exact (show Q .next s₂ from hb)
  exact key n m led s.heap s.toks hJ F N
  run_tac Mine.Sh.shrink
def JNext (h₀ : Heap) (L : Addr) (K : (PySem.Str → Option Value) → List (Addr × Obj) → Prop) (s : Shared) (Q : Flow → Shared → Prop) (f : Flow) (s₂ : Shared) : Prop :=
  match f with
  | .next => At h₀ L K s s₂
  | f => Q f s₂
theorem JNext.next {K : (PySem.Str → Option Value) → List (Addr × Obj) → Prop} {h' : Heap} {tk : Nat} {m' : PySem.Str → Option Value} {l' : List (Addr × Obj)} (F : Fr h₀ L h' m') (N : News h₀ L h' l') (k : K m' l') : JNext h₀ L K s Q .next { s with heap := h', toks := tk } :=
  At.intro F N k
theorem join_J (_F : Fr h₀ L s.heap m) (K : (PySem.Str → Option Value) → List (Addr × Obj) → Prop) {st : Stmt}
    (h1 : wpAny (model prog w) A (exec st env) (JNext h₀ L K s Q) E s)
    (h2 : ∀ m led h tk, K m led → Fr h₀ L h m → News h₀ L h led → Q .next { s with heap := h, toks := tk }) :
    wpAny (model prog w) A (exec st env) Q E s := by
  refine wpAny_mono h1 (fun f s₂ p => ?_) fun _ _ e => e
  cases f with
  | ret v => exact p
  | brk => exact p
  | cont => exact p
  | next => obtain ⟨h', tk', m', l', rfl, F', N', k⟩ := p; exact h2 m' l' h' tk' k F' N'
theorem join_JG (_F : Fr h₀ L s.heap m) (K : (PySem.Str → Option Value) → List (Addr × Obj) → Prop) {st : Stmt}
    (h1 : wpG (model prog w) A (exec st env) (JNext h₀ L K s Q) E s)
    (h2 : ∀ m led h tk, K m led → Fr h₀ L h m → News h₀ L h led → Q .next { s with heap := h, toks := tk }) :
    wpG (model prog w) A (exec st env) Q E s := by
  refine wpG_mono h1 (fun f s₂ p => ?_) fun _ _ e => e
  cases f with
  | ret v => exact p
  | brk => exact p
  | cont => exact p
  | next => obtain ⟨h', tk', m', l', rfl, F', N', k⟩ := p; exact h2 m' l' h' tk' k F' N'
theorem range_J {x : PySem.Str} {r : Addr} {a₀ b₀ d : Int} {t₀ u₀ v₀ : Tok} {n : Nat} (J : Nat → (PySem.Str → Option Value) → List (Addr × Obj) → Prop)
    (hh : A.handled = none) (hr : IsRange s.heap r a₀ b₀ d t₀ u₀ v₀) (hsmall : Builtin.Range.small a₀ b₀ d = true) (hn : Builtin.Range.rangeSize a₀ b₀ d = (n : Int))
    (F : Fr h₀ env.locals s.heap m) (N : News h₀ env.locals s.heap led) (hi : J 0 m led)
    (turn : ∀ i m₁ led₁ t h tk own, i < n → led₁.map (·.1) = led.map (·.1) → OwnOff own (led.map (·.1)) → J i m₁ led₁ → Fr h₀ env.locals h (fun y => if y = x then some (.int (a₀ + (i : Nat) * d) t) else m₁ y) → News h₀ env.locals h (led₁ ++ own) →
      wpAny (model prog w) A (execs body env) (InvPostN h₀ env.locals (J (i + 1)) own (led.map (·.1)) { s with heap := h, toks := tk } Q) E { s with heap := h, toks := tk })
    (done : ∀ m₁ led₁ h tk, J n m₁ led₁ → Fr h₀ env.locals h m₁ → News h₀ env.locals h led₁ → Q .next { s with heap := h, toks := tk }) :
    wpAny (model prog w) A (pyIter (.ref r)) (fun it s₂ => LoopAtV prog w A h₀ env x body Q E it s₂) E s := by
  refine ?whole
  refine wpAny_pyIter_range hr hsmall ?_
  have W : Walks prog w A s.heap.objs.size [s.heap.objs.size] [s.heap.objs.size] n (fun i v => i < n ∧ ∃ t, v = .int (a₀ + i * d) t)
      (fun i h => IsRangeIter h s.heap.objs.size (a₀ + (i : Nat) * d) ((n : Int) - (i : Nat)) d) := (Walks.range hh _ a₀ d n).bound
  refine loop_invN J W ?_ ?_ ?_ ?_ (by show IsRangeIter _ _ _ _ _; rw [hn]; simpa using Heap.get?_push_size _ rfl) (F.push _) (fun p hp => ⟨Heap.get?_push_of_some _ (N p hp).1, (N p hp).2⟩) hi ?_ ?_
  · intro hm
    exact absurd F.ns.lt ((List.mem_singleton.mp hm) ▸ Nat.lt_irrefl _)
  · intro b' hb
    rw [List.mem_singleton.mp hb]
    exact next_is_new F
  · intro p hp hI
    exact absurd (Heap.lt_size (N p hp).1) ((List.mem_singleton.mp hI) ▸ Nat.lt_irrefl _)
  · intro p hp hI
    exact absurd (Heap.lt_size (N p hp).1) ((List.mem_singleton.mp hI) ▸ Nat.lt_irrefl _)
  · rintro i v m₁ l₁ h tk own hin ⟨_, t, rfl⟩ ha hoff hI F₁ N₁
    exact turn i m₁ l₁ t h tk own hin ha hoff hI F₁ N₁
  · intro m₁ l₁ h tk hI F₁ N₁
    exact done m₁ l₁ h tk hI F₁ N₁
  run_tac Mine.Sh.shrink
theorem inv_end {K : (PySem.Str → Option Value) → List (Addr × Obj) → Prop} {own l' : List (Addr × Obj)} {adr : List Addr} {h' : Heap} {tk : Nat} {m' : PySem.Str → Option Value} (F : Fr h₀ L h' m') (N : News h₀ L h' (l' ++ own)) (ha : l'.map (·.1) = adr) (k : K m' l') :
    InvEndN h₀ L K own adr s { s with heap := h', toks := tk } :=
  ⟨h', tk, m', l' ++ own, l', rfl, F, N, fun _ hp => List.mem_append_left _ hp, fun _ hp => List.mem_append_right _ hp, ha, k⟩
theorem newsTail {h : Heap} {a : Addr × Obj} {l : List (Addr × Obj)} (N : News h₀ L h (a :: l)) : News h₀ L h l := fun q hq => N q (.tail _ hq)
end
structure BytesAre (vs : List Value) (bs : List Bs) : Prop where
  len : vs.length = bs.length
  get : ∀ (i : Nat) (b : Bs), bs[i]? = some b → ∃ t : Tok, vs[i]? = some (Value.bytes b.toArray t)
theorem BytesAre.nil : BytesAre [] [] := ⟨rfl, fun i b h => by simp at h⟩
theorem BytesAre.push {vs : List Value} {bs : List Bs} {b : Bs} {t : Tok} (h : BytesAre vs bs) : BytesAre (vs ++ [.bytes b.toArray t]) (bs ++ [b]) := by
  refine ⟨by simp [h.len], fun i c hc => ?_⟩
  by_cases hi : i < bs.length
  · rw [List.getElem?_append_left hi] at hc
    rw [List.getElem?_append_left (by rw [h.len]; exact hi)]
    exact h.get i c hc
  · rw [List.getElem?_append_right (by k_extra "o")] at hc
    rw [List.getElem?_append_right (by rw [h.len]; k_extra "o"), h.len]
    by_cases h0 : i - bs.length = 0
    · rw [h0] at hc ⊢
      simp only [List.getElem?_cons_zero, Option.some.injEq] at hc
      subst hc
      exact ⟨t, rfl⟩
    · rw [List.getElem?_eq_none (by simp; k_extra "o")] at hc
      exact nomatch hc
theorem BytesAre.one {b : Bs} {t : Tok} : BytesAre [.bytes b.toArray t] [b] := BytesAre.nil.push
section
variable {prog : Program} {w : World} {A : Around} {E : Value → Shared → Prop} {s : Shared} {value slice : PySem.Expr}
theorem item_bytes {l : Addr} {vs : List Value} {bs : List Bs} {k : Int} {j : Nat} {u : Tok} {Q : Value → Shared → Prop} (hl : s.heap.IsList l vs.toArray) (hb : BytesAre vs bs) (hk : k = (j : Int)) (hj : j < bs.length) (hfit : k < 2 ^ 63)
    (h : ∀ t, Q (.bytes (bs.getD j []).toArray t) s)
    (hs : subscripted slice false (.ref l) (.int k u) = operate [.ref l, .int k u] (getItem (.ref l) (.int k u)) := by with_unfolding_all rfl) (hg : ∀ r, letTemporaryGo value (.ref l) r = pure () := by intro _; with_unfolding_all rfl) :
    wpAny (model prog w) A (subscriptTail value slice (.ref l) (.int k u)) Q E s := by
  obtain ⟨t, hx⟩ := hb.get j _ (by rw [List.getElem?_eq_getElem hj])
  have e : bs.getD j [] = bs[j] := by rw [List.getD_eq_getElem?_getD, List.getElem?_eq_getElem hj]; rfl
  have h' := h t
  rw [e] at h'
  exact item_list hl (by k_extra "o") hfit (by rw [hk, Int.toNat_natCast]; simpa using hx) h' hs hg
theorem len_vs {l : Addr} {vs : List Value} {n : Nat} {Q : Value → Shared → Prop} (hl : s.heap.IsList l vs.toArray) (hn : vs.length = n) (hz : n ≤ 16777216) (h : ∀ t k, Q (.int (n : Int) t) { s with toks := k }) :
    wpAny (model prog w) A (call (.builtin "len") [.ref l]) Q E s := by
  refine Calls.call_len_list hl (by rw [List.size_toArray]; k_extra "o") ?_
  rw [List.size_toArray, hn]
  exact h _ _
theorem append_vs {h₀ : Heap} {L D : Addr} {m : PySem.Str → Option Value} {news news' : List (Addr × Obj)} {vs : List Value} {n : Nat} {x : Value} {Q : Value → Shared → Prop} (F : Fr h₀ L s.heap m) (N : News h₀ L s.heap news) (U : Upd D (listOf vs.toArray n) (listOf (vs ++ [x]).toArray (n + 1)) news news') (hz : vs.length ≤ 1000)
    (h : ∀ h', Fr h₀ L h' m → News h₀ L h' news' → Q .none { s with heap := h' }) : wpAny (model prog w) A (call (.builtin "list.append") [.ref D, x]) Q E s := by
  rw [show (vs ++ [x]).toArray = vs.toArray.push x by simp] at U
  exact append_K F N U h (by rw [List.size_toArray, PySem.sizeLine_eq]; k_extra "o")
end
end Mine
end
section
set_option maxRecDepth 100000
namespace Mine
def ownAt (fp : List Addr) (h : Heap) : List (Addr × Obj) := fp.filterMap fun b => (h.get? b).map fun o => (b, o)
theorem mem_ownAt {fp : List Addr} {h : Heap} {p : Addr × Obj} : p ∈ ownAt fp h ↔ p.1 ∈ fp ∧ h.get? p.1 = some p.2 := by
  unfold ownAt
  rw [List.mem_filterMap]
  constructor
  · rintro ⟨b, hb, e⟩
    cases ho : h.get? b with
    | none => rw [ho] at e; cases e
    | some o => rw [ho] at e; cases e; exact ⟨hb, ho⟩
  · rintro ⟨hb, ho⟩
    exact ⟨p.1, hb, by rw [ho]; rfl⟩
theorem nodup_ownAt {h : Heap} : ∀ {fp : List Addr}, fp.Nodup → ((ownAt fp h).map (·.1)).Nodup
  | [], _ => List.nodup_nil
  | b :: r, D => by
    rw [List.nodup_cons] at D
    have ih := nodup_ownAt (h := h) D.2
    cases ho : h.get? b with
    | none =>
      have : ownAt (b :: r) h = ownAt r h := by unfold ownAt; rw [List.filterMap_cons, ho]; rfl
      rw [this]; exact ih
    | some o =>
      have : ownAt (b :: r) h = (b, o) :: ownAt r h := by unfold ownAt; rw [List.filterMap_cons, ho]; rfl
      rw [this, List.map_cons, List.nodup_cons]
      refine ⟨fun z => ?_, ih⟩
      obtain ⟨q, hq, e⟩ := List.mem_map.mp z
      have := (mem_ownAt.mp hq).1
      rw [e] at this
      exact D.1 this
theorem own_one {own : List (Addr × Obj)} {a : Addr} (h : own.map (·.1) = [a]) : ∃ o, own = [(a, o)] := by
  cases own with
  | nil => cases h
  | cons p r =>
    rw [List.map_cons, List.cons.injEq] at h
    have := List.map_eq_nil_iff.mp h.2
    subst this
    exact ⟨p.2, by rw [← h.1]⟩
theorem own_two {own : List (Addr × Obj)} {a b : Addr} (h : own.map (·.1) = [a, b]) : ∃ o o', own = [(a, o), (b, o')] := by
  cases own with
  | nil => cases h
  | cons p r =>
    rw [List.map_cons, List.cons.injEq] at h
    obtain ⟨o', rfl⟩ := own_one h.2
    exact ⟨p.2, o', by rw [← h.1]⟩
theorem ownAt_map {h : Heap} : ∀ {fp : List Addr}, (∀ b ∈ fp, ∃ o, h.get? b = some o) → (ownAt fp h).map (·.1) = fp
  | [], _ => rfl
  | b :: r, hx => by
    obtain ⟨o, ho⟩ := hx b (.head _)
    have : ownAt (b :: r) h = (b, o) :: ownAt r h := by unfold ownAt; rw [List.filterMap_cons, ho]; rfl
    rw [this, List.map_cons, ownAt_map fun c hc => hx c (.tail _ hc)]
section
variable {prog : Program} {w : World} {A : Around} {E : Value → Shared → Prop} {s : Shared} {env : Env} {h₀ : Heap} {x : PySem.Str} {px : Pos} {body : List Stmt} {Q : Flow → Shared → Prop} {m : PySem.Str → Option Value} {led : List (Addr × Obj)}
def FEnd (h₀ : Heap) (L : Addr) (K : (PySem.Str → Option Value) → List (Addr × Obj) → Prop) (own : List (Addr × Obj)) (s : Shared) (Q : Flow → Shared → Prop) (f : Flow) (s₂ : Shared) : Prop :=
  match f with
  | .ret v => Q (.ret v) s₂
  | .brk => Q .next s₂
  | _ => ∃ h' tk m' l', s₂ = { s with heap := h', toks := tk } ∧ Fr h₀ L h' m' ∧ News h₀ L h' (l' ++ own) ∧ ((l' ++ own).map (·.1)).Nodup ∧ K m' l'
theorem FEnd.next {L : Addr} {K : (PySem.Str → Option Value) → List (Addr × Obj) → Prop} {own l' : List (Addr × Obj)} {h' : Heap} {tk : Nat} {m' : PySem.Str → Option Value} (F : Fr h₀ L h' m') (N : News h₀ L h' (l' ++ own)) (D : ((l' ++ own).map (·.1)).Nodup) (k : K m' l') :
    FEnd h₀ L K own s Q .next { s with heap := h', toks := tk } := ⟨h', tk, m', l', rfl, F, N, D, k⟩
theorem for_JG {I : Addr} {fp wr : List Addr} {n : Nat} {P : Nat → Value → Prop} {St : Nat → Heap → Prop} (J : Nat → (PySem.Str → Option Value) → List (Addr × Obj) → Prop)
    (W : Walks prog w A I fp wr n P St) (hx : env.kindOf x = some .local) (hp : (env.scope.kind == .class || (env.scope.kind == .module && env.locals != env.globals)) = false)
    (hLf : env.locals ∉ fp) (hfn : ∀ b ∈ fp, h₀.get? b = none) (hfd : fp.Nodup) (hex : ∀ i h, St i h → ∀ b ∈ fp, ∃ o, h.get? b = some o) (hst : St 0 s.heap) (F : Fr h₀ env.locals s.heap m) (N : News h₀ env.locals s.heap led) (D : (led.map (·.1)).Nodup) (hdis : ∀ p ∈ led, p.1 ∉ fp) (hJ : J 0 m led)
    (turn : ∀ i v m₁ led₁ h tk own, own.map (·.1) = fp → i < n → P i v → J i m₁ led₁ → ((led₁ ++ own).map (·.1)).Nodup → Fr h₀ env.locals h (fun y => if y = x then some v else m₁ y) → News h₀ env.locals h (led₁ ++ own) →
      wpG (model prog w) A (execs body env) (FEnd h₀ env.locals (J (i + 1)) own s Q) E { s with heap := h, toks := tk })
    (done : ∀ m₁ led₁ h tk, J n m₁ led₁ → (led₁.map (·.1)).Nodup → Fr h₀ env.locals h m₁ → News h₀ env.locals h led₁ → Q .next { s with heap := h, toks := tk })
    (hE : PassesOwn (model prog w) A env E := by passes_own) : FoG prog w A E env (.Name x px) (.ref I) body Q s := by
  refine ?whole
  have hLw : env.locals ∉ wr := fun h => hLf (W.sub _ h)
  have old : ∀ b o, h₀.get? b = some o → b ∉ wr := fun b o e hb => by rw [hfn b (W.sub _ hb)] at e; cases e
  have key : ∀ k i, k = n - i → i ≤ n → ∀ m₁ led₁ h tk, J i m₁ led₁ → Fr h₀ env.locals h m₁ → News h₀ env.locals h led₁ → (led₁.map (·.1)).Nodup → (∀ p ∈ led₁, p.1 ∉ fp) → St i h → FoG prog w A E env (.Name x px) (.ref I) body Q { s with heap := h, toks := tk } := by
    intro k
    induction k with
    | zero =>
      intro i hk hi m₁ led₁ h tk hJ F N D hdis hst
      have : i = n := by k_extra "o"
      subst this
      refine foG_turn ?_ hE
      refine W.done _ _ _ hst fun h₁ tk₁ hk₁ => ?_
      exact done m₁ led₁ h₁ tk₁ hJ D ⟨F.ns.at' fun o e => hk₁ _ o hLw e, fun b o e => hk₁ b o (old b o e) (F.keep b o e), F.above⟩ fun p hp => ⟨hk₁ _ _ (fun q => hdis p hp (W.sub _ q)) (N p hp).1, (N p hp).2⟩
    | succ k ih =>
      intro i hk hi m₁ led₁ h tk hJ F N D hdis hst
      refine foG_turn ?_ hE
      refine W.item i _ _ _ (by k_extra "o") hst fun v h₁ tk₁ hP hst₁ hk₁ => ?_
      have F₁ : Fr h₀ env.locals h₁ m₁ := ⟨F.ns.at' fun o e => hk₁ _ o hLw e, fun b o e => hk₁ b o (old b o e) (F.keep b o e), F.above⟩
      have N₁ : News h₀ env.locals h₁ led₁ := fun p hp => ⟨hk₁ _ _ (fun q => hdis p hp (W.sub _ q)) (N p hp).1, (N p hp).2⟩
      refine wpAny_assign_Name (wpAny_storeName_local hx F₁.ns (fun h₂ hn₂ hs₂ => ?_) hp)
      have F₂ := F₁.set hn₂ hs₂
      have hst₂ : St (i + 1) h₂ := W.frame _ _ _ hst₁ fun b hb o e => (hs₂.2 b fun q => hLf (q ▸ hb)).trans e
      have No : News h₀ env.locals h₂ (ownAt fp h₂) := fun p hp => ⟨(mem_ownAt.mp hp).2, fun q => hLf (q ▸ (mem_ownAt.mp hp).1), hfn _ (mem_ownAt.mp hp).1⟩
      have N₂ : News h₀ env.locals h₂ (led₁ ++ ownAt fp h₂) := fun p hp => (List.mem_append.mp hp).elim (N₁.set hs₂ p) (No p)
      have D₂ : ((led₁ ++ ownAt fp h₂).map (·.1)).Nodup := by
        rw [List.map_append, List.nodup_append]
        refine ⟨D, nodup_ownAt hfd, fun a ha b hb e => ?_⟩
        obtain ⟨p, hp, rfl⟩ := List.mem_map.mp ha
        obtain ⟨q, hq, rfl⟩ := List.mem_map.mp hb
        exact hdis p hp (e ▸ (mem_ownAt.mp hq).1)
      refine wpG_mono (turn i v m₁ led₁ h₂ _ (ownAt fp h₂) (ownAt_map (hex _ _ hst₂)) (by k_extra "o") hP hJ D₂ F₂ N₂) (fun f s₃ h₃ => ?_) fun _ _ e => e
      have go : (∃ h' tk' m' l', s₃ = { s with heap := h', toks := tk' } ∧ Fr h₀ env.locals h' m' ∧ News h₀ env.locals h' (l' ++ ownAt fp h₂) ∧ ((l' ++ ownAt fp h₂).map (·.1)).Nodup ∧ J (i + 1) m' l') → FoG prog w A E env (.Name x px) (.ref I) body Q s₃ := by
        rintro ⟨h', tk', m', l', rfl, F', N', D', hJ'⟩
        rw [List.map_append, List.nodup_append] at D'
        have hst' : St (i + 1) h' := W.frame _ _ _ hst₂ fun b hb o e => (N' (b, o) (List.mem_append_right _ (mem_ownAt.mpr ⟨hb, e⟩))).1
        refine ih (i + 1) (by k_extra "o") (by k_extra "o") m' l' h' tk' hJ' F' (fun p hp => N' p (List.mem_append_left _ hp)) D'.1 (fun p hp hb => ?_) hst'
        cases ho : h₂.get? p.1 with
        | some o => exact D'.2.2 p.1 (List.mem_map_of_mem hp) p.1 (List.mem_map.mpr ⟨(p.1, o), mem_ownAt.mpr ⟨hb, ho⟩, rfl⟩) rfl
        | none =>
          obtain ⟨o, e⟩ := hex _ _ hst₂ _ hb
          rw [ho] at e; cases e
      cases f with
      | ret v => exact h₃
      | brk => exact h₃
      | next => exact go h₃
      | cont => exact go h₃
  exact key n 0 rfl (Nat.zero_le _) m led s.heap s.toks hJ F N D hdis hst
  run_tac Mine.Sh.shrink
theorem range_JG {r : Addr} {a₀ b₀ d : Int} {t₀ u₀ v₀ : Tok} {n : Nat} (J : Nat → (PySem.Str → Option Value) → List (Addr × Obj) → Prop)
    (hh : A.handled = none) (hx : env.kindOf x = some .local) (hp : (env.scope.kind == .class || (env.scope.kind == .module && env.locals != env.globals)) = false)
    (hr : IsRange s.heap r a₀ b₀ d t₀ u₀ v₀) (hsmall : Builtin.Range.small a₀ b₀ d = true) (hn : Builtin.Range.rangeSize a₀ b₀ d = (n : Int))
    (F : Fr h₀ env.locals s.heap m) (N : News h₀ env.locals s.heap led) (D : (led.map (·.1)).Nodup) (hJ : J 0 m led)
    (turn : ∀ i m₁ led₁ t h tk I oI, i < n → J i m₁ led₁ → ((led₁ ++ [(I, oI)]).map (·.1)).Nodup → Fr h₀ env.locals h (fun y => if y = x then some (.int (a₀ + (i : Nat) * d) t) else m₁ y) → News h₀ env.locals h (led₁ ++ [(I, oI)]) →
      wpG (model prog w) A (execs body env) (FEnd h₀ env.locals (J (i + 1)) [(I, oI)] s Q) E { s with heap := h, toks := tk })
    (done : ∀ m₁ led₁ h tk, J n m₁ led₁ → (led₁.map (·.1)).Nodup → Fr h₀ env.locals h m₁ → News h₀ env.locals h led₁ → Q .next { s with heap := h, toks := tk })
    (hE : PassesOwn (model prog w) A env E := by passes_own) : wpAny (model prog w) A (pyIter (.ref r)) (fun it s₂ => FoG prog w A E env (.Name x px) it body Q s₂) E s := by
  refine ?whole
  refine wpAny_pyIter_range hr hsmall ?_
  have W : Walks prog w A s.heap.objs.size [s.heap.objs.size] [s.heap.objs.size] n (fun i v => i < n ∧ ∃ t, v = .int (a₀ + i * d) t)
      (fun i h => IsRangeIter h s.heap.objs.size (a₀ + (i : Nat) * d) ((n : Int) - (i : Nat)) d) := (Walks.range hh _ a₀ d n).bound
  refine for_JG J W hx hp ?_ ?_ (by simp) ?_ (by show IsRangeIter _ _ _ _ _; rw [hn]; simpa using Heap.get?_push_size _ rfl) (F.push _) (fun p hp => ⟨Heap.get?_push_of_some _ (N p hp).1, (N p hp).2⟩) D ?_ hJ ?_ ?_ hE
  · intro hm
    exact absurd F.ns.lt ((List.mem_singleton.mp hm) ▸ Nat.lt_irrefl _)
  · intro b' hb
    rw [List.mem_singleton.mp hb]
    exact next_is_new F
  · intro i h st b hb
    rw [List.mem_singleton.mp hb]
    exact ⟨_, st⟩
  · intro p hp hI
    exact absurd (Heap.lt_size (N p hp).1) ((List.mem_singleton.mp hI) ▸ Nat.lt_irrefl _)
  · rintro i v m₁ l₁ h tk own ho hin ⟨_, t, rfl⟩ hI D₁ F₁ N₁
    obtain ⟨oI, rfl⟩ := own_one ho
    exact turn i m₁ l₁ t h tk _ oI hin hI D₁ F₁ N₁
  · intro m₁ l₁ h tk hI D₁ F₁ N₁
    exact done m₁ l₁ h tk hI D₁ F₁ N₁
  run_tac Mine.Sh.shrink
theorem list_JG {l : Addr} {vs : Array Value} {c : Nat} (J : Nat → (PySem.Str → Option Value) → List (Addr × Obj) → Prop)
    (hh : A.handled = none) (hx : env.kindOf x = some .local) (hp : (env.scope.kind == .class || (env.scope.kind == .module && env.locals != env.globals)) = false)
    (F : Fr h₀ env.locals s.heap m) (N : News h₀ env.locals s.heap ((l, listOf vs c) :: led)) (D : ((l :: led.map (·.1)) : List Addr).Nodup) (hJ : J 0 m led)
    (turn : ∀ i v m₁ led₁ h tk I oI l oL, i < vs.size → vs[i]? = some v → J i m₁ led₁ → ((led₁ ++ [(I, oI), (l, oL)]).map (·.1)).Nodup → Fr h₀ env.locals h (fun y => if y = x then some v else m₁ y) → News h₀ env.locals h (led₁ ++ [(I, oI), (l, oL)]) →
      wpG (model prog w) A (execs body env) (FEnd h₀ env.locals (J (i + 1)) [(I, oI), (l, oL)] s Q) E { s with heap := h, toks := tk })
    (done : ∀ m₁ led₁ h tk, J vs.size m₁ led₁ → (led₁.map (·.1)).Nodup → Fr h₀ env.locals h m₁ → News h₀ env.locals h led₁ → Q .next { s with heap := h, toks := tk })
    (hE : PassesOwn (model prog w) A env E := by passes_own) : wpAny (model prog w) A (pyIter (.ref l)) (fun it s₂ => FoG prog w A E env (.Name x px) it body Q s₂) E s := by
  refine ?whole
  have z := N _ (.head _)
  have hls : s.heap.IsList l vs := News.isList N (.head _)
  have hlt : l < s.heap.objs.size := Heap.lt_size z.1
  rw [List.nodup_cons] at D
  refine wpAny_pyIter_list hls ?_
  have W := Walks.list (prog := prog) (w := w) hh s.heap.objs.size l (Nat.ne_of_lt hlt) vs
  refine for_JG J W hx hp ?_ ?_ (by rw [List.nodup_cons]; exact ⟨fun q => absurd (List.mem_singleton.mp q) (Nat.ne_of_gt hlt), by simp⟩) ?_ ⟨⟨_, Heap.get?_push_size _ rfl, rfl, rfl⟩, hls.at fun o e => Heap.get?_push_of_some _ e⟩ (F.push _) (fun p hp => ⟨Heap.get?_push_of_some _ (N p (.tail _ hp)).1, (N p (.tail _ hp)).2⟩) D.2 ?_ hJ ?_ ?_ hE
  · intro hm
    rcases List.mem_cons.mp hm with e | e
    · exact absurd F.ns.lt (e ▸ Nat.lt_irrefl _)
    · exact z.2.1 (List.mem_singleton.mp e).symm
  · intro b' hb
    rcases List.mem_cons.mp hb with rfl | hb
    · exact next_is_new F
    · rw [List.mem_singleton.mp hb]; exact z.2.2
  · intro i h st b hb
    rcases List.mem_cons.mp hb with rfl | hb
    · obtain ⟨o, e, _⟩ := st.1; exact ⟨o, e⟩
    · rw [List.mem_singleton.mp hb]
      obtain ⟨o, e, _⟩ := st.2; exact ⟨o, e⟩
  · intro p hp hI
    rcases List.mem_cons.mp hI with e | e
    · exact absurd (Heap.lt_size (N p (.tail _ hp)).1) (e ▸ Nat.lt_irrefl _)
    · exact D.1 ((List.mem_singleton.mp e) ▸ List.mem_map_of_mem hp)
  · intro i v m₁ l₁ h tk own ho hin hv hI D₁ F₁ N₁
    obtain ⟨oI, oL, rfl⟩ := own_two ho
    exact turn i v m₁ l₁ h tk _ oI _ oL hin hv hI D₁ F₁ N₁
  · intro m₁ l₁ h tk hI D₁ F₁ N₁
    exact done m₁ l₁ h tk hI D₁ F₁ N₁
  run_tac Mine.Sh.shrink
end
end Mine
end
section
set_option maxRecDepth 100000
namespace Mine
theorem raisedSub {base G : Heap} {l : List Env} {e : Addr} {cls : Value} {t : Addr} {vs : List Value} {news news' : List (Addr × Obj)} {h : Heap} (R : RaisedS base G l e cls t vs news h) (hs : ∀ q ∈ news', q ∈ news) : RaisedS base G l e cls t vs news' h := by
  obtain ⟨⟨B, h1, h2, h3, h4, h5⟩, h6⟩ := R
  exact ⟨⟨B, h1, h2, fun q hq => h3 q (hs q hq), h4, h5⟩, h6⟩
theorem Tk4 {c1 c2 c3 c4 : Addr × Obj} {cs full rest : List (Addr × Obj)} (T : Takes (c1 :: c2 :: c3 :: c4 :: cs) full rest) : ∃ r, True ∧ Takes [c1, c2, c3, c4] full r := by
  refine ?whole
  cases T with
  | cons h1 T => cases T with
    | cons h2 T => cases T with
      | cons h3 T => cases T with
        | cons h4 T => exact ⟨_, trivial, .cons h1 (.cons h2 (.cons h3 (.cons h4 .nil)))⟩
  run_tac Mine.Sh.shrink
def Flies (base h₀ : Heap) (L : Addr) (m : Str → Option Value) (l : List Env) (cls : Value) (full cs cs' : List (Addr × Obj)) (e : Addr) (h : Heap) : Prop :=
  ∃ G t vs, Fr h₀ L G m ∧ G.UpToSlots h ∧ ∀ l', Puts cs cs' full l' → RaisedS base G l e cls t vs l' h
theorem put_id {c : Addr × Obj} {l r : List (Addr × Obj)} (h : Rem c l r) : Put c c l l := by
  induction h with
  | head => exact .head
  | tail _ ih => exact .tail ih
theorem put_of_mem {c : Addr × Obj} : ∀ {l : List (Addr × Obj)}, c ∈ l → Put c c l l
  | _ :: _, .head _ => .head
  | _ :: _, .tail _ h => .tail (put_of_mem h)
theorem puts_id' : ∀ {cs l : List (Addr × Obj)}, (∀ q ∈ cs, q ∈ l) → Puts cs cs l l
  | [], _, _ => .nil
  | c :: cs, _, h => .cons (put_of_mem (h c (.head _))) (puts_id' fun q hq => h q (.tail _ hq))
theorem puts_id {cs l r : List (Addr × Obj)} (T : Takes cs l r) : Puts cs cs l l := puts_id' T.mem.1
section
variable {M : Model} {A A₀ : Around} {E : Value → Shared → Prop} {s' : Shared} {base g g₂ h h₀ h' : Heap} {outer : List Env} {L L' a e t : Addr} {m m' : Str → Option Value} {name : Str} {scope : Scope} {cd : Value} {Q : Unit → Shared → Prop} {news rest full cs cs' r' : List (Addr × Obj)} {env : Env} {cls : Value} {vs : List Value} {R : Result → Shared → Prop}
theorem raise_rest (B₀ : Below A₀ base outer h₀) (hf : env.frame = some L) (FG : Fr h₀ L g m) (Nr : News h₀ L g rest) (R : RaisedS base g (env :: outer) e cls t vs news h') (hsm : g.UpToSlots h') :
    ∃ G, Fr h₀ L G m ∧ G.UpToSlots h' ∧ RaisedS base G (env :: outer) e cls t vs (news ++ rest) h' := by
  refine ?whole
  have nm : ∀ b o, h₀.get? b = some o → b ∉ rest.map (·.1) := fun b o e q => by
    obtain ⟨p, hp, rfl⟩ := List.mem_map.mp q
    rw [(Nr p hp).2.2] at e; cases e
  have nL : L ∉ rest.map (·.1) := fun q => by
    obtain ⟨p, hp, e⟩ := List.mem_map.mp q
    exact (Nr p hp).2.1 e
  have off : ∀ q ∈ rest, q.1 ∉ (env :: outer).filterMap (·.frame) := fun q hq hm => by
    obtain ⟨v, hv, hb⟩ := List.mem_filterMap.mp hm
    rcases List.mem_cons.mp hv with rfl | hv
    · rw [hf] at hb
      exact (Nr q hq).2.1 (Option.some.inj hb).symm
    · obtain ⟨_, o, ho, _⟩ := B₀.frames.mem (List.mem_filterMap.mpr ⟨v, hv, hb⟩)
      rw [(Nr q hq).2.2] at ho; cases ho
  obtain ⟨oL, es, ep, hL, hLd, hLk, hLf⟩ := FG.ns
  refine ⟨hideAll g (rest.map (·.1)), ⟨⟨oL, es, ep, hideAll_get _ hL nL, hLd, hLk, hLf⟩, fun b o e => hideAll_get _ (FG.keep b o e) (nm b o e), FG.above⟩, fun b o e hd => hsm b o (of_hideAll _ e) hd, ?_⟩
  obtain ⟨⟨B, h1, h2, h3, h4, h5⟩, h6⟩ := R
  refine ⟨⟨B, h1, fun b o e hn => h2 b o (of_hideAll _ e) hn, fun q hq => ?_, h4, h5⟩, h6⟩
  rcases List.mem_append.mp hq with hq | hq
  · have z := h3 q hq
    refine ⟨z.1, ?_, z.2.2⟩
    cases w : (hideAll g (rest.map (·.1))).get? q.1 with
    | none => rfl
    | some o =>
      have := of_hideAll _ w
      rw [z.2.1] at this; cases this
  · exact ⟨h2 _ _ (Nr q hq).1 (off q hq), hideAll_none _ (List.mem_map_of_mem hq), fresh_of_stays B₀.stays (Nr q hq).2.2⟩
  run_tac Mine.Sh.shrink
theorem raised_back (Tk : Takes cs full rest) (D : (full.map (·.1)).Nodup) (e' : cs.map (·.1) = cs'.map (·.1)) (Tn : Takes cs' news r') (R : RaisedS base g (env :: outer) e cls t vs (news ++ rest) h') :
    ∀ l', Puts cs cs' full l' → RaisedS base g (env :: outer) e cls t vs l' h' := fun l' P => raisedSub R fun q hq => by
  rcases (P.spec e' D).2 q hq with k | ⟨k, k'⟩
  · exact List.mem_append_left _ (Tn.mem.1 q k)
  · rcases List.mem_append.mp (Tk.perm.mem_iff.mpr k) with z | z
    · exact absurd (List.mem_map_of_mem (f := (·.1)) z) k'
    · exact List.mem_append_right _ z
theorem raise_out (B₀ : Below A₀ base outer h₀) (hf : env.frame = some L) (FG : Fr h₀ L g m) (Nr : News h₀ L g rest) (K : Below A base (env :: outer) g) (hx : Heap.MadeExcOf h s'.heap e cls vs) (F : Fr g L' h m') (N : News g L' h news)
    (Tk : Takes cs full rest) (D : (full.map (·.1)).Nodup) (Tn : Takes cs' news r') (e' : cs.map (·.1) = cs'.map (·.1))
    (hQ : ∀ h', Flies base h₀ L m (env :: outer) cls full cs cs' e h' → Q () { s' with heap := h' }) (hk : scope.kind = .function := by rfl) :
    wpAny M (A.deeper (envOf name scope L' a cd)) (leaving (envOf name scope L' a cd) (.ref e)) Q E s' :=
  leave_raiseS K hx F N (fun h' t R _ hsm => by
    obtain ⟨G, FG', hs', R'⟩ := raise_rest B₀ hf FG Nr R hsm
    exact hQ h' ⟨G, t, vs, FG', hs', raised_back Tk D e' Tn R'⟩) hk
theorem raise_on (B₀ : Below A₀ base outer h₀) (hf : env.frame = some L) (FG : Fr h₀ L g m) (Nr : News h₀ L g rest) (K : Below A base (env :: outer) g)
    {full' cs1 cs1' : List (Addr × Obj)} (Fl : Flies base g L' m' (envOf name scope L' a cd :: env :: outer) cls full' cs1 cs1' e s'.heap) (P : Puts cs1 cs1' full' news)
    (Tk : Takes cs full rest) (D : (full.map (·.1)).Nodup) (Tn : Takes cs' news r') (e' : cs.map (·.1) = cs'.map (·.1))
    (hQ : ∀ h', Flies base h₀ L m (env :: outer) cls full cs cs' e h' → Q () { s' with heap := h' }) :
    wpAny M (A.deeper (envOf name scope L' a cd)) (leaving (envOf name scope L' a cd) (.ref e)) Q E s' := by
  refine ?whole
  obtain ⟨G, t, vs, F, hsm, R⟩ := Fl
  exact leave_onS K F (R _ P) hsm (fun h' R _ hsm => by
    obtain ⟨G, FG', hs', R'⟩ := raise_rest B₀ hf FG Nr R hsm
    exact hQ h' ⟨G, t, vs, FG', hs', raised_back Tk D e' Tn R'⟩)
  run_tac Mine.Sh.shrink
end
end Mine
end
section
set_option maxRecDepth 100000
namespace Mine
open Sem (wp)
section
variable {prog : Program} {w : World} {A : Around} {s : Shared} {R : Result → Shared → Prop}
theorem codeG_call_function {a : Addr} {args : Args} {o : Obj} {fd : FuncData} {body : List Stmt} (hroom : A.depth < recursionLimit)
    (ho : s.heap.get? a = some o)
    (hd' : o.data = .func fd) (hco : fd.scope.isCoroutine = false) (hgen : fd.scope.isGenerator = false) (hbody : fd.body = .stmts body) (hcd : s.heap.CodeRec fd.code fd.qualname)
    (h : wpAny (model prog w) A.in1 (bindArgs fd args) (fun binds s₁ =>
      wpAny (model prog w) A.in1 (newFunctionEnv fd.scope fd.globals fd.closure binds (fd.qualname ++ ".<locals>.") (some a) fd.code none fd.builtins)
        (fun env s₂ => s₂.heap.NoLimit ∧ codeG (model prog w) A (.func body env) R s₂) (fun e s' => R (.error e) s') s₁) (fun e s' => R (.error e) s') s) :
    codeG (model prog w) A (.call (.ref a) args) R s := by
  refine ?whole
  refine codeG_of_tree (ok_call _ _) (wpG_of_any ?_)
  show wpAny _ A.in1 (callAny (.ref a) args) _ _ s
  simp only [callAny]
  refine wpAny_bind (wpAny_load ho ?_)
  obtain ⟨c, oc, vs, tq, hc, hoc, hdc, hq⟩ := hcd
  simp only [hd', callFunction, hco, hgen, hbody, hc]
  rw [hc] at h
  refine wpAny_bind (m := field (.ref c) 1) (wpAny_field hoc hdc hq (wpAny_bind (wpAny_pure ?_)))
  exact wpAny_bind (wpAny_mono h (fun binds s₁ h₁ => wpAny_bind (wpAny_mono h₁ (fun env s₂ h₂ => wpAny_bind (wpAny_enterFrame h₂.1 hroom
    (wpAny_pure (And.intro rfl h₂.2)))) fun _ _ h' => h')) fun _ _ h' => h')
  run_tac Mine.Sh.shrink
theorem codeG_call_cells {a : Addr} {o : Obj} {fd : FuncData} {body : List Stmt} {vals : List Value} {binds : List (Str × Value)}
    (hroom : A.depth < recursionLimit) (ho : s.heap.get? a = some o) (hdata : o.data = .func fd) (hlim : s.heap.NoLimit) (hcd : s.heap.CodeRec fd.code fd.qualname)
    (hbody : fd.body = .stmts body) (hbind : bindArgs fd ⟨vals, []⟩ = pure binds) (hclo : fd.closure = [])
    (hkind : ∀ x ∈ binds, fd.scope.names.lookup x.1 = some .local ∨ (fd.scope.names.lookup x.1 = some .cell ∧ ((cellsFrom (s.heap.objs.size + 1) fd.scope.names []).lookup x.1).isSome = true))
    (h : ∀ s₁, InCallC s (callEnvC fd s.heap.objs.size a).locals (bindL (callEnvC fd s.heap.objs.size a).kindOf binds fun _ => none) (callEnvC fd s.heap.objs.size a).cells
        (bindC (callEnvC fd s.heap.objs.size a).kindOf binds fun _ => none) s₁ →
      wpG (model prog w) (A.deeper (callEnvC fd s.heap.objs.size a)) (execs body (callEnvC fd s.heap.objs.size a)) (fun f s' => R (.ok (.ret (match f with | .ret v => v | _ => .none))) s')
        (fun e s' => wpAny (model prog w) (A.deeper (callEnvC fd s.heap.objs.size a)) (leaving (callEnvC fd s.heap.objs.size a) e) (fun _ s'' => R (.error e) s'') (fun e' s'' => R (.error e') s'') s') s₁)
    (hco : fd.scope.isCoroutine = false := by rfl) (hgen : fd.scope.isGenerator = false := by rfl) (hk : fd.scope.kind = .function := by rfl) :
    codeG (model prog w) A (.call (.ref a) ⟨vals, []⟩) R s := by
  refine codeG_call_function hroom ho hdata hco hgen hbody hcd ?_
  rw [hbind, hclo]
  refine wpAny_pure (wpAny_newFunctionEnv_cells hk hkind fun env he s' x => ?_)
  subst he
  exact ⟨hlim.keeps x.toInCall.keep, codeG_func (h s' x)⟩
theorem callG_cellsN {name : Str} {params : Arguments} {body : List Stmt} {scope : Scope}
    {pm cd doc : Value} {a : Addr} {o : Obj} {args : List Value} {binds : List (Str × Value)}
    (hroom : A.depth < recursionLimit) (ho : s.heap.get? a = some o) (hdata : o.data = .func (Calls.docDef name params body scope pm cd doc)) (hlim : s.heap.NoLimit) (hcd : s.heap.CodeRec cd name)
    (hbind : bindArgs (Calls.docDef name params body scope pm cd doc) ⟨args, []⟩ = pure binds)
    (hkind : ∀ x ∈ binds, scope.names.lookup x.1 = some .local ∨ (scope.names.lookup x.1 = some .cell ∧ ((cellsFrom (s.heap.objs.size + 1) scope.names []).lookup x.1).isSome = true))
    (hnd : ((cellsFrom 0 scope.names []).map (·.1)).Nodup)
    (h : ∀ h₁ tk cells, Fr s.heap s.heap.objs.size h₁ (bindL (envOfC name scope s.heap.objs.size a cd).kindOf binds fun _ => none) → News s.heap s.heap.objs.size h₁ cells →
      CellsAre (bindC (envOfC name scope s.heap.objs.size a cd).kindOf binds fun _ => none) (cellsFrom (s.heap.objs.size + 1) scope.names []) cells →
      wpG (model prog w) (A.deeper (envOfC name scope s.heap.objs.size a cd)) (execs body (envOfC name scope s.heap.objs.size a cd))
        (fun f s' => R (.ok (.ret (match f with | .ret v => v | _ => .none))) s')
        (fun e s' => wpAny (model prog w) (A.deeper (envOfC name scope s.heap.objs.size a cd)) (leaving (envOfC name scope s.heap.objs.size a cd) e)
          (fun _ s'' => R (.error e) s'') (fun e' s'' => R (.error e') s'') s')
        { s with heap := h₁, toks := tk })
    (hco : scope.isCoroutine = false := by rfl) (hgen : scope.isGenerator = false := by rfl) (hk : scope.kind = .function := by rfl) :
    codeG (model prog w) A (.call (.ref a) ⟨args, []⟩) R s := by
  refine ?whole
  refine codeG_call_cells (fd := Calls.docDef name params body scope pm cd doc) hroom ho hdata hlim hcd rfl hbind rfl hkind (fun s₁ X => ?_) hco hgen hk
  obtain ⟨h₁, tk, rfl, _⟩ := X.done
  obtain ⟨cells, N, Y⟩ := Cl.news (h₀ := s.heap) (Nat.le_refl _) fun n c hm => ⟨X.cell n c (lookup_of_mem_nodup (cellsFrom_names scope.names 0 (s.heap.objs.size + 1) [] [] rfl ▸ hnd) hm), X.above n c hm⟩
  exact h h₁ tk cells ⟨X.toInCall.ns, X.toInCall.keep, X.toInCall.fresh⟩ N Y
  run_tac Mine.Sh.shrink
theorem enter_callG {f : Value} {pos : List Value} {kw : List (Str × Value)} {c : ClaimW} {cl : Str → Option Addr} {mean : ExcName → Option Value} {args : List WData} {s₁ : Shared}
    (h : codeG (model prog w) A (.call f ⟨pos, kw⟩) (GoodWG c cl mean args s₁) s) : wpG (model prog w) A (PySem.call f pos kw) (fun v s' => GoodWG c cl mean args s₁ (.ok (.ret v)) s') (fun e s' => GoodWG c cl mean args s₁ (.error e) s') s :=
  wpG_call (codeG_mono h fun res s' g => by rcases g.1 with ⟨v, _, _, rfl, _⟩ | ⟨e, _, _, rfl, _⟩ <;> exact g)
end
end Mine
end
section
set_option maxRecDepth 100000
namespace Mine
open SeqAt
section
variable {prog : Program} {w : World} {A : Around} {E : Value → Shared → Prop} {s : Shared} {h₀ : Heap} {L : Addr} {news : List (Addr × Obj)} {Q : Value → Shared → Prop}
abbrev tupO (vs : Array Value) : Obj := { cls := .type "tuple", data := .seq vs }
theorem eqAt_bytes {b : Array UInt8} {t u : Tok} : EqAt A s (.bytes b t) (.bytes b u) true := fun prog w E Q h => by
  unfold eqBool
  refine wpAny_holding ?_
  refine wpAny_ite_split (fun _ => wpAny_bind (wpAny_rule (wpAny_pure h))) (fun _ => ?_)
  refine wpAny_bind (?_ : wpAny (model prog w) A (compareOp .Eq (.bytes b t) (.bytes b u)) _ E s)
  refine PySem.W.eq_bytes ?_
  rw [beq_self_eq_true]
  exact wpAny_truthy_bool h
theorem eqAt_of {a b : Addr} (h : RcAt A s (.ref a) (.ref b) true) : EqAt A s (.ref a) (.ref b) true := by
  by_cases e : a = b
  · subst e; exact EqAt.same _
  · exact EqAt.of_refs e h
theorem all_true (n : Nat) : (List.range n).all (fun _ => true) = true := by simp
theorem eqAt_bs {vs ws : List Value} {bs : List Bs} (hv : BytesAre vs bs) (hw : BytesAre ws bs) {A : Around} : ∀ j (h1 : j < vs.toArray.size) (h2 : j < ws.toArray.size), EqAt A s vs.toArray[j] ws.toArray[j] ((fun _ => true) j) := by
  intro j h1 h2
  have hl := hv.len
  rw [List.size_toArray] at h1 h2
  have hb : bs[j]? = some bs[j] := List.getElem?_eq_getElem (by k_extra "o")
  obtain ⟨t, e1⟩ := hv.get j _ hb
  obtain ⟨u, e2⟩ := hw.get j _ hb
  have f1 : vs.toArray[j] = .bytes (bs[j]).toArray t := by
    have := List.getElem?_eq_getElem h1
    rw [e1] at this
    rw [List.getElem_toArray]; exact (Option.some.inj this).symm
  have f2 : ws.toArray[j] = .bytes (bs[j]).toArray u := by
    have := List.getElem?_eq_getElem h2
    rw [e2] at this
    rw [List.getElem_toArray]; exact (Option.some.inj this).symm
  rw [f1, f2]
  exact eqAt_bytes
theorem isTup (N : News h₀ L s.heap news) {a : Addr} {vs : Array Value} (h : (a, tupO vs) ∈ news) : s.heap.IsTuple a vs := ⟨_, (N _ h).1, rfl, _, rfl⟩
theorem isLst (N : News h₀ L s.heap news) {a : Addr} {vs : Array Value} {n : Nat} (h : (a, listOf vs n) ∈ news) : s.heap.IsList a vs := PySem.IsL.isList (n := n) (N _ h).1
theorem cmp_bs {a b : Addr} {vs ws : List Value} {bs : List Bs} {n m : Nat} (N : News h₀ L s.heap news) (h1 : (a, listOf vs.toArray n) ∈ news) (h2 : (b, listOf ws.toArray m) ∈ news) (hv : BytesAre vs bs) (hw : BytesAre ws bs) (hu : A.units + 64 < cLine) (h : Q (.bool false) s) :
    wpAny (model prog w) A (compareOp .NotEq (.ref a) (.ref b)) Q E s := by
  have z := RcNeAt.lists (A := A) (e := fun _ => true) (isLst N h1) (isLst N h2) (by rw [List.size_toArray, List.size_toArray, hv.len, hw.len]) (by k_extra "o") (eqAt_bs hv hw)
  rw [all_true] at z
  exact z prog w E Q h
theorem cmp_bsk {p q a b : Addr} {vs ws : List Value} {bs : List Bs} {n m : Nat} {k : Int} {t u : Tok} (N : News h₀ L s.heap news) (h1 : (p, tupO #[.ref a, .int k t]) ∈ news) (h2 : (q, tupO #[.ref b, .int k u]) ∈ news)
    (h3 : (a, listOf vs.toArray n) ∈ news) (h4 : (b, listOf ws.toArray m) ∈ news) (hv : BytesAre vs bs) (hw : BytesAre ws bs) (hu : A.units + 64 < cLine) (h : Q (.bool false) s) :
    wpAny (model prog w) A (compareOp .NotEq (.ref p) (.ref q)) Q E s := by
  have e0 : ∀ {A : Around}, A.units < cLine → EqAt A s (.ref a) (.ref b) true := fun {A} hA => by
    have z := RcAt.lists (A := A) (e := fun _ => true) (isLst N h3) (isLst N h4) (by rw [List.size_toArray, List.size_toArray, hv.len, hw.len]) hA (eqAt_bs hv hw)
    rw [all_true] at z
    exact eqAt_of z
  have z := RcNeAt.tuples (A := A) (e := fun _ => true) (isTup N h1) (isTup N h2) (by k_extra "o") (fun j j1 j2 => by
    have hj : j = 0 ∨ j = 1 := by
      have : j < 2 := j1
      k_extra "o"
    rcases hj with rfl | rfl
    · exact e0 (by show A.units + 1 < cLine; k_extra "o")
    · have := EqAt.int_int (A := A.in1) (s := s) k t k u
      rw [beq_self_eq_true] at this
      exact this)
  exact z prog w E Q h
theorem cmp_row {p q a b : Addr} {c : Array UInt8} {x : Str} {t u t' u' : Tok} (N : News h₀ L s.heap news) (h1 : (p, tupO #[.ref a]) ∈ news) (h2 : (q, tupO #[.ref b]) ∈ news)
    (h3 : (a, tupO #[.str x t, .bytes c u]) ∈ news) (h4 : (b, tupO #[.str x t', .bytes c u']) ∈ news) (hu : A.units + 64 < cLine) (h : Q (.bool false) s) :
    wpAny (model prog w) A (compareOp .NotEq (.ref p) (.ref q)) Q E s := by
  have e0 : EqAt A.in1 s (.ref a) (.ref b) true := by
    refine eqAt_of (?_ : RcAt A.in1 s (.ref a) (.ref b) true)
    exact RcAt.tuples (A := A.in1) (e := fun _ => true) (isTup N h3) (isTup N h4) (by show A.units + 1 < cLine; k_extra "o") (fun j j1 j2 => by
      have hj : j = 0 ∨ j = 1 := by
        have : j < 2 := j1
        k_extra "o"
      rcases hj with rfl | rfl
      · have := EqAt.str_str (A := A.in1.in1) (s := s) x t x t'
        rw [beq_self_eq_true] at this
        exact this
      · exact eqAt_bytes)
  have z := RcNeAt.tuples (A := A) (e := fun _ => true) (isTup N h1) (isTup N h2) (by k_extra "o") (fun j j1 j2 => by
    have hj : j = 0 := by
      have : j < 1 := j1
      k_extra "o"
    subst hj
    exact e0)
  exact z prog w E Q h
end
end Mine
namespace Mine
section
variable {prog : Program} {w : World} {A : Around} {E : Value → Shared → Prop} {s : Shared} {h₀ : Heap} {L l : Addr} {m : Str → Option Value} {news : List (Addr × Obj)} {value slice : PySem.Expr} {Q : Value → Shared → Prop}
theorem slice_vsU {vs : List Value} {n j : Nat} {y : Int} {ty : Tok} (F : Fr h₀ L s.heap m) (N : News h₀ L s.heap news) (hm : (l, listOf vs.toArray n) ∈ news) (hy : y = (j : Int)) (hz : vs.length ≤ 1000)
    (h : ∀ D h', Fr h₀ L h' m → News h₀ L h' ((D, listOf (vs.take j).toArray 0) :: news) → (∀ p ∈ news, p.1 < D) → Q (.ref D) { s with heap := h' })
    (hs : subscripted slice false (.ref l) (.ref s.heap.objs.size) = operate [.ref s.heap.objs.size, .ref l] (getItem (.ref l) (.ref s.heap.objs.size)) := by with_unfolding_all rfl) (ht : ∀ r, letTemporaryGo value (.ref l) r = pure () := by intro _; with_unfolding_all rfl) :
    wpAny (model prog w) A (subscriptTail value slice (.ref l) (.ref s.heap.objs.size)) Q E { s with heap := s.heap.push { cls := .type "slice", data := .fields #[.none, .int y ty, .none] } } := by
  refine kms_slice_lit (lo := none) (hi := some y) (zs := vs.take j) F N (isLst N hm) .none (.int _ _) ?_ h hs ht (by rw [List.size_toArray, sizeLine_eq]; k_extra "o")
  show kms_pick vs none (some y) = _
  unfold kms_pick kms_lo kms_hi
  dsimp only
  rw [List.drop_zero, Nat.sub_zero, if_neg (by k_extra "o"), kmk_take_min, hy, Int.toNat_natCast]
end
theorem BytesAre.take {vs : List Value} {bs : List Bs} (h : BytesAre vs bs) (j : Nat) : BytesAre (vs.take j) (bs.take j) := by
  refine ⟨by rw [List.length_take, List.length_take, h.len], fun i b hb => ?_⟩
  rw [List.getElem?_take] at hb ⊢
  by_cases hi : i < j
  · rw [if_pos hi] at hb ⊢
    exact h.get i b hb
  · rw [if_neg hi] at hb; cases hb
end Mine
end
section
set_option maxRecDepth 100000
namespace Mine
open LCt LCg
section
variable {prog : Program} {w : World} {A : Around} {s : Shared} {h₀ : Heap} {L : Addr} {m : Str → Option Value} {env : Env} {ct elt : PySem.Expr} {x : Str} {scope : Scope} {cl : List (Str × Addr)} {S : List (Addr × Obj) → Prop} {P : Nat → Value → Prop} {Fin : List Value → List (Addr × Obj) → Prop} {news : List (Addr × Obj)}
theorem rest_T {n : Nat} (J : Nat → List Value → Prop) (h0 : J 0 [])
    (turn : ∀ i ys, i < n → J i ys → ∀ v I oI C oC D m₂ h tk (E' : Value → Shared → Prop), P i v → NsObj oC m₂ → m₂ x = some v → Fr h₀ L h m → News h₀ L h ((I, oI) :: (C, oC) :: (D, lst ys) :: news) → Off3 I C D news → ((@Ne Nat I C) ∧ (@Ne Nat I D) ∧ (@Ne Nat C D)) →
      wpAny (model prog w) A (isTrue ct (compEnvC scope cl C env) (eval ct (compEnvC scope cl C env))) (fun ok s' => if ok = true then
        wpAny (model prog w) A (eval elt (compEnvC scope cl C env)) (CompEnd h₀ L m { s with heap := h, toks := tk } I oI C oC D (lst ys) S (fun y news' => news' = news ∧ J (i + 1) (ys ++ [y]))) E' s'
        else CompEnd h₀ L m { s with heap := h, toks := tk } I oI C oC D (lst ys) S (fun _ news' => news' = news ∧ J (i + 1) ys) Value.none s') E' { s with heap := h, toks := tk })
    (fin : ∀ ys, J n ys → Fin ys news) : CompRestT prog w A h₀ L m env ct elt x scope cl s S P Fin n 0 [] news := by
  refine ?whole
  have key : ∀ k i ys, i + k = n → J i ys → CompRestT prog w A h₀ L m env ct elt x scope cl s S P Fin k i ys news := by
    intro k
    induction k with
    | zero =>
      intro i ys e j
      obtain rfl : i = n := by k_extra "o"
      exact CompRestT.zero (fin ys j)
    | succ k ih =>
      intro i ys e j
      refine CompRestT.succ fun v I oI C oC D m₂ h tk E' hP hC hx F N off ne => ?_
      refine wpAny_mono (turn i ys (by k_extra "o") j v I oI C oC D m₂ h tk E' hP hC hx F N off ne) (fun ok s' hq => ?_) fun _ _ z => z
      cases ok with
      | true =>
        simp only [if_true] at hq ⊢
        refine wpAny_mono hq (fun y s'' hy => ?_) fun _ _ z => z
        obtain ⟨h', tk', news', e1, F', N', o', S', rfl, j'⟩ := hy
        exact ⟨h', tk', news', e1, F', N', o', S', ih (i + 1) _ (by k_extra "o") j'⟩
      | false =>
        simp only [Bool.false_eq_true, if_false] at hq ⊢
        obtain ⟨h', tk', news', e1, F', N', o', S', rfl, j'⟩ := hq
        exact ⟨h', tk', news', e1, F', N', o', S', ih (i + 1) _ (by k_extra "o") j'⟩
  exact key n 0 [] (by k_extra "o") h0
  run_tac Mine.Sh.shrink
end
theorem ints_push {a : Int} {t : Tok} : ∀ {vs : List Value} {ns : List Int}, IntsAre vs ns → IntsAre (vs ++ [.int a t]) (ns ++ [a])
  | _, _, .nil => .cons a t .nil
  | _, _, .cons i u h => .cons i u (ints_push h)
theorem ints_get : ∀ {vs : List Value} {ns : List Int}, IntsAre vs ns → ∀ (i : Nat) (v : Value), vs[i]? = some v → ∃ a t, v = .int a t ∧ ns[i]? = some a
  | _, _, .nil, i, v, h => by simp at h
  | _, _, .cons a t r, 0, v, h => by
    simp only [List.getElem?_cons_zero, Option.some.injEq] at h
    exact ⟨a, t, h.symm, by simp⟩
  | _, _, .cons a t r, i + 1, v, h => by
    simp only [List.getElem?_cons_succ] at h ⊢
    exact ints_get r i v h
theorem filt_step {p : Int → Bool} {ns : List Int} {i : Nat} {a : Int} (h : ns[i]? = some a) : (ns.take (i + 1)).filter p = (ns.take i).filter p ++ (if p a then [a] else []) := by
  have hi : i < ns.length := by
    rcases Nat.lt_or_ge i ns.length with q | q
    · exact q
    · rw [List.getElem?_eq_none q] at h; cases h
  have e : ns[i] = a := by rw [List.getElem?_eq_getElem hi] at h; exact Option.some.inj h
  rw [List.take_succ_eq_append_getElem hi, e, List.filter_append]
  congr 1
  cases hp : p a <;> simp [hp]
end Mine
end
section
set_option maxRecDepth 100000
namespace Mine
section
variable {prog : Program} {w : World} {A₀ A : Around} {s : Shared} {base h₀ : Heap} {outer : List Env} {L : Addr} {m : Str → Option Value} {env : Env} {rest : List (Addr × Obj)} {K : Frag}
  {R : Result → Shared → Prop} {name qual : Str} {params : Arguments} {body : List Stmt} {scope : Scope} {dV kV doc pm cdv ct oc : Value} {an od : Option Addr} {osl : Array (Option Value)} {f : Addr} {args : Args} {binds : List (Str × Value)}
  {p : Program} {loose : List Str} {mean : ExcName → Option Value} {mg mb : Str → Option Value} {d : Nat}
theorem callC (C : Cx K A₀ A base h₀ outer env L p loose mean mg mb (d + 1)) (F : Fr h₀ L s.heap m) (N : News h₀ L s.heap rest)
    (ho : K.lookup f = some ⟨oc, od, .func (fnOf name qual params body scope dV kV doc pm an cdv ct), osl⟩) (hcd : codeIn K cdv qual = true)
    (hbind : BindsTo s (fnOf name qual params body scope dV kV doc pm an cdv ct) args binds)
    (hkind : (binds.all fun y => scope.names.lookup y.1 == some .local || scope.names.lookup y.1 == some .cell) = true)
    (hnd : ((cellsFrom 0 scope.names []).map (·.1)).Nodup)
    (h : ∀ g L' h₁ tk cells dep gds uns, dep + (d + 1) < recursionLimit → uns + 8 * (d + 1) < cLine → K.In h₀ → Fr h₀ L g m → Fr g L' h₁ (bindL (envOfC qual scope L' f cdv).kindOf binds fun _ => none) → News g L' h₁ (cells ++ rest) →
      CellsAre (bindC (envOfC qual scope L' f cdv).kindOf binds fun _ => none) (cellsFrom (L' + 1) scope.names []) cells →
      Below ⟨none, dep, some (env :: outer), gds, uns⟩ base (env :: outer) g → K.In g → Top p loose mean mg mb g →
      wpAny (model prog w) (Around.deeper ⟨none, dep, some (env :: outer), gds, uns⟩ (envOfC qual scope L' f cdv)) (execs body (envOfC qual scope L' f cdv))
        (fun fl s' => LeaveK h₀ L m g R (match fl with | .ret v => v | _ => .none) s')
        (fun e s' => wpAny (model prog w) (Around.deeper ⟨none, dep, some (env :: outer), gds, uns⟩ (envOfC qual scope L' f cdv)) (leaving (envOfC qual scope L' f cdv) e) (fun _ s'' => R (.error e) s'') (fun e' s'' => R (.error e') s'') s')
        { s with heap := h₁, toks := tk })
    (hco : scope.isCoroutine = false) (hgen : scope.isGenerator = false) (hk : scope.kind = .function) : codeAny (model prog w) A (.call (.ref f) args) R s := by
  refine ?whole
  obtain ⟨a1, a2, a3, a4, a5⟩ := A
  obtain rfl : a3 = some (env :: outer) := C.hA
  obtain rfl : a1 = none := C.hh
  exact code_defC C.B F C.X N C.T C.hA C.hf C.hk ho hcd (by have : a2 + (d + 1) < recursionLimit := C.room; show a2 < recursionLimit; k_extra "o") hbind hkind hnd (fun g L' h₁ tk cells FG F' N' Y B X T _ => h g L' h₁ tk cells a2 a4 a5 C.room C.units C.X FG F' N' Y B X T) hco hgen hk
  run_tac Mine.Sh.shrink
end
end Mine
end
section
set_option maxRecDepth 100000
namespace Mine
section
variable {prog : Program} {w : World} {A₀ A : Around} {s : Shared} {base h₀ : Heap} {L : Addr} {m : Str → Option Value} {env : Env} {cells rest : List (Addr × Obj)} {K : Frag}
  {R : Result → Shared → Prop} {name qual : Str} {params : Arguments} {body : List Stmt} {scope : Scope} {dV kV doc pm cdv ct oc : Value} {an od : Option Addr} {osl : Array (Option Value)} {f : Addr} {args : Args} {binds : List (Str × Value)}
  {p : Program} {loose : List Str} {mean : ExcName → Option Value} {mg mb : Str → Option Value} {d : Nat}
def LeaveT (fs : List Addr) (h₀ : Heap) (L : Addr) (m : Str → Option Value) (g : Heap) (rest : List (Addr × Obj)) (R : Result → Shared → Prop) (v : Value) (s' : Shared) : Prop :=
  ∃ g' L' m' news', KtsTurn fs g g' ∧ Fr g' L' s'.heap m' ∧ News g' L' s'.heap news' ∧ (Fr h₀ L s'.heap m → News h₀ L s'.heap news' → News h₀ L s'.heap rest → R (.ok (.ret v)) s')
theorem callTG (C : Cx K A₀ A base h₀ [] env L p loose mean mg mb (d + 1)) (F : Fr h₀ L s.heap m) (N : News h₀ L s.heap cells) (Nr : News h₀ L s.heap rest) (hdis : ∀ q ∈ rest, q.1 ∉ cells.map (·.1))
    (ho : K.lookup f = some ⟨oc, od, .func (fnOf name qual params body scope dV kV doc pm an cdv ct), osl⟩) (hcd : codeIn K cdv qual = true)
    (hbind : BindsTo s (fnOf name qual params body scope dV kV doc pm an cdv ct) args binds) (hloc : ∀ y ∈ binds, scope.names.lookup y.1 = some .local)
    (h : ∀ g L' h₁ dep gds uns, dep + (d + 1) < recursionLimit → uns + 8 * (d + 1) < cLine → K.In h₀ → Fr h₀ L g m → Fr g L' h₁ (fun y => binds.reverse.lookup y) → News g L' h₁ cells → News h₀ L g rest →
      Below ⟨none, dep, some [env], gds, uns⟩ base [env] g → K.In g → Top p loose mean mg mb g → KtsDicts ([env].filterMap (·.frame)) g →
      wpG (model prog w) (Around.deeper ⟨none, dep, some [env], gds, uns⟩ (envOf qual scope L' f cdv)) (execs body (envOf qual scope L' f cdv))
        (fun fl s' => LeaveT ([env].filterMap (·.frame)) h₀ L m g rest R (match fl with | .ret v => v | _ => .none) s')
        (fun e s' => wpAny (model prog w) (Around.deeper ⟨none, dep, some [env], gds, uns⟩ (envOf qual scope L' f cdv)) (leaving (envOf qual scope L' f cdv) e) (fun _ s'' => R (.error e) s'') (fun e' s'' => R (.error e') s'') s')
        { s with heap := h₁, toks := s.toks + binds.length })
    (hcell : ∀ x ∈ scope.names, x.2 ≠ .cell) (hco : scope.isCoroutine = false) (hgen : scope.isGenerator = false) (hk : scope.kind = .function) : codeG (model prog w) A (.call (.ref f) args) R s := by
  refine ?whole
  obtain ⟨a1, a2, a3, a4, a5⟩ := A
  obtain rfl : a3 = some [env] := C.hA
  obtain rfl : a1 = none := C.hh
  obtain ⟨FG, BG, st, lv⟩ := groundX (R := R) C.B F N C.hA C.hf C.hk
  have hfs : [env].filterMap (·.frame) = [L] := by simp [C.hf]
  have nL₀ : h₀.get? L = none := kts_self F
  obtain ⟨oL, es, ep, hLg, hLd, hLk, hLf⟩ := FG.ns
  have Ng : News h₀ L (hideAll s.heap (cells.map (·.1))) rest := fun q hq => ⟨hideAll_get _ (Nr q hq).1 (hdis q hq), (Nr q hq).2⟩
  refine codeG_call_def (fd := fnOf name qual params body scope dV kV doc pm an cdv ct) (body := body) (binds := binds) (by have : a2 + (d + 1) < recursionLimit := C.room; show a2 < recursionLimit; k_extra "o") ((C.X.keeps F.keep) _ _ ho) rfl (C.T.nolimit.keeps F.keep) (codeRec_of (C.X.keeps F.keep) hcd) rfl hbind hcell hloc (fun h₁ hns hk₁ => ?_) hco hgen hk
  refine wpG_mono (h _ s.heap.objs.size h₁ a2 a4 a5 C.room C.units C.X FG ⟨hns, fun b o e => hk₁ b o (of_hideAll _ e), Nat.le_of_eq (hideAll_size _ _)⟩
    (fun p hp => ⟨hk₁ _ _ (N p hp).1, Nat.ne_of_lt (Heap.lt_size (N p hp).1), hideAll_none _ (List.mem_map_of_mem hp)⟩) Ng BG (C.X.keeps st) (C.T.keeps st) (fun b hb => by rw [hfs] at hb; rw [List.mem_singleton.mp hb]; exact ⟨oL, es, ep, hLg, hLd⟩)) (fun fl s' hl => ?_) fun _ _ y => y
  obtain ⟨g', L', m', news', T', F', N', k⟩ := hl
  rw [hfs] at T'
  obtain ⟨sl, hs⟩ := T'.frame L oL hLg (List.mem_singleton.mpr rfl)
  refine k ⟨⟨_, es, ep, F'.keep _ _ hs, hLd, hLk, hLf⟩, fun b o e => F'.keep b o (T'.other b o (st b o e) (fun q => by rw [List.mem_singleton.mp q, nL₀] at e; cases e)), F.above⟩ (fun p hp => ⟨(N' p hp).1, fun q => ?_, ?_⟩) fun q hq => ⟨F'.keep _ _ (T'.other _ _ (Ng q hq).1 fun z => (Nr q hq).2.1 (List.mem_singleton.mp z)), (Nr q hq).2⟩
  · have := (N' p hp).2.2; rw [q, hs] at this; cases this
  · cases q : h₀.get? p.1 with
    | none => rfl
    | some o =>
      obtain ⟨sl', hs'⟩ := T'.up (st _ _ q)
      have := (N' p hp).2.2
      rw [hs'] at this; cases this
  run_tac Mine.Sh.shrink
end
end Mine
end
section
local macro_rules | `(tactic| walk_at $s:str) => `(tactic| k_extra $s)
local macro_rules | `(tactic| k_room) => `(tactic| k_extra "mine room")
example : True := by (k_with "mine room" => first | ((try simp only [depth_under_make, depth_under_kw, depth_in1, depth_deeper]); k_extra "o") | fail "no"); trivial
local macro_rules | `(tactic| k_units) => `(tactic| k_extra "mine units")
example : True := by (k_with "mine units" => first | ((try simp only [units_in1, units_deeper, Around.mark_units]); k_extra "o") | fail "no"); trivial
example : True := by (k_with "mine rem" => first | (first | exact Mine.Rem.head | (refine' Mine.Rem.tail ?hremₖ3; (case hremₖ3 => k_extra "mine rem"))) | fail "no"); trivial
example : True := by (k_with "mine takes" => first | (first | exact Mine.Takes.nil | (refine' Mine.Takes.cons ?htaₖ4 ?htbₖ4; (case htaₖ4 => k_extra "mine rem"); (case htbₖ4 => k_extra "mine takes"))) | fail "no"); trivial
example : True := by (k_with "mine enter" => first | ((
  (refine' Mine.callF ?Cₖ5 ?Fₖ5 ?Nₖ5 ?Nrₖ5 ?disₖ5 ?hoₖ5 ?hcdₖ5 ?hbₖ5 ?hlₖ5 ?_ ?hcₖ5 ?hcoₖ5 ?hgₖ5 ?hkₖ5);
  (case Cₖ5 => assumption); (case Fₖ5 => assumption); (case hoₖ5 => k_is); (case hcdₖ5 => k_is);
  (case Nₖ5 => exact Mine.Takes.left (by assumption) (by assumption)); (case Nrₖ5 => exact Mine.Takes.right (by assumption) (by assumption)); (case disₖ5 => first | exact Mine.Takes.apart (by assumption) (by assumption) | exact fun _ _ h => nomatch h);
  (case hbₖ5 => first | exact BindsTo.of_eq rfl | exact binds_K (by k_in) rfl (by k_is) rfl rfl rfl);
  (case hlₖ5 => exact locs rfl); (case hcₖ5 => decide); (case hcoₖ5 => exact rfl); (case hgₖ5 => exact rfl); (case hkₖ5 => exact rfl);
  intro g'ₖ L'ₖ h'ₖ dep'ₖ gds'ₖ uns'ₖ hroom'ₖ hunits'ₖ X0'ₖ FG'ₖ F'ₖ N'ₖ Nr'ₖ B'ₖ X'ₖ T'ₖ; (have FR'ₖ := Mine.freshR Nr'ₖ); (try dsimp only); (try k_lift B'ₖ); (try k_fold))) | fail "no"); trivial
example : True := by (k_with "mine cx" => first | (exact ⟨by k_asm, by k_asm, by k_asm, rfl, rfl, rfl, rfl, by k_room, by k_units⟩) | fail "no"); trivial
example : True := by (k_with "mine enterG" => first | ((
  (refine' Mine.callFG ?Cₖ7 ?Fₖ7 ?Nₖ7 ?Nrₖ7 ?disₖ7 ?hoₖ7 ?hcdₖ7 ?hbₖ7 ?hlₖ7 ?_ ?hcₖ7 ?hcoₖ7 ?hgₖ7 ?hkₖ7);
  (case Cₖ7 => assumption); (case Fₖ7 => assumption); (case hoₖ7 => k_is); (case hcdₖ7 => k_is);
  (case Nₖ7 => exact Mine.Takes.left (by assumption) (by assumption)); (case Nrₖ7 => exact Mine.Takes.right (by assumption) (by assumption)); (case disₖ7 => first | exact Mine.Takes.apart (by assumption) (by assumption) | exact fun _ _ h => nomatch h);
  (case hbₖ7 => first | exact BindsTo.of_eq rfl | exact binds_K (by k_in) rfl (by k_is) rfl rfl rfl);
  (case hlₖ7 => exact locs rfl); (case hcₖ7 => decide); (case hcoₖ7 => exact rfl); (case hgₖ7 => exact rfl); (case hkₖ7 => exact rfl);
  intro g'ₖ L'ₖ h'ₖ dep'ₖ gds'ₖ uns'ₖ hroom'ₖ hunits'ₖ X0'ₖ FG'ₖ F'ₖ N'ₖ Nr'ₖ B'ₖ X'ₖ T'ₖ; (have FR'ₖ := Mine.freshR Nr'ₖ); (try dsimp only); (try k_lift B'ₖ))) | fail "no"); trivial
example : True := by (k_with "mine leave" => first | (((try dsimp only); (k_dflt (refine' leaveK_ ?k1ₖ8 ?k2ₖ8 ?_; (case k1ₖ8 => k_asm); (case k2ₖ8 => k_asm))); intro _ _ _)) | fail "no"); trivial
example : True := by (k_with "mine D1" => first | (first | with_reducible assumption | exact List.nodup_nil | (refine' Mine.nodup_push2 ?h2ₖ9 ?h1ₖ9 ?hDₖ9; (case h2ₖ9 => with_reducible assumption); (case h1ₖ9 => ((dsimp only [Mine.LtC]); with_reducible assumption)); (case hDₖ9 => k_extra "mine D1")) | (refine' Mine.nodup_push ?hDₖ9 ?hltₖ9; (case hltₖ9 => first | (refine' Mine.neAll_of ?hqₖ9; (case hqₖ9 => ((dsimp only [Mine.LtC]); with_reducible assumption))) | ((dsimp only [Mine.NeAll]); (repeat' (refine' And.intro ?_ ?_)); all_goals first | trivial | k_extra "o")); (case hDₖ9 => k_extra "mine D1"))) | fail "no"); trivial
example : True := by (k_with "mine addrs" => first | (first | exact Mine.Addrs.nil | exact Mine.Addrs.cons (by k_extra "mine addrs")) | fail "no"); trivial
example : True := by (k_with "mine D" => first | (first | with_reducible assumption | (refine' Mine.nodup_addrs ?hAₖ11 ?hDₖ11; (case hAₖ11 => k_extra "mine addrs"); (case hDₖ11 => ((try dsimp only [List.cons_append, List.nil_append]); k_extra "mine D1"))) | k_extra "mine D1") | fail "no"); trivial
example : True := by (k_with "mine put" => first | (first | exact Mine.Put.head | (refine' Mine.Put.tail ?hputₖ12; (case hputₖ12 => k_extra "mine put"))) | fail "no"); trivial
example : True := by (k_with "mine puts" => first | (first | exact Mine.Puts.nil | (refine' Mine.Puts.cons ?hpaₖ13 ?hpbₖ13; (case hpaₖ13 => k_extra "mine put"); (case hpbₖ13 => k_extra "mine puts"))) | fail "no"); trivial
local macro_rules | `(tactic| k_upd) => `(tactic| k_extra "mine upd")
example : True := by (k_with "mine upd" => first | (refine' Mine.updOf ?hDₖ14 ?hPₖ14; (case hPₖ14 => k_extra "mine put"); (case hDₖ14 => k_extra "mine D")) | fail "no"); trivial
example : True := by (k_with "mine same" => first | (exact Mine.map_eq (by k_extra "mine addrs") (by k_extra "mine addrs")) | fail "no"); trivial
example : True := by (k_with "mine done" => first | (first | assumption | exact Mine.back (by assumption) (by assumption) (by assumption) (by assumption) (by k_extra "mine same") | ((rename News _ _ _ (_ :: _) => n9); (try dsimp only [Mine.diskO, Mine.nodeO, Mine.fileO, Mine.wrO, Mine.stepO]); first | exact Mine.back (by assumption) (by assumption) (Mine.newsSub n9 (by k_extra "mine takes")) (by assumption) (by k_extra "mine same") | exact Mine.backF2 (by assumption) (by assumption) (by assumption) (Mine.newsSub n9 (by k_extra "mine takes")) (Mine.newsSub n9 (by k_extra "mine takes")) (by k_extra "mine same"))) | fail "no"); trivial
example : True := by (k_with "mine fresh" => first | (exact Mine.freshFull (by assumption) (by assumption) (by assumption) (by assumption) (by k_extra "mine rem") (by (refine' Mine.nodup_addrs1 ?hAₖ17 ?hDₖ17; (case hAₖ17 => k_extra "mine addrs"); (case hDₖ17 => k_extra "mine D1")))) | fail "no"); trivial
example : True := by (k_with "mine Dc" => first | (((have Dcₖ := Mine.Takes.nodupL (by assumption) (by assumption)); (simp only [List.map_cons, List.map_nil] at Dcₖ))) | fail "no"); trivial
example : True := by (k_with "mine ext" => first | (first | exact Mine.Ext.nil | exact Mine.Ext.cons (by k_extra "mine rem") (by k_extra "mine ext")) | fail "no"); trivial
example : True := by (k_with "mine freshL" => first | (exact Mine.freshExt (by assumption) (by assumption) (by assumption) (by assumption) (by k_extra "mine ext") (by k_extra "mine addrs") (by ((try dsimp only [List.cons_append, List.nil_append]); k_extra "mine D1"))) | fail "no"); trivial
example : True := by (k_with "mine putF" => first | (first | exact Mine.PutF.head | (refine' Mine.PutF.tail ?hputₖ21; (case hputₖ21 => k_extra "mine putF"))) | fail "no"); trivial
local macro_rules | `(tactic| k_updF) => `(tactic| k_extra "mine updF")
example : True := by (k_with "mine updF" => first | (refine' Mine.updFOf ?hDₖ22 ?hPₖ22; (case hPₖ22 => k_extra "mine putF"); (case hDₖ22 => k_extra "mine D")) | fail "no"); trivial
example : True := by (k_with "mine steps" => first | (repeat' (first | (k_unfold; (try dsimp only)) | walk1 | (dsimp only; walk1) | fail "no step")) | fail "no"); trivial
example : True := by (k_with "mine iter" => first | (repeat' ((fail_if_success (with_reducible show wpAny _ _ (pyIter _) _ _ _)); (first | (k_unfold; (try dsimp only)) | walk1 | (dsimp only; walk1) | fail "no step"))) | fail "no"); trivial
example : True := by (k_with "mine for" => first | ((k_here; (rename Fr _ _ _ _ => lF'ₖ); (with_unfolding_all refine' For_invVF lF'ₖ ?k1ₖ25 ?k2ₖ25 ?_; (case k1ₖ25 => exact rfl); (case k2ₖ25 => exact rfl); k_whole))) | fail "no"); trivial
example : True := by (k_with "mine until if" => first | (repeat' ((fail_if_success (with_reducible show wpAny _ _ (exec (Stmt.If _ _ _ _) _) _ _ _)); (first | (k_unfold; (try dsimp only)) | walk1 | (dsimp only; walk1) | fail "no step"))) | fail "no"); trivial
example : True := by (k_with "mine until while" => first | (repeat' ((fail_if_success (with_reducible show wpAny _ _ (exec (Stmt.While _ _ _ _) _) _ _ _)); (first | (k_unfold; (try dsimp only)) | walk1 | (dsimp only; walk1) | fail "no step"))) | fail "no"); trivial
example : True := by (k_with "mine tails" => first | (first | assumption | exact Mine.newsTail (by assumption) | exact Mine.newsTail (Mine.newsTail (by assumption)) | exact Mine.newsTail (Mine.newsTail (Mine.newsTail (by assumption))) | exact Mine.newsTail (Mine.newsTail (Mine.newsTail (Mine.newsTail (by assumption))))) | fail "no"); trivial
example : True := by (k_with "mine until leaving" => first | (repeat' ((fail_if_success (with_reducible show wpAny _ _ (leaving _ _) _ _ _)); (first | (k_unfold; (try dsimp only)) | walk1 | (dsimp only; walk1) | fail "no step"))) | fail "no"); trivial
example : True := by (k_with "mine DL" => first | ((refine' Mine.nodup_addrs1 ?hAₖ30 ?hDₖ30; (case hAₖ30 => k_extra "mine addrs"); (case hDₖ30 => ((try dsimp only [List.cons_append, List.nil_append]); k_extra "mine D1")))) | fail "no"); trivial
example : True := by (k_with "mine enterC" => first | ((
  (refine' Mine.callC ?Cₖ31 ?Fₖ31 ?Nₖ31 ?hoₖ31 ?hcdₖ31 ?hbₖ31 ?hkdₖ31 ?hndₖ31 ?_ ?hcoₖ31 ?hgₖ31 ?hkₖ31);
  (case Cₖ31 => assumption); (case Fₖ31 => assumption); (case Nₖ31 => assumption); (case hoₖ31 => k_is); (case hcdₖ31 => k_is);
  (case hbₖ31 => exact BindsTo.of_eq rfl); (case hkdₖ31 => exact rfl); (case hndₖ31 => decide); (case hcoₖ31 => exact rfl); (case hgₖ31 => exact rfl); (case hkₖ31 => exact rfl);
  intro g'ₖ L'ₖ h'ₖ tk'ₖ cells'ₖ dep'ₖ gds'ₖ uns'ₖ hroom'ₖ hunits'ₖ X0'ₖ FG'ₖ F'ₖ N'ₖ Y'ₖ B'ₖ X'ₖ T'ₖ; (have hYₖ := CellsAre.one Y'ₖ; obtain ⟨o'ₖ, hE'ₖ, d1'ₖ⟩ := hYₖ; subst hE'ₖ; clear Y'ₖ); (try dsimp only); (try k_lift B'ₖ); (try k_fold))) | fail "no"); trivial
example : True := by (k_with "mine enterT" => first | ((
  (refine' Mine.callTG ?Cₖ32 ?Fₖ32 ?Nₖ32 ?Nrₖ32 ?disₖ32 ?hoₖ32 ?hcdₖ32 ?hbₖ32 ?hlₖ32 ?_ ?hcₖ32 ?hcoₖ32 ?hgₖ32 ?hkₖ32);
  (case Cₖ32 => assumption); (case Fₖ32 => assumption); (case hoₖ32 => k_is); (case hcdₖ32 => k_is);
  (case Nₖ32 => exact Mine.Takes.left (by assumption) (by assumption)); (case Nrₖ32 => exact Mine.Takes.right (by assumption) (by assumption)); (case disₖ32 => exact Mine.Takes.apart (by assumption) (by assumption));
  (case hbₖ32 => exact BindsTo.of_eq rfl);
  (case hlₖ32 => exact locs rfl); (case hcₖ32 => decide); (case hcoₖ32 => exact rfl); (case hgₖ32 => exact rfl); (case hkₖ32 => exact rfl);
  intro g'ₖ L'ₖ h'ₖ dep'ₖ gds'ₖ uns'ₖ hroom'ₖ hunits'ₖ X0'ₖ FG'ₖ F'ₖ N'ₖ Nr'ₖ B'ₖ X'ₖ T'ₖ KD'ₖ; (have FR'ₖ := Mine.freshR Nr'ₖ); (try dsimp only); (try k_lift B'ₖ))) | fail "no"); trivial
example : True := by (k_with "call ref" => first | (k_here; (try dsimp only); k_extra "cr") | fail "no"); trivial
section
namespace Mine

theorem fillit {w : World} : (hd.heap_39 w.params) = (hd.heap_39 w.params) ∧ Challenge.rw_xm0852_01 = Challenge.rw_xm0852_01 := by k_fill; exact ⟨rfl, rfl⟩

section
variable {w : World} {A₀ A : Around} {s : Shared} {base h₀ : Heap} {outer : List Env} {L : Addr} {m : Str → Option Value} {env : Env} {full rest : List (Addr × Obj)} {R : Result → Shared → Prop}
  {p : Program} {loose : List Str} {mean : ExcName → Option Value} {mg mb : Str → Option Value} {d dx : Addr} {σ : DiskS} {k : Nat}
set_option maxRecDepth 100000
set_option maxHeartbeats 4000000

theorem check_alive_C (C : Cx (hd.heap_39 w.params) A₀ A base h₀ outer env L p loose mean mg mb 1) (F : Fr h₀ L s.heap m) (N : News h₀ L s.heap full)
    (Tk : Takes [(d, instObj 587 dx), (dx, diskO w σ)] full rest) (D : (full.map (·.1)).Nodup) (ha : σ.alive = true)
    (hk : ∀ h' tk, Fr h₀ L h' m → Back h₀ L h' full [(d, instObj 587 dx), (dx, diskO w σ)]
        [(d, instObj 587 dx), (dx, diskO w σ)] → R (.ok (.ret .none)) { s with heap := h', toks := tk }) :
    codeAny (model Challenge.rw_xm0852_01.row.prog w) A (.call (.ref 458) ⟨[.ref d], []⟩) R s := by
  refine ?whole
  k_extra "mine enter"
  k_extra "mine steps"
  exact hk _ _ (by assumption) (by k_extra "mine done")
  run_tac Mine.Sh.shrink
theorem take_steps_C {wanted : Int} {tw : Tok} (C : Cx (hd.heap_39 w.params) A₀ A base h₀ outer env L p loose mean mg mb 2) (F : Fr h₀ L s.heap m) (N : News h₀ L s.heap full)
    (Tk : Takes [(d, instObj 587 dx), (dx, diskO w σ)] full rest) (D : (full.map (·.1)).Nodup) (ha : σ.alive = true) (hw : 0 ≤ wanted) (hl : σ.left < 0 ∨ wanted ≤ σ.left)
    (hk : ∀ h' tk tw' left' u0' u1', (σ.left < 0 → left' = σ.left) → (0 ≤ σ.left → left' = σ.left - wanted) → Fr h₀ L h' m → Back h₀ L h' full [(d, instObj 587 dx), (dx, diskO w σ)]
        [(d, instObj 587 dx), (dx, diskO w { σ with left := left', spent := σ.spent + wanted, u0 := u0', u1 := u1' })] →
      R (.ok (.ret (.int wanted tw'))) { s with heap := h', toks := tk }) :
    codeAny (model Challenge.rw_xm0852_01.row.prog w) A (.call (.ref 465) ⟨[.ref d, .int wanted tw], []⟩) R s := by
  refine ?whole
  k_extra "mine Dc"
  k_extra "mine enter"
  k_extra "mine steps"
  · exact hk _ _ _ (σ.left - wanted) _ _ (by k_extra "o") (by k_extra "o") (by assumption) (by k_extra "mine done")
  · exact hk _ _ _ σ.left σ.u0 _ (by k_extra "o") (by k_extra "o") (by assumption) (by k_extra "mine done")
  run_tac Mine.Sh.shrink
end
end Mine
example : True := by (k_with "cr" => first | (((show wpAny _ _ (call (Value.ref 458) _ _) _ _ _); (refine wpAny_call ?_); (k_dflt refine' Mine.check_alive_C ?Cₖ48 ?Fₖ48 ?Nₖ48 ?Tkₖ48 ?Dₖ48 ?haₖ48 ?_; (case Fₖ48 => k_asm); (case Nₖ48 => k_asm); (case Cₖ48 => k_extra "mine cx"); (case Tkₖ48 => k_extra "mine takes"); (case Dₖ48 => k_extra "mine D"); (case haₖ48 => (first | assumption | rfl)); skip); intro h'ₖ tk'ₖ F'ₖ N'ₖ ; (replace N'ₖ := N'ₖ.get (by k_extra "mine puts")); (try dsimp only [List.cons_append, List.nil_append] at N'ₖ); (try dsimp only); (try k_sweep))) | fail "no"); trivial
example : True := by (k_with "cr" => first | (((show wpAny _ _ (call (Value.ref 465) _ _) _ _ _); (refine wpAny_call ?_); (k_dflt refine' Mine.take_steps_C ?Cₖ92 ?Fₖ92 ?Nₖ92 ?Tkₖ92 ?Dₖ92 ?haₖ92 ?hwₖ92 ?hlₖ92 ?_; (case Fₖ92 => k_asm); (case Nₖ92 => k_asm); (case Cₖ92 => k_extra "mine cx"); (case Tkₖ92 => k_extra "mine takes"); (case Dₖ92 => k_extra "mine D"); (case haₖ92 => (first | assumption | rfl)); (case hwₖ92 => k_extra "o"); (case hlₖ92 => k_extra "o"); skip); intro h'ₖ tk'ₖ tw'ₖ left'ₖ u0'ₖ u1'ₖ hl1ₖ hl2ₖ F'ₖ N'ₖ ; (replace N'ₖ := N'ₖ.get (by k_extra "mine puts")); (try dsimp only [List.cons_append, List.nil_append] at N'ₖ); (try dsimp only); (try k_sweep))) | fail "no"); trivial
namespace Mine
section
variable {w : World} {A₀ A : Around} {s : Shared} {base h₀ : Heap} {outer : List Env} {L : Addr} {m : Str → Option Value} {env : Env} {full rest : List (Addr × Obj)} {R : Result → Shared → Prop}
  {p : Program} {loose : List Str} {mean : ExcName → Option Value} {mg mb : Str → Option Value} {d dx : Addr} {σ : DiskS} {k : Nat}
set_option maxRecDepth 100000
set_option maxHeartbeats 4000000
theorem one_step_C {what : Value} (C : Cx (hd.heap_39 w.params) A₀ A base h₀ outer env L p loose mean mg mb 3) (F : Fr h₀ L s.heap m) (N : News h₀ L s.heap full)
    (Tk : Takes [(d, instObj 587 dx), (dx, diskO w σ)] full rest) (D : (full.map (·.1)).Nodup) (ha : σ.alive = true) (hl : σ.left < 0 ∨ 1 ≤ σ.left)
    (hk : ∀ h' tk left' u0' u1', (σ.left < 0 → left' = σ.left) → (0 ≤ σ.left → left' = σ.left - 1) → Fr h₀ L h' m → Back h₀ L h' full [(d, instObj 587 dx), (dx, diskO w σ)]
        [(d, instObj 587 dx), (dx, diskO w { σ with left := left', spent := σ.spent + 1, u0 := u0', u1 := u1' })] →
      R (.ok (.ret .none)) { s with heap := h', toks := tk }) :
    codeAny (model Challenge.rw_xm0852_01.row.prog w) A (.call (.ref 472) ⟨[.ref d, what], []⟩) R s := by
  refine ?whole
  k_extra "mine Dc"
  k_extra "mine enter"
  k_extra "mine steps"
  exact hk _ _ _ _ _ (by assumption) (by assumption) (by assumption) (by k_extra "mine done")
  run_tac Mine.Sh.shrink
end
end Mine
end
section
example : True := by (k_with "cr" => first | (((show wpAny _ _ (call (Value.ref 472) _ _) _ _ _); (refine wpAny_call ?_); (k_dflt refine' Mine.one_step_C ?Cₖ73 ?Fₖ73 ?Nₖ73 ?Tkₖ73 ?Dₖ73 ?haₖ73 ?hlₖ73 ?_; (case Fₖ73 => k_asm); (case Nₖ73 => k_asm); (case Cₖ73 => k_extra "mine cx"); (case Tkₖ73 => k_extra "mine takes"); (case Dₖ73 => k_extra "mine D"); (case haₖ73 => (first | assumption | rfl)); (case hlₖ73 => k_extra "o"); skip); intro h'ₖ tk'ₖ left'ₖ u0'ₖ u1'ₖ hl1ₖ hl2ₖ F'ₖ N'ₖ ; (replace N'ₖ := N'ₖ.get (by k_extra "mine puts")); (try dsimp only [List.cons_append, List.nil_append] at N'ₖ); (try dsimp only); (try k_sweep))) | fail "no"); trivial
example : True := by (k_with "getMethod ref" => first | ((k_here; (with_reducible show wpAny _ _ (getMethod (Value.ref _) (PySem.Str.ofString "extend") _) _ _ _); (with_unfolding_all refine' Mine.method_extend ?haₖ34 ?_); (case haₖ34 => (with_unfolding_all exact News.get (by k_asm) (by k_mem))))) | fail "no"); trivial
example : True := by (k_with "call builtin:len" => first | ((k_here; (try dsimp only); (with_reducible show wpAny _ _ (call (Value.builtin "len") [Value.ref _]) _ _ _); (with_unfolding_all refine' Mine.call_len_ba (b := ?bₖ35) ?haₖ35 ?hzₖ35 ?_); (case haₖ35 => (with_unfolding_all exact News.get (by k_asm) (by k_mem))); (case hzₖ35 => k_extra "o"); intro _ _)) | fail "no"); trivial
namespace Mine
section
variable {w : World} {A₀ A : Around} {s : Shared} {base h₀ : Heap} {outer : List Env} {L : Addr} {m : Str → Option Value} {env : Env} {full rest : List (Addr × Obj)} {R : Result → Shared → Prop}
  {p : Program} {loose : List Str} {mean : ExcName → Option Value} {mg mb : Str → Option Value} {d dx f fx n nx ba : Addr} {σ : DiskS} {φ : FileS} {ν : NodeS} {b c : Array UInt8}
theorem fillit7 {w : World} : (hd.heap_39 w.params) = (hd.heap_39 w.params) ∧ Challenge.rw_xm0852_01 = Challenge.rw_xm0852_01 := by k_fill; exact ⟨rfl, rfl⟩
set_option maxRecDepth 100000
set_option maxHeartbeats 4000000
theorem append_C {t : Tok} (C : Cx (hd.heap_39 w.params) A₀ A base h₀ outer env L p loose mean mg mb 4) (F : Fr h₀ L s.heap m) (N : News h₀ L s.heap full)
    (Tk : Takes [(f, instObj 426 fx), (fx, fileO w φ), (φ.disk, instObj 587 dx), (dx, diskO w σ), (φ.node, instObj 342 nx), (nx, nodeO w ν), (ν.ba, baO b)] full rest) (D : (full.map (·.1)).Nodup)
    (ha : σ.alive = true) (hc : φ.closed = false) (hl : σ.left < 0 ∨ (c.size : Int) ≤ σ.left) (hz : b.size + c.size ≤ 16777216)
    (hk : ∀ h' tk left' u0' u1', (σ.left < 0 → left' = σ.left) → (0 ≤ σ.left → left' = σ.left - c.size) → Fr h₀ L h' m →
      Back h₀ L h' full [(f, instObj 426 fx), (fx, fileO w φ), (φ.disk, instObj 587 dx), (dx, diskO w σ), (φ.node, instObj 342 nx), (nx, nodeO w ν), (ν.ba, baO b)]
        [(f, instObj 426 fx), (fx, fileO w φ), (φ.disk, instObj 587 dx), (dx, diskO w { σ with left := left', spent := σ.spent + c.size, u0 := u0', u1 := u1' }), (φ.node, instObj 342 nx), (nx, nodeO w ν), (ν.ba, baO (b ++ c))] →
      R (.ok (.ret .none)) { s with heap := h', toks := tk }) :
    codeG (model Challenge.rw_xm0852_01.row.prog w) A (.call (.ref 402) ⟨[.ref f, .bytes c t], []⟩) R s := by
  refine ?whole
  k_extra "mine Dc"
  k_extra "mine enterG"
  refine g_cons_any ?_
  k_extra "mine steps"
  refine g_cons_any ?_
  k_extra "mine steps"
  refine g_cons_any ?_
  k_extra "mine steps"
  refine g_cons_any ?_
  k_extra "mine steps"
  refine g_cons (g_expr (g_call_attr ?_))
  k_extra "mine steps"
  refine g_callWith_B (by intro a; exact Value.noConfusion) rfl (wpG_of_any ?_)
  k_extra "mine steps"
  refine' call_extend ?F ?N ?U hz ?_
  case F => k_asm
  case N => k_asm
  case U =>
    k_upd
  intro h' F' N'
  refine g_nil ?_
  k_extra "mine leave"
  exact hk _ _ _ _ _ (by assumption) (by assumption) (by assumption) (by k_extra "mine done")
  run_tac Mine.Sh.shrink
end
end Mine
end
section
example : True := by (k_with "exec For Name Subscript cons nil" => first | ((k_here; (rename Fr _ _ _ _ => lF'ₖ); (with_unfolding_all refine' For_turns lF'ₖ ?_; k_whole))) | fail "no"); trivial
namespace Mine
section
variable {w : World} {A₀ A : Around} {s : Shared} {base h₀ : Heap} {outer : List Env} {L : Addr} {m : Str → Option Value} {env : Env} {full rest : List (Addr × Obj)} {R : Result → Shared → Prop}
  {p : Program} {loose : List Str} {mean : ExcName → Option Value} {mg mb : Str → Option Value} {d dx f fx n nx ba : Addr} {σ : DiskS} {φ : FileS} {ν : NodeS} {b c : Array UInt8} {kno : Obj} {kkv : List (Str × Value)}
set_option maxRecDepth 100000
set_option maxHeartbeats 4000000
theorem keep0_C {nm : Int} {t : Tok} {q : Nat} (C : Cx (hd.heap_39 w.params) A₀ A base h₀ outer env L p loose mean mg mb 2) (F : Fr h₀ L s.heap m) (N : News h₀ L s.heap full)
    (Tk : Takes [(d, instObj 587 dx), (dx, diskO w σ), (σ.jn, listOf #[] q), (σ.kn, kno)] full rest) (D : (full.map (·.1)).Nodup) (hkn : kno.IsDictOf (strKind Challenge.rw_xm0852_01.row.prog w) kkv)
    (hk : ∀ h' tk jn' q', Fr h₀ L h' m → BackF h₀ L h' full [(d, instObj 587 dx), (dx, diskO w σ), (σ.jn, listOf #[] q), (σ.kn, kno)]
        [(d, instObj 587 dx), (dx, diskO w { σ with jn := jn' }), (σ.jn, listOf #[] q), (σ.kn, kno)] [(jn', listOf #[] q')] → (jn' :: full.map (·.1)).Nodup →
      R (.ok (.ret .none)) { s with heap := h', toks := tk }) :
    codeAny (model Challenge.rw_xm0852_01.row.prog w) A (.call (.ref 493) ⟨[.ref d, .int nm t], []⟩) R s := by
  refine ?whole
  k_extra "mine Dc"
  k_extra "mine enter"
  k_extra "mine steps"
  exact hk _ _ _ _ (by assumption) (by k_extra "mine done") (by k_extra "mine fresh")
  run_tac Mine.Sh.shrink
end
end Mine
end
section
example : True := by (k_with "cr" => first | (((show wpAny _ _ (call (Value.ref 493) _ _) _ _ _); (refine wpAny_call ?_); (k_dflt refine' Mine.keep0_C ?Cₖ61 ?Fₖ61 ?Nₖ61 ?Tkₖ61 ?Dₖ61 ?hknₖ61 ?_; (case Fₖ61 => k_asm); (case Nₖ61 => k_asm); (case Cₖ61 => k_extra "mine cx"); (case Tkₖ61 => k_extra "mine takes"); (case Dₖ61 => k_extra "mine D"); (case hknₖ61 => assumption); skip); intro h'ₖ tk'ₖ jn'ₖ q'ₖ F'ₖ N'ₖ Df0ₖ ; (replace N'ₖ := N'ₖ.get (by k_extra "mine puts")); (try dsimp only [List.cons_append, List.nil_append] at N'ₖ); (try simp only [List.map_cons, List.map_nil] at Df0ₖ); (try dsimp only); (try k_sweep))) | fail "no"); trivial
namespace Mine
section
variable {w : World} {A₀ A : Around} {s : Shared} {base h₀ : Heap} {outer : List Env} {L : Addr} {m : Str → Option Value} {env : Env} {full rest : List (Addr × Obj)} {R : Result → Shared → Prop}
  {p : Program} {loose : List Str} {mean : ExcName → Option Value} {mg mb : Str → Option Value} {d dx f fx n nx ba : Addr} {σ : DiskS} {φ : FileS} {ν : NodeS} {b c : Array UInt8} {kno : Obj} {kkv : List (Str × Value)}
set_option maxRecDepth 100000
set_option maxHeartbeats 4000000
theorem sync_C {q : Nat} (C : Cx (hd.heap_39 w.params) A₀ A base h₀ outer env L p loose mean mg mb 4) (F : Fr h₀ L s.heap m) (N : News h₀ L s.heap full)
    (Tk : Takes [(f, instObj 426 fx), (fx, fileO w φ), (φ.disk, instObj 587 dx), (dx, diskO w σ), (φ.node, instObj 342 nx), (nx, nodeO w ν), (ν.ba, baO b), (σ.jn, listOf #[] q), (σ.kn, kno)] full rest) (D : (full.map (·.1)).Nodup)
    (hkn : kno.IsDictOf (strKind Challenge.rw_xm0852_01.row.prog w) kkv) (ha : σ.alive = true) (hc : φ.closed = false) (hl : σ.left < 0 ∨ 1 ≤ σ.left) (hz : b.size ≤ 16777216)
    (hk : ∀ h' tk jn' q' left' u0' u1' u2', (σ.left < 0 → left' = σ.left) → (0 ≤ σ.left → left' = σ.left - 1) → Fr h₀ L h' m →
      BackF h₀ L h' full [(f, instObj 426 fx), (fx, fileO w φ), (φ.disk, instObj 587 dx), (dx, diskO w σ), (φ.node, instObj 342 nx), (nx, nodeO w ν), (ν.ba, baO b), (σ.jn, listOf #[] q), (σ.kn, kno)]
        [(f, instObj 426 fx), (fx, fileO w φ), (φ.disk, instObj 587 dx), (dx, diskO w { σ with left := left', spent := σ.spent + 1, u0 := u0', u1 := u1', jn := jn' }), (φ.node, instObj 342 nx), (nx, nodeO w { ν with kept := b.size, u2 := u2' }), (ν.ba, baO b), (σ.jn, listOf #[] q), (σ.kn, kno)]
        [(jn', listOf #[] q')] → (jn' :: full.map (·.1)).Nodup →
      R (.ok (.ret .none)) { s with heap := h', toks := tk }) :
    codeAny (model Challenge.rw_xm0852_01.row.prog w) A (.call (.ref 409) ⟨[.ref f], []⟩) R s := by
  refine ?whole
  k_extra "mine Dc"
  k_extra "mine enter"
  k_extra "mine steps"
  exact hk _ _ _ _ _ _ _ _ (by assumption) (by assumption) (by assumption) (by k_extra "mine done") (by k_extra "mine fresh")
  run_tac Mine.Sh.shrink
theorem close_C (C : Cx (hd.heap_39 w.params) A₀ A base h₀ outer env L p loose mean mg mb 3) (F : Fr h₀ L s.heap m) (N : News h₀ L s.heap full)
    (Tk : Takes [(f, instObj 426 fx), (fx, fileO w φ), (φ.disk, instObj 587 dx), (dx, diskO w σ)] full rest) (D : (full.map (·.1)).Nodup)
    (ha : σ.alive = true) (hc : φ.closed = false)
    (hk : ∀ h' tk, Fr h₀ L h' m →
      Back h₀ L h' full [(f, instObj 426 fx), (fx, fileO w φ), (φ.disk, instObj 587 dx), (dx, diskO w σ)]
        [(f, instObj 426 fx), (fx, fileO w { φ with closed := true }), (φ.disk, instObj 587 dx), (dx, diskO w σ)] →
      R (.ok (.ret .none)) { s with heap := h', toks := tk }) :
    codeAny (model Challenge.rw_xm0852_01.row.prog w) A (.call (.ref 416) ⟨[.ref f], []⟩) R s := by
  refine ?whole
  k_extra "mine Dc"
  k_extra "mine enter"
  k_extra "mine steps"
  exact hk _ _ (by assumption) (by k_extra "mine done")
  run_tac Mine.Sh.shrink
theorem length_C (C : Cx (hd.heap_39 w.params) A₀ A base h₀ outer env L p loose mean mg mb 3) (F : Fr h₀ L s.heap m) (N : News h₀ L s.heap full)
    (Tk : Takes [(f, instObj 426 fx), (fx, fileO w φ), (φ.disk, instObj 587 dx), (dx, diskO w σ), (φ.node, instObj 342 nx), (nx, nodeO w ν), (ν.ba, baO b)] full rest) (D : (full.map (·.1)).Nodup)
    (ha : σ.alive = true) (hc : φ.closed = false) (hz : b.size ≤ 16777216)
    (hk : ∀ h' tk t, Fr h₀ L h' m →
      Back h₀ L h' full [(f, instObj 426 fx), (fx, fileO w φ), (φ.disk, instObj 587 dx), (dx, diskO w σ), (φ.node, instObj 342 nx), (nx, nodeO w ν), (ν.ba, baO b)]
        [(f, instObj 426 fx), (fx, fileO w φ), (φ.disk, instObj 587 dx), (dx, diskO w σ), (φ.node, instObj 342 nx), (nx, nodeO w ν), (ν.ba, baO b)] →
      R (.ok (.ret (.int b.size t))) { s with heap := h', toks := tk }) :
    codeAny (model Challenge.rw_xm0852_01.row.prog w) A (.call (.ref 423) ⟨[.ref f], []⟩) R s := by
  refine ?whole
  k_extra "mine Dc"
  k_extra "mine enter"
  k_extra "mine steps"
  exact hk _ _ _ (by assumption) (by k_extra "mine done")
  run_tac Mine.Sh.shrink
end
end Mine
end
section
example : True := by (k_with "setItem ref str" => first | ((k_here; kda_here; k_dflt (refine' kda_set (knd := PySem.strKind _ _) ?Fₖ104 ?Nₖ104 ?Uₖ104 ?dₖ104 (strKind_is _ _ _ _) ?zₖ104 ?_; (case Fₖ104 => k_asm); (case Nₖ104 => k_asm); (case Uₖ104 => k_updF); (case dₖ104 => k_asm); (case zₖ104 => (rw [sizeLine_eq]; assumption))); intro h'ₖ o'ₖ F'ₖ N'ₖ hd'ₖ; (try dsimp only at N'ₖ))) | fail "no"); trivial
example : True := by (k_with "setItem ref int" => first | ((k_here; kda_here; k_dflt (refine' kda_set (knd := PySem.intKind _ _) ?Fₖ105 ?Nₖ105 ?Uₖ105 ?dₖ105 (intKind_is _ _ _ _) ?zₖ105 ?_; (case Fₖ105 => k_asm); (case Nₖ105 => k_asm); (case Uₖ105 => k_updF); (case dₖ105 => k_asm); (case zₖ105 => (rw [sizeLine_eq]; assumption))); intro h'ₖ o'ₖ F'ₖ N'ₖ hd'ₖ; (try dsimp only at N'ₖ))) | fail "no"); trivial
namespace Mine
section
variable {w : World} {A₀ A : Around} {s : Shared} {base h₀ : Heap} {outer : List Env} {L : Addr} {m : Str → Option Value} {env : Env} {full rest : List (Addr × Obj)} {R : Result → Shared → Prop}
  {p : Program} {loose : List Str} {mean : ExcName → Option Value} {mg mb : Str → Option Value} {d dx f fx n nx ba st sx : Addr} {σ : DiskS} {φ : FileS} {ν : NodeS} {τ : StepS} {b c : Array UInt8} {kno pro ndo : Obj} {kkv pkv : List (Str × Value)} {nkv : List (Int × Value)}
set_option maxRecDepth 100000
set_option maxHeartbeats 4000000
theorem keep1_C {q : Nat} {t : Tok} (C : Cx (hd.heap_39 w.params) A₀ A base h₀ outer env L p loose mean mg mb 2) (F : Fr h₀ L s.heap m) (N : News h₀ L s.heap full)
    (Tk : Takes [(d, instObj 587 dx), (dx, diskO w σ), (σ.jn, listOf #[.ref st] q), (σ.kn, kno), (st, instObj 370 sx), (sx, stepO w τ)] full rest) (D : (full.map (·.1)).Nodup)
    (hkn : kno.IsDictOf (strKind Challenge.rw_xm0852_01.row.prog w) kkv) (hkz : kkv.length ≤ 16777216)
    (hk : ∀ h' tk jn' q' kno', Fr h₀ L h' m → BackF h₀ L h' full [(d, instObj 587 dx), (dx, diskO w σ), (σ.jn, listOf #[.ref st] q), (σ.kn, kno), (st, instObj 370 sx), (sx, stepO w τ)]
        [(d, instObj 587 dx), (dx, diskO w { σ with jn := jn' }), (σ.jn, listOf #[.ref st] q), (σ.kn, kno'), (st, instObj 370 sx), (sx, stepO w τ)] [(jn', listOf #[] q')] → (jn' :: full.map (·.1)).Nodup →
      kno'.IsDictOf (strKind Challenge.rw_xm0852_01.row.prog w) (stored kkv "j" (.int τ.num τ.u3)) →
      R (.ok (.ret .none)) { s with heap := h', toks := tk }) :
    codeAny (model Challenge.rw_xm0852_01.row.prog w) A (.call (.ref 493) ⟨[.ref d, .int τ.num t], []⟩) R s := by
  refine ?whole
  k_extra "mine Dc"
  k_extra "mine enter"
  k_extra "mine steps"
  all_goals first | (exfalso; k_extra "o") | skip
  exact hk _ _ _ _ _ (by assumption) (by k_extra "mine done") (by k_extra "mine fresh") (by assumption)
  run_tac Mine.Sh.shrink
end
end Mine
end
section
example : True := by (k_with "setItem ref str" => first | ((k_here; (try dsimp only); kda_here; k_dflt (refine' kda_set (knd := PySem.strKind _ _) ?Fₖ106 ?Nₖ106 ?Uₖ106 ?dₖ106 (strKind_is _ _ _ _) ?zₖ106 ?_; (case Fₖ106 => k_asm); (case Nₖ106 => k_asm); (case Uₖ106 => k_updF); (case dₖ106 => k_asm); (case zₖ106 => (rw [sizeLine_eq]; assumption))); intro h'ₖ o'ₖ F'ₖ N'ₖ hd'ₖ; (try dsimp only at N'ₖ))) | fail "no"); trivial
example : True := by (k_with "setItem ref int" => first | ((k_here; (try dsimp only); kda_here; k_dflt (refine' kda_set (knd := PySem.intKind _ _) ?Fₖ107 ?Nₖ107 ?Uₖ107 ?dₖ107 (intKind_is _ _ _ _) ?zₖ107 ?_; (case Fₖ107 => k_asm); (case Nₖ107 => k_asm); (case Uₖ107 => k_updF); (case dₖ107 => k_asm); (case zₖ107 => (rw [sizeLine_eq]; assumption))); intro h'ₖ o'ₖ F'ₖ N'ₖ hd'ₖ; (try dsimp only at N'ₖ))) | fail "no"); trivial
namespace Mine
section
variable {w : World} {A₀ A : Around} {s : Shared} {base h₀ : Heap} {outer : List Env} {L : Addr} {m : Str → Option Value} {env : Env} {full rest : List (Addr × Obj)} {R : Result → Shared → Prop}
  {p : Program} {loose : List Str} {mean : ExcName → Option Value} {mg mb : Str → Option Value} {d dx f fx n nx ba st sx : Addr} {σ : DiskS} {φ : FileS} {ν : NodeS} {τ : StepS} {b c : Array UInt8} {kno pro ndo : Obj} {kkv pkv : List (Str × Value)} {nkv : List (Int × Value)}
set_option maxRecDepth 100000
set_option maxHeartbeats 4000000
theorem create_over_C {q : Nat} {t : Tok} (C : Cx (hd.heap_39 w.params) A₀ A base h₀ outer env L p loose mean mg mb 4) (F : Fr h₀ L s.heap m) (N : News h₀ L s.heap full)
    (Tk : Takes [(d, instObj 587 dx), (dx, diskO w σ), (σ.jn, listOf #[] q), (σ.pr, pro), (σ.nd, ndo)] full rest) (D : (full.map (·.1)).Nodup)
    (hpr : pro.IsDictOf (strKind Challenge.rw_xm0852_01.row.prog w) pkv) (hpz : pkv.length ≤ 16777216) (hnd : ndo.IsDictOf (intKind Challenge.rw_xm0852_01.row.prog w) nkv) (hnz : nkv.length ≤ 16777216)
    (ha : σ.alive = true) (hl : σ.left < 0)
    (hk : ∀ h' tk q' pro' ndo' f' fx' n' nx' ba' st' sx' left' u0' u1' u2' ut' a0 a1 a2 a3 a4 b0 b1 b2 b3 b4 c0 c1 c2 c3 c4 c5 c6 c7, Fr h₀ L h' m →
      BackF h₀ L h' full [(d, instObj 587 dx), (dx, diskO w σ), (σ.jn, listOf #[] q), (σ.pr, pro), (σ.nd, ndo)]
        [(d, instObj 587 dx), (dx, diskO w { σ with left := left', spent := σ.spent + 1, made := σ.made + 1, u0 := u0', u1 := u1', u2 := u2' }), (σ.jn, listOf #[.ref st'] q'), (σ.pr, pro'), (σ.nd, ndo')]
        [(f', instObj 426 fx'), (fx', fileO w ⟨d, n', false, a0, a1, a2, a3, a4⟩), (st', instObj 370 sx'), (sx', stepO w ⟨σ.made + 1, c0, c1, c2, c3, c4, c5, c6, c7⟩), (n', instObj 342 nx'), (nx', nodeO w ⟨σ.made + 1, ba', 0, b0, b1, b2, b3, b4⟩), (ba', baO #[])] →
      (f' :: fx' :: st' :: sx' :: n' :: nx' :: ba' :: full.map (·.1)).Nodup → left' = σ.left →
      pro'.IsDictOf (strKind Challenge.rw_xm0852_01.row.prog w) (stored pkv "j" (.int (σ.made + 1) ut')) → ndo'.IsDictOf (intKind Challenge.rw_xm0852_01.row.prog w) (stored nkv (σ.made + 1) (.ref n')) →
      R (.ok (.ret (.ref f'))) { s with heap := h', toks := tk }) :
    codeG (model Challenge.rw_xm0852_01.row.prog w) A (.call (.ref 507) ⟨[.ref d, .str "j" t], []⟩) R s := by
  refine ?whole
  k_extra "mine Dc"
  k_extra "mine enterG"
  refine g_cons_any ?_
  k_extra "mine steps"
  refine g_cons_any ?_
  k_extra "mine steps"
  refine g_cons (g_assign_name (g_call_name ?_))
  k_extra "mine steps"
  refine g_callWith_K (K := hd.heap_39 w.params) (by k_is) rfl ?_
  refine g_args_any ?_
  k_extra "mine steps"
  refine g_args_cons ?_
  refine g_call_name ?_
  k_extra "mine steps"
  refine g_callWith_B (by intro a; exact Value.noConfusion) rfl (wpG_of_any ?_)
  k_extra "mine steps"
  refine call_ba0 (by k_asm) (by k_asm) ?_
  intro ba' h' F' N' l1
  k_lt l1
  refine g_args_any ?_
  k_extra "mine steps"
  refine g_args_nil ?_
  refine ⟨by k_in, wpG_of_any ?_⟩
  k_extra "mine steps"
  refine g_cons_any ?_
  k_extra "mine steps"
  refine g_cons_any ?_
  k_extra "mine steps"
  refine g_cons_any ?_
  k_extra "mine steps"
  exact hk _ _ _ _ _ _ _ _ _ _ _ _ _ _ _ _ _ _ _ _ _ _ _ _ _ _ _ _ _ _ _ _ _ _ _ (by assumption) (by k_extra "mine done") (by k_extra "mine freshL") (by k_extra "o") (by assumption) (by assumption)
  run_tac Mine.Sh.shrink
end
end Mine
end
section
namespace Mine
section
variable {prog : Program} {w : World} {K : Type} [DecidableEq K] {knd : KeyKind prog w K} {A : Around} {E : Value → Shared → Prop} {s : Shared} {h₀ : Heap} {L d : Addr} {news : List (Addr × Obj)} {o : Obj} {kvs : List (K × Value)} {k : K} {key v : Value}
theorem dict_item {value slice : PySem.Expr} {Q : Value → Shared → Prop} (N : News h₀ L s.heap news) (hp : (d, o) ∈ news) (hd : o.IsDictOf knd kvs) (hkey : knd.is k key = true) (hl : valueAt kvs k = some v) (h : Q v { s with toks := s.toks + 1 })
    (hs : subscripted slice false (.ref d) key = operate [.ref d, key] (getItem (.ref d) key) := by with_unfolding_all rfl) :
    wpAny (model prog w) A (subscriptTail value slice (.ref d) key) Q E s :=
  have hD := kda_dict N hp hd
  tail_any hD.typeIs slot_dict_getitem.lookup (wpAny_getItem_of hkey hD.mapOf hl h) hs
end
end Mine
example : True := by (k_with "subscriptTail" => first | ((k_here; (try dsimp only); kda_here; k_dflt (refine' Mine.dict_item (knd := PySem.intKind _ _) ?Nₖ108 ?mₖ108 ?dₖ108 (intKind_is _ _ _ _) ?lₖ108 ?_; (case Nₖ108 => k_asm); (case mₖ108 => k_mem); (case dₖ108 => k_asm); (case lₖ108 => assumption)))) | fail "no"); trivial
namespace Mine
section
variable {w : World} {A₀ A : Around} {s : Shared} {base h₀ : Heap} {outer : List Env} {L : Addr} {m : Str → Option Value} {env : Env} {full rest : List (Addr × Obj)} {R : Result → Shared → Prop}
  {p : Program} {loose : List Str} {mean : ExcName → Option Value} {mg mb : Str → Option Value} {d dx f fx n nx ba st sx : Addr} {σ : DiskS} {φ : FileS} {ν : NodeS} {τ : StepS} {b c : Array UInt8} {kno pro ndo : Obj} {kkv pkv : List (Str × Value)} {nkv : List (Int × Value)}
set_option maxRecDepth 100000
set_option maxHeartbeats 1000000
theorem node_of_C {k : Int} {t kt : Tok} (C : Cx (hd.heap_39 w.params) A₀ A base h₀ outer env L p loose mean mg mb 2) (F : Fr h₀ L s.heap m) (N : News h₀ L s.heap full)
    (Tk : Takes [(d, instObj 587 dx), (dx, diskO w σ), (σ.pr, pro), (σ.nd, ndo)] full rest) (D : (full.map (·.1)).Nodup)
    (hpr : pro.IsDictOf (strKind Challenge.rw_xm0852_01.row.prog w) [("j", .int k kt)]) (hnd : ndo.IsDictOf (intKind Challenge.rw_xm0852_01.row.prog w) nkv) (hnv : valueAt nkv k = some (.ref n))
    (lop : (σ.pr == sysModules) = false) (lon : (σ.nd == sysModules) = false)
    (ha : σ.alive = true)
    (hk : ∀ h' tk, Fr h₀ L h' m → Back h₀ L h' full [(d, instObj 587 dx), (dx, diskO w σ), (σ.pr, pro), (σ.nd, ndo)] [(d, instObj 587 dx), (dx, diskO w σ), (σ.pr, pro), (σ.nd, ndo)] →
      R (.ok (.ret (.ref n))) { s with heap := h', toks := tk }) :
    codeAny (model Challenge.rw_xm0852_01.row.prog w) A (.call (.ref 479) ⟨[.ref d, .str "j" t], []⟩) R s := by
  refine ?whole
  k_extra "mine Dc"
  k_extra "mine enter"
  k_extra "mine steps"
  exact hk _ _ (by assumption) (by k_extra "mine done")
  run_tac Mine.Sh.shrink
end
end Mine
example : True := by (k_with "cr" => first | (((show wpAny _ _ (call (Value.ref 479) _ _) _ _ _); (refine wpAny_call ?_); (k_dflt refine' Mine.node_of_C ?Cₖ71 ?Fₖ71 ?Nₖ71 ?Tkₖ71 ?Dₖ71 ?hprₖ71 ?hndₖ71 ?hnvₖ71 ?lopₖ71 ?lonₖ71 ?haₖ71 ?_; (case Fₖ71 => k_asm); (case Nₖ71 => k_asm); (case Cₖ71 => k_extra "mine cx"); (case Tkₖ71 => k_extra "mine takes"); (case Dₖ71 => k_extra "mine D"); (case hprₖ71 => assumption); (case hndₖ71 => assumption); (case hnvₖ71 => assumption); (case lopₖ71 => assumption); (case lonₖ71 => assumption); (case haₖ71 => (first | assumption | rfl)); skip); intro h'ₖ tk'ₖ F'ₖ N'ₖ ; (replace N'ₖ := N'ₖ.get (by k_extra "mine puts")); (try dsimp only [List.cons_append, List.nil_append] at N'ₖ); (try dsimp only); (try k_sweep))) | fail "no"); trivial
example : True := by (k_with "call type:bytes" => first | ((k_here; (try dsimp only); (with_reducible show wpAny _ _ (call (Value.type "bytes") [Value.ref _]) _ _ _); (with_unfolding_all refine' Mine.call_by_ba (b := ?bₖ109) ?haₖ109 ?hzₖ109 ?_); (case haₖ109 => (with_unfolding_all exact News.get (by k_asm) (by k_mem))); (case hzₖ109 => k_extra "o"); intro _ _)) | fail "no"); trivial
namespace Mine
section
variable {w : World} {A₀ A : Around} {s : Shared} {base h₀ : Heap} {outer : List Env} {L : Addr} {m : Str → Option Value} {env : Env} {full rest : List (Addr × Obj)} {R : Result → Shared → Prop}
  {p : Program} {loose : List Str} {mean : ExcName → Option Value} {mg mb : Str → Option Value} {d dx f fx n nx ba st sx : Addr} {σ : DiskS} {φ : FileS} {ν : NodeS} {τ : StepS} {b c : Array UInt8} {kno pro ndo : Obj} {kkv pkv : List (Str × Value)} {nkv : List (Int × Value)}
set_option maxRecDepth 100000
set_option maxHeartbeats 1000000
theorem append_to_C {k : Int} {t kt : Tok} (C : Cx (hd.heap_39 w.params) A₀ A base h₀ outer env L p loose mean mg mb 3) (F : Fr h₀ L s.heap m) (N : News h₀ L s.heap full)
    (Tk : Takes [(d, instObj 587 dx), (dx, diskO w σ), (σ.pr, pro), (σ.nd, ndo)] full rest) (D : (full.map (·.1)).Nodup)
    (hpr : pro.IsDictOf (strKind Challenge.rw_xm0852_01.row.prog w) [("j", .int k kt)]) (hnd : ndo.IsDictOf (intKind Challenge.rw_xm0852_01.row.prog w) nkv) (hnv : valueAt nkv k = some (.ref n))
    (lop : (σ.pr == sysModules) = false) (lon : (σ.nd == sysModules) = false)
    (ha : σ.alive = true)
    (hk : ∀ h' tk f' fx' a0 a1 a2 a3 a4, Fr h₀ L h' m →
      BackF h₀ L h' full [(d, instObj 587 dx), (dx, diskO w σ), (σ.pr, pro), (σ.nd, ndo)] [(d, instObj 587 dx), (dx, diskO w σ), (σ.pr, pro), (σ.nd, ndo)]
        [(f', instObj 426 fx'), (fx', fileO w ⟨d, n, false, a0, a1, a2, a3, a4⟩)] →
      (f' :: fx' :: full.map (·.1)).Nodup →
      R (.ok (.ret (.ref f'))) { s with heap := h', toks := tk }) :
    codeAny (model Challenge.rw_xm0852_01.row.prog w) A (.call (.ref 514) ⟨[.ref d, .str "j" t], []⟩) R s := by
  refine ?whole
  k_extra "mine Dc"
  k_extra "mine enter"
  k_extra "mine steps"
  exact hk _ _ _ _ _ _ _ _ _ (by assumption) (by k_extra "mine done") (by k_extra "mine freshL")
  run_tac Mine.Sh.shrink
theorem read_C {k : Int} {t kt : Tok} (C : Cx (hd.heap_39 w.params) A₀ A base h₀ outer env L p loose mean mg mb 3) (F : Fr h₀ L s.heap m) (N : News h₀ L s.heap full)
    (Tk : Takes [(d, instObj 587 dx), (dx, diskO w σ), (σ.pr, pro), (σ.nd, ndo), (n, instObj 342 nx), (nx, nodeO w ν), (ν.ba, baO b)] full rest) (D : (full.map (·.1)).Nodup)
    (hpr : pro.IsDictOf (strKind Challenge.rw_xm0852_01.row.prog w) [("j", .int k kt)]) (hnd : ndo.IsDictOf (intKind Challenge.rw_xm0852_01.row.prog w) nkv) (hnv : valueAt nkv k = some (.ref n))
    (lop : (σ.pr == sysModules) = false) (lon : (σ.nd == sysModules) = false)
    (ha : σ.alive = true) (hz : b.size ≤ 16777216)
    (hk : ∀ h' tk bt, Fr h₀ L h' m →
      Back h₀ L h' full [(d, instObj 587 dx), (dx, diskO w σ), (σ.pr, pro), (σ.nd, ndo), (n, instObj 342 nx), (nx, nodeO w ν), (ν.ba, baO b)] [(d, instObj 587 dx), (dx, diskO w σ), (σ.pr, pro), (σ.nd, ndo), (n, instObj 342 nx), (nx, nodeO w ν), (ν.ba, baO b)] →
      R (.ok (.ret (.bytes b bt))) { s with heap := h', toks := tk }) :
    codeAny (model Challenge.rw_xm0852_01.row.prog w) A (.call (.ref 542) ⟨[.ref d, .str "j" t], []⟩) R s := by
  refine ?whole
  k_extra "mine Dc"
  k_extra "mine enter"
  k_extra "mine steps"
  exact hk _ _ _ (by assumption) (by k_extra "mine done")
  run_tac Mine.Sh.shrink
theorem size_C {k : Int} {t kt : Tok} (C : Cx (hd.heap_39 w.params) A₀ A base h₀ outer env L p loose mean mg mb 3) (F : Fr h₀ L s.heap m) (N : News h₀ L s.heap full)
    (Tk : Takes [(d, instObj 587 dx), (dx, diskO w σ), (σ.pr, pro), (σ.nd, ndo), (n, instObj 342 nx), (nx, nodeO w ν), (ν.ba, baO b)] full rest) (D : (full.map (·.1)).Nodup)
    (hpr : pro.IsDictOf (strKind Challenge.rw_xm0852_01.row.prog w) [("j", .int k kt)]) (hnd : ndo.IsDictOf (intKind Challenge.rw_xm0852_01.row.prog w) nkv) (hnv : valueAt nkv k = some (.ref n))
    (lop : (σ.pr == sysModules) = false) (lon : (σ.nd == sysModules) = false)
    (ha : σ.alive = true) (hz : b.size ≤ 16777216)
    (hk : ∀ h' tk bt, Fr h₀ L h' m →
      Back h₀ L h' full [(d, instObj 587 dx), (dx, diskO w σ), (σ.pr, pro), (σ.nd, ndo), (n, instObj 342 nx), (nx, nodeO w ν), (ν.ba, baO b)] [(d, instObj 587 dx), (dx, diskO w σ), (σ.pr, pro), (σ.nd, ndo), (n, instObj 342 nx), (nx, nodeO w ν), (ν.ba, baO b)] →
      R (.ok (.ret (.int b.size bt))) { s with heap := h', toks := tk }) :
    codeAny (model Challenge.rw_xm0852_01.row.prog w) A (.call (.ref 549) ⟨[.ref d, .str "j" t], []⟩) R s := by
  refine ?whole
  k_extra "mine Dc"
  k_extra "mine enter"
  k_extra "mine steps"
  exact hk _ _ _ (by assumption) (by k_extra "mine done")
  run_tac Mine.Sh.shrink
end
end Mine
end
section
example : True := by (k_with "mine size" => first | (first | assumption | k_extra "o" | ((try simp only [List.length_append, List.length_take, List.length_drop, List.length_cons, List.length_nil, List.length_replicate, List.length_map]); k_extra "o")) | fail "no"); trivial
example : True := by (k_with "call builtin:len" => first | ((k_here; (try dsimp only); (with_reducible show wpAny _ _ (call (Value.builtin "len") [Value.bytes (List.toArray _) _]) _ _ _); (refine' Mine.len_L ?hzₖ39 ?_); (case hzₖ39 => k_extra "mine size"); intro _ _; (try dsimp only))) | fail "no"); trivial
example : True := by (k_with "subscriptTail" => first | ((k_here; (try dsimp only); (with_reducible show wpAny _ _ (subscriptTail _ _ (Value.bytes (List.toArray _) _) (Value.int _ _)) _ _ _); (refine' Mine.item_L ?hzₖ40 ?h0ₖ40 ?h1ₖ40 ?_); (case hzₖ40 => k_extra "mine size"); (case h0ₖ40 => k_extra "o"); (case h1ₖ40 => k_extra "mine size"); intro _ _; (try dsimp only))) | fail "no"); trivial
example : True := by (k_with "binaryOp Add bytes bytes" => first | ((k_here; (try dsimp only); (with_reducible show wpAny _ _ (binaryOp Operator.Add (Value.bytes (List.toArray _) _) (Value.bytes (List.toArray _) _)) _ _ _); (refine' Mine.add_L ?hzₖ41 ?_); (case hzₖ41 => k_extra "mine size"); intro _ _; (try dsimp only))) | fail "no"); trivial
example : True := by (k_with "subscriptTail" => first | ((k_here; (try dsimp only); (with_reducible show wpAny _ _ (subscriptTail _ (Expr.Slice (some _) (some _) none _) (Value.bytes (List.toArray _) _) (Value.ref _)) _ _ _); (with_reducible rename Fr _ _ _ _ => F'ₖ); (with_reducible rename News _ _ _ _ => N'ₖ); (refine' Mine.slice_LU (s := ⟨_, _, _, _, _⟩) F'ₖ N'ₖ ?hzₖ42 ?h0ₖ42 ?h1ₖ42 ?_); (case hzₖ42 => k_extra "mine size"); (case h0ₖ42 => k_extra "o"); (case h1ₖ42 => k_extra "o"); intro _ _ _ F'ₖ N'ₖ; (try dsimp only))) | fail "no"); trivial
example : True := by (k_with "subscriptTail" => first | ((k_here; (try dsimp only); (with_reducible show wpAny _ _ (subscriptTail _ (Expr.Slice none (some _) none _) (Value.bytes (List.toArray _) _) (Value.ref _)) _ _ _); (with_reducible rename Fr _ _ _ _ => F'ₖ); (with_reducible rename News _ _ _ _ => N'ₖ); (refine' Mine.slice_U (s := ⟨_, _, _, _, _⟩) F'ₖ N'ₖ ?hzₖ43 ?h0ₖ43 ?_); (case hzₖ43 => k_extra "mine size"); (case h0ₖ43 => k_extra "o"); intro _ _ _ F'ₖ N'ₖ; (try dsimp only))) | fail "no"); trivial
example : True := by (k_with "subscriptTail" => first | ((k_here; (try dsimp only); (with_reducible show wpAny _ _ (subscriptTail _ (Expr.Slice (some _) none none _) (Value.bytes (List.toArray _) _) (Value.ref _)) _ _ _); (with_reducible rename Fr _ _ _ _ => F'ₖ); (with_reducible rename News _ _ _ _ => N'ₖ); (refine' Mine.slice_L (s := ⟨_, _, _, _, _⟩) F'ₖ N'ₖ ?hzₖ44 ?h0ₖ44 ?_); (case hzₖ44 => k_extra "mine size"); (case h0ₖ44 => k_extra "o"); intro _ _ _ F'ₖ N'ₖ; (try dsimp only))) | fail "no"); trivial
example : True := by (k_with "call type:bytes" => first | ((k_here; (try dsimp only); (with_reducible show wpAny _ _ (call (Value.type "bytes") [Value.ref _]) _ _ _); k_dflt (refine' Mine.bytes_L ?kbaFₖ45 ?kbaNₖ45 ?kbahₖ45 ?kbalₖ45 ?kbaiₖ45 ?kbarₖ45 ?kbanₖ45 ?_; (case kbaFₖ45 => k_asm); (case kbaNₖ45 => k_asm); (case kbahₖ45 => rfl); (case kbalₖ45 => kba_isList); (case kbaiₖ45 => kba_listInts); (case kbarₖ45 => k_extra "mine in"); (case kbanₖ45 => k_extra "mine size")); intro _ _ _ F'ₖ N'ₖ; (try dsimp only))) | fail "no"); trivial
example : True := by (k_with "call type:bytes" => first | ((k_here; (try dsimp only); (with_reducible show wpAny _ _ (call (Value.type "bytes") [Value.int _ _]) _ _ _); (refine' Mine.bytesInt_L ?h0ₖ46 ?hzₖ46 ?_); (case h0ₖ46 => k_extra "o"); (case hzₖ46 => k_extra "o"); intro _ _; (try dsimp only))) | fail "no"); trivial
example : True := by (k_with "binaryOp RShift int int" => first | ((k_here; (with_reducible refine rshift_int (by decide) ?_))) | fail "no"); trivial
example : True := by (k_with "binaryOp LShift int int" => first | ((k_here; (with_reducible refine lshift_int_small (by decide) (by decide) ?kb3ₖ37 ?_); (case kb3ₖ37 => first | exact Mine.u8_abs _ | exact Mine.abs_of (by first | assumption | k_extra "o") (by first | assumption | k_extra "o")))) | fail "no"); trivial
namespace Mine
section
variable {w : World} {A₀ A : Around} {s : Shared} {base h₀ : Heap} {outer : List Env} {L : Addr} {m : Str → Option Value} {env : Env} {full : List (Addr × Obj)} {R : Result → Shared → Prop}
  {p : Program} {loose : List Str} {mean : ExcName → Option Value} {mg mb : Str → Option Value}
theorem takes0 {full : List (Addr × Obj)} : Takes [] full full := .nil
set_option maxRecDepth 100000
set_option maxHeartbeats 400000
theorem le32_inI {n : Int} {k : Nat} (hn : n = (k : Int)) (h : k < 4294967296) : KBa.In [Builtin.bitAnd n 255, Builtin.bitAnd (n.fdiv (2 ^ Int.toNat 8)) 255, Builtin.bitAnd (n.fdiv (2 ^ Int.toNat 16)) 255, n.fdiv (2 ^ Int.toNat 24)] := by
  subst hn; exact le32_in h
theorem le32_mapI {n : Int} {k : Nat} (hn : n = (k : Int)) : [Builtin.bitAnd n 255, Builtin.bitAnd (n.fdiv (2 ^ Int.toNat 8)) 255, Builtin.bitAnd (n.fdiv (2 ^ Int.toNat 16)) 255, n.fdiv (2 ^ Int.toNat 24)].map (fun n => n.toNat.toUInt8) = le32 k := by
  subst hn; exact le32_map k
example : True := by (k_with "mine in" => first | (exact Mine.le32_inI (by assumption) (by assumption)) | fail "no"); trivial
theorem put_fixed32_C {n : Int} {k : Nat} {t : Tok} (C : Cx (hd.heap_39 w.params) A₀ A base h₀ outer env L p loose mean mg mb 1) (F : Fr h₀ L s.heap m) (N : News h₀ L s.heap full)
    (hn : n = (k : Int)) (hk1 : k < 4294967296) (hk : ∀ h' tk t, Fr h₀ L h' m → News h₀ L h' full → R (.ok (.ret (.bytes (le32 k).toArray t))) { s with heap := h', toks := tk }) :
    codeAny (model Challenge.rw_xm0852_01.row.prog w) A (.call (.ref 149) ⟨[.int n t], []⟩) R s := by
  refine ?whole
  have Tk := takes0 (full := full)
  have h0 : 0 ≤ n := by k_extra "o"
  have h1 : n < 4294967296 := by k_extra "o"
  k_extra "mine enter"
  k_extra "mine steps"
  rw [le32_mapI hn]
  exact hk _ _ _ (by assumption) (by assumption)
  run_tac Mine.Sh.shrink
theorem read_fixed32_C {b : Bs} {i : Nat} {j : Int} {t u : Tok} (C : Cx (hd.heap_39 w.params) A₀ A base h₀ outer env L p loose mean mg mb 1) (F : Fr h₀ L s.heap m) (N : News h₀ L s.heap full)
    (hj : j = (i : Int)) (h1 : i + 4 ≤ b.length) (hz : b.length ≤ 16777216)
    (hk : ∀ h' tk t, Fr h₀ L h' m → News h₀ L h' full → R (.ok (.ret (.int (rd32 b i) t))) { s with heap := h', toks := tk }) :
    codeAny (model Challenge.rw_xm0852_01.row.prog w) A (.call (.ref 156) ⟨[.bytes b.toArray u, .int j t], []⟩) R s := by
  refine ?whole
  have Tk := takes0 (full := full)
  have h0 : 0 ≤ j := by k_extra "o"
  k_extra "mine enter"
  k_extra "mine steps"
  rw [show j.toNat = i by k_extra "o", show (j + 1).toNat = i + 1 by k_extra "o", show (j + 2).toNat = i + 2 by k_extra "o", show (j + 3).toNat = i + 3 by k_extra "o"]
  exact hk _ _ _ (by assumption) (by assumption)
  run_tac Mine.Sh.shrink
theorem mask_C {n : Int} {k : Nat} {t : Tok} (C : Cx (hd.heap_39 w.params) A₀ A base h₀ outer env L p loose mean mg mb 1) (F : Fr h₀ L s.heap m) (N : News h₀ L s.heap full)
    (hn : n = (k : Int)) (h1 : k < 4294967296)
    (hk : ∀ h' tk t, Fr h₀ L h' m → News h₀ L h' full → R (.ok (.ret (.int (maskN k) t))) { s with heap := h', toks := tk }) :
    codeAny (model Challenge.rw_xm0852_01.row.prog w) A (.call (.ref 178) ⟨[.int n t], []⟩) R s := by
  refine ?whole
  have Tk := takes0 (full := full)
  have h0 : 0 ≤ n := by k_extra "o"
  have h2 : n < 4294967296 := by k_extra "o"
  k_extra "mine enter"
  k_extra "mine steps"
  rw [hn, mask_eq h1]
  exact hk _ _ _ (by assumption) (by assumption)
  run_tac Mine.Sh.shrink
end
end Mine
end
section
namespace Mine
def cT : Nat → Int
  | 0 => 1
  | 1 => 2197175160
  | 2 => 1098587580
  | 3 => 549293790
  | _ => 274646895
def hT : Nat → Int
  | 0 => 8
  | 1 => 4
  | 2 => 2
  | 3 => 1
  | _ => 0
def nsT : Nat → List Int
  | 0 => [0,0,0,0,0,0,0,0,0,0,0,0,0,0,0,0]
  | 1 => [0,0,0,0,0,0,0,0,2197175160,0,0,0,0,0,0,0]
  | 2 => [0,0,0,0,1098587580,0,0,0,2197175160,0,0,0,3280807620,0,0,0]
  | 3 => [0,0,549293790,0,1098587580,0,1640403810,0,2197175160,0,2722870694,0,3280807620,0,3811616794,0]
  | _ => tbl
theorem ints_cast {vs : List Value} {a b : List Int} (h : IntsAre vs a) (e : a = b) : IntsAre vs b := e ▸ h
theorem newsCons {h₀ h : Heap} {L : Addr} {x : Addr × Obj} {l : List (Addr × Obj)} (N : News h₀ L h [x]) (N' : News h₀ L h l) : News h₀ L h (x :: l) := fun q hq => (List.mem_cons.mp hq).elim (fun e => e ▸ N x (.head _)) (N' q)
theorem int_some {a b : Int} {t : Tok} (e : a = b) : some (Value.int a t) = some (Value.int b t) := by rw [e]
theorem cT0 : cT 0 = 1 := rfl
theorem hT0 : hT 0 = 8 := rfl
theorem nsT0 : nsT 0 = [0,0,0,0,0,0,0,0,0,0,0,0,0,0,0,0] := rfl
theorem cT1 : cT 1 = 2197175160 := rfl
theorem hT1 : hT 1 = 4 := rfl
theorem nsT1 : nsT 1 = [0,0,0,0,0,0,0,0,2197175160,0,0,0,0,0,0,0] := rfl
theorem cT2 : cT 2 = 1098587580 := rfl
theorem hT2 : hT 2 = 2 := rfl
theorem nsT2 : nsT 2 = [0,0,0,0,1098587580,0,0,0,2197175160,0,0,0,3280807620,0,0,0] := rfl
theorem cT3 : cT 3 = 549293790 := rfl
theorem hT3 : hT 3 = 1 := rfl
theorem nsT3 : nsT 3 = [0,0,549293790,0,1098587580,0,1640403810,0,2197175160,0,2722870694,0,3280807620,0,3811616794,0] := rfl
theorem cT4 : cT 4 = 274646895 := rfl
theorem hT4 : hT 4 = 0 := rfl
theorem nsT4 : nsT 4 = tbl := rfl
section
variable {w : World} {A₀ A : Around} {s : Shared} {base h₀ : Heap} {outer : List Env} {L : Addr} {m : Str → Option Value} {env : Env} {full : List (Addr × Obj)} {R : Result → Shared → Prop}
  {p : Program} {loose : List Str} {mean : ExcName → Option Value} {mg mb : Str → Option Value}
set_option maxRecDepth 100000
set_option maxHeartbeats 2000000
theorem table_C (C : Cx (hd.heap_39 w.params) A₀ A base h₀ outer env L p loose mean mg mb 1) (F : Fr h₀ L s.heap m) (N : News h₀ L s.heap full)
    (hk : ∀ h' tk l vs z, IntsAre vs tbl → Fr h₀ L h' m → News h₀ L h' ((l, listOf vs.toArray z) :: full) → R (.ok (.ret (.ref l))) { s with heap := h', toks := tk }) :
    codeAny (model Challenge.rw_xm0852_01.row.prog w) A (.call (.ref 163) ⟨[], []⟩) R s := by
  refine ?whole
  have Tk := takes0 (full := full)
  k_extra "mine enter"
  k_extra "mine until while"
  rename Fr _ _ _ _ => lF
  rename News _ _ _ _ => lN
  refine' while_J (fun q m l => ∃ i vs z tc th, q = 4 - i ∧ i ≤ 4 ∧ l = [(?tb, listOf (List.toArray vs) z)] ∧ IntsAre vs (nsT i) ∧ m (Str.ofString "table") = some (.ref ?tb) ∧ m (Str.ofString "c") = some (.int (cT i) tc) ∧ m (Str.ofString "half") = some (.int (hT i) th)) ⟨0, _, _, _, _, rfl, Nat.zero_le _, rfl, ?ints0, rfl, rfl, rfl⟩ lF (newsSub lN (by k_extra "mine takes")) ?turnT
  case ints0 => assumption
  case turnT =>
    clear lF lN
    rintro q m1 l1 h tk ⟨i, vs, z, tc, th, rfl, hi, rfl, hvs, e1, e2, e3⟩ F' N'
    have h5 : i = 0 ∨ i = 1 ∨ i = 2 ∨ i = 3 ∨ i = 4 := by k_extra "o"
    rcases h5 with rfl | rfl | rfl | rfl | rfl
    · rw [cT0] at e2
      rw [hT0] at e3
      rw [nsT0] at hvs
      replace F' := fr_hasL (.cons e1 (.cons e2 (.cons e3 .nil))) F'
      dsimp only [frL] at F'
      try dsimp only
      k_extra "mine steps"
      refine' JEnd.next (by assumption) (by k_extra "mine tails") ⟨4 - (0 + 1), by decide, 0 + 1, _, _, _, _, rfl, by decide, rfl, ?ints0, rfl, ?c0, ?h0⟩
      case ints0 =>
        have e9 : nsT (0 + 1) = _ := nsT1
        rename IntsAre _ _ => i9
        refine (ints_cast i9 ?_)
        rw [nsT1]
        decide +kernel
      case c0 =>
        rw [cT1]
        refine int_some ?_
        decide +kernel
      case h0 =>
        rw [hT1]
        refine int_some ?_
        decide +kernel
    · rw [cT1] at e2
      rw [hT1] at e3
      rw [nsT1] at hvs
      replace F' := fr_hasL (.cons e1 (.cons e2 (.cons e3 .nil))) F'
      dsimp only [frL] at F'
      try dsimp only
      k_extra "mine steps"
      refine' JEnd.next (by assumption) (by k_extra "mine tails") ⟨4 - (1 + 1), by decide, 1 + 1, _, _, _, _, rfl, by decide, rfl, ?ints1, rfl, ?c1, ?h1⟩
      case ints1 =>
        have e9 : nsT (1 + 1) = _ := nsT2
        rename IntsAre _ _ => i9
        refine (ints_cast i9 ?_)
        rw [nsT2]
        decide +kernel
      case c1 =>
        rw [cT2]
        refine int_some ?_
        decide +kernel
      case h1 =>
        rw [hT2]
        refine int_some ?_
        decide +kernel
    · rw [cT2] at e2
      rw [hT2] at e3
      rw [nsT2] at hvs
      replace F' := fr_hasL (.cons e1 (.cons e2 (.cons e3 .nil))) F'
      dsimp only [frL] at F'
      try dsimp only
      k_extra "mine steps"
      refine' JEnd.next (by assumption) (by k_extra "mine tails") ⟨4 - (2 + 1), by decide, 2 + 1, _, _, _, _, rfl, by decide, rfl, ?ints2, rfl, ?c2, ?h2⟩
      case ints2 =>
        have e9 : nsT (2 + 1) = _ := nsT3
        rename IntsAre _ _ => i9
        refine (ints_cast i9 ?_)
        rw [nsT3]
        decide +kernel
      case c2 =>
        rw [cT3]
        refine int_some ?_
        decide +kernel
      case h2 =>
        rw [hT3]
        refine int_some ?_
        decide +kernel
    · rw [cT3] at e2
      rw [hT3] at e3
      rw [nsT3] at hvs
      replace F' := fr_hasL (.cons e1 (.cons e2 (.cons e3 .nil))) F'
      dsimp only [frL] at F'
      try dsimp only
      k_extra "mine steps"
      refine' JEnd.next (by assumption) (by k_extra "mine tails") ⟨4 - (3 + 1), by decide, 3 + 1, _, _, _, _, rfl, by decide, rfl, ?ints3, rfl, ?c3, ?h3⟩
      case ints3 =>
        have e9 : nsT (3 + 1) = _ := nsT4
        rename IntsAre _ _ => i9
        refine (ints_cast i9 ?_)
        rw [nsT4]
        decide +kernel
      case c3 =>
        rw [cT4]
        refine int_some ?_
        decide +kernel
      case h3 =>
        rw [hT4]
        refine int_some ?_
        decide +kernel
    · rw [hT4] at e3
      rw [nsT4] at hvs
      replace F' := fr_hasL (.cons e1 (.cons e3 .nil)) F'
      dsimp only [frL] at F'
      try dsimp only
      k_extra "mine steps"
      exact hk _ _ _ _ _ hvs (by assumption) (newsCons (by assumption) (by assumption))
  run_tac Mine.Sh.shrink
end
end Mine
end
section
example : True := by (k_with "call ref" => first | ((k_here; (try dsimp only [List.nil_append]); (show wpAny _ _ (call (Value.ref 163) _ _) _ _ _); (refine wpAny_call ?_); (k_dflt refine' Mine.table_C ?Cₖ90 ?Fₖ90 ?Nₖ90  ?_; (case Fₖ90 => k_asm); (case Nₖ90 => k_asm); (case Cₖ90 => k_extra "mine cx"); skip); intro h'ₖ tk'ₖ l'ₖ vs'ₖ z'ₖ hvs'ₖ F'ₖ N'ₖ; (try dsimp only); (try k_sweep))) | fail "no"); trivial
namespace Mine
theorem and15_eq (c : Int) : Builtin.bitAnd c 15 = c % 16 := by
  have := kbt_mask c 4
  rw [show ((2 : Int) ^ 4 - 1) = 15 from rfl] at this
  rw [this]; rfl
theorem and15_nn (c : Int) : 0 ≤ Builtin.bitAnd c 15 := by rw [and15_eq]; k_extra "o"
theorem and15_tbl (c : Int) : Builtin.bitAnd c 15 < (tbl.length : Int) := by rw [and15_eq, show (tbl.length : Int) = 16 from rfl]; k_extra "o"
theorem and15_fit (c : Int) : Builtin.bitAnd c 15 < 2 ^ 63 := by rw [and15_eq]; k_extra "o"
theorem take_fold {α β : Type} {f : α → β → α} {a : α} {b : List β} {i : Nat} {d : β} (h : i < b.length) : (b.take (i + 1)).foldl f a = f ((b.take i).foldl f a) (b.getD i d) := by
  rw [List.take_add_one, List.getElem?_eq_getElem h, List.foldl_append, List.getD_eq_getElem?_getD, List.getElem?_eq_getElem h]; rfl
theorem crc_fin (b : Bs) : Builtin.bitXor ((crcAll b : Nat) : Int) 4294967295 = ((4294967295 - crcAll b : Nat) : Int) := by
  rw [show (4294967295 : Int) = ((4294967295 : Nat) : Int) from rfl, xor_nat, xor_ones (crcAll_lt b)]
theorem frSelf {x : Str} {m : Str → Option Value} {y : Str} {v : Value} (h : m y = some v) : ∀ z, z ≠ x → m z = if z = y then some v else m z := fun z _ => by
  by_cases e : z = y
  · subst e; simp [h]
  · simp [e]
end Mine
example : True := by (k_with "subscriptTail" => first | ((k_here; (try dsimp only); (with_reducible show wpAny _ _ (subscriptTail _ _ (Value.ref _) (Value.int (Builtin.bitAnd _ 15) _)) _ _ _); (with_unfolding_all refine' item_list_ints ?hlₖ111 ?hiₖ111 (Mine.and15_nn _) ?h1ₖ111 ?hfₖ111 ?_); (case hlₖ111 => kba_isList); (case hiₖ111 => assumption); (case h1ₖ111 => exact Mine.and15_tbl _); (case hfₖ111 => exact Mine.and15_fit _); intro _; (try dsimp only))) | fail "no"); trivial
namespace Mine
section
variable {w : World} {A₀ A : Around} {s : Shared} {base h₀ : Heap} {outer : List Env} {L : Addr} {m : Str → Option Value} {env : Env} {full : List (Addr × Obj)} {R : Result → Shared → Prop}
  {p : Program} {loose : List Str} {mean : ExcName → Option Value} {mg mb : Str → Option Value}
set_option maxRecDepth 100000
set_option maxHeartbeats 400000
theorem crc_C {b : Bs} {t : Tok} (C : Cx (hd.heap_39 w.params) A₀ A base h₀ outer env L p loose mean mg mb 2) (F : Fr h₀ L s.heap m) (N : News h₀ L s.heap full)
    (hz : b.length ≤ 16777216)
    (hk : ∀ h' tk t k, k = 4294967295 - crcAll b → Fr h₀ L h' m → News h₀ L h' full → R (.ok (.ret (.int ((k : Nat) : Int) t))) { s with heap := h', toks := tk }) :
    codeAny (model Challenge.rw_xm0852_01.row.prog w) A (.call (.ref 171) ⟨[.bytes b.toArray t], []⟩) R s := by
  refine ?whole
  have Tk := takes0 (full := full)
  have X9 := C.X.keeps F.keep
  k_extra "mine enter"
  k_extra "mine steps"
  rename Fr _ _ _ _ => lF
  rename News _ _ _ [_] => lN
  refine' loop_bytes (σ := Int × Tok) (m₀ := ?m0) (fun c y => if y = Str.ofString "c" then some (.int c.1 c.2) else ?m0 y) (fun _ => _) (fun i c => c.1 = (((b.take i).foldl (fun c o => crcOct c o.toNat) 4294967295 : Nat) : Int)) (_, _) (by rfl) lF lN (fun _ => rfl) (frSelf (by rfl)) (by rfl) ?_ ?_
  · clear lF lN
    rintro i ⟨c, tc⟩ t h tk own hi hoff hI F' N'
    dsimp only at hI F' N'
    k_extra "mine steps"
    refine' TurnEnd.next (nib (nib (Builtin.bitXor c ((b.getD i 0).toNat : Nat))), _) (by assumption) (by assumption) (fun z hz => ?e) ?i
    case e =>
      dsimp only
      by_cases h : z = Str.ofString "c"
      · rw [if_pos h, if_pos h]; rfl
      · simp only [if_neg h, if_neg hz]
    case i =>
      dsimp only
      rw [hI, oct_eq, take_fold hi]
  · clear lF lN
    rintro ⟨c, tc⟩ u h tk hI F' N'
    dsimp only at hI F' N'
    k_extra "mine steps"
    have e : c = (crcAll b : Nat) := by rw [hI, List.take_length]; rfl
    rw [e, crc_fin]
    exact hk _ _ _ _ rfl (by assumption) (by assumption)
  run_tac Mine.Sh.shrink
end
end Mine
end
section
namespace Mine
section
variable {w : World} {A₀ A : Around} {s : Shared} {base h₀ : Heap} {outer : List Env} {L : Addr} {m : Str → Option Value} {env : Env} {full rest : List (Addr × Obj)} {R : Result → Shared → Prop}
  {p : Program} {loose : List Str} {mean : ExcName → Option Value} {mg mb : Str → Option Value}
set_option maxRecDepth 100000
set_option maxHeartbeats 400000
theorem check_block_C {block : Int} {t : Tok} (C : Cx (hd.heap_39 w.params) A₀ A base h₀ outer env L p loose mean mg mb 1) (F : Fr h₀ L s.heap m) (N : News h₀ L s.heap full)
    (h8 : 8 ≤ block) (h41 : block ≤ 41) (hk : ∀ h' tk, Fr h₀ L h' m → News h₀ L h' full → R (.ok (.ret .none)) { s with heap := h', toks := tk }) :
    codeAny (model Challenge.rw_xm0852_01.row.prog w) A (.call (.ref 192) ⟨[.int block t], []⟩) R s := by
  refine ?whole
  have Tk := takes0 (full := full)
  k_extra "mine enter"
  k_extra "mine steps"
  exact hk _ _ (by assumption) (by assumption)
  run_tac Mine.Sh.shrink
theorem check_kind_C {check : Int} {t : Tok} (C : Cx (hd.heap_39 w.params) A₀ A base h₀ outer env L p loose mean mg mb 1) (F : Fr h₀ L s.heap m) (N : News h₀ L s.heap full)
    (hc : check = 1 ∨ check = 2) (hk : ∀ h' tk, Fr h₀ L h' m → News h₀ L h' full → R (.ok (.ret .none)) { s with heap := h', toks := tk }) :
    codeAny (model Challenge.rw_xm0852_01.row.prog w) A (.call (.ref 199) ⟨[.int check t], []⟩) R s := by
  refine ?whole
  have Tk := takes0 (full := full)
  rcases hc with rfl | rfl
  · k_extra "mine enter"
    k_extra "mine steps"
    exact hk _ _ (by assumption) (by assumption)
  · k_extra "mine enter"
    k_extra "mine steps"
    exact hk _ _ (by assumption) (by assumption)
  run_tac Mine.Sh.shrink
end
end Mine
example : True := by (k_with "cr" => first | (((show wpAny _ _ (call (Value.ref 192) _ _) _ _ _); (refine wpAny_call ?_); (k_dflt refine' Mine.check_block_C ?Cₖ49 ?Fₖ49 ?Nₖ49 ?h8ₖ49 ?h41ₖ49 ?_; (case Fₖ49 => k_asm); (case Nₖ49 => k_asm); (case Cₖ49 => k_extra "mine cx"); (case h8ₖ49 => (first | assumption | k_extra "o")); (case h41ₖ49 => (first | assumption | k_extra "o")); skip); intro h'ₖ tk'ₖ F'ₖ N'ₖ; (try dsimp only); (try k_sweep))) | fail "no"); trivial
example : True := by (k_with "cr" => first | (((show wpAny _ _ (call (Value.ref 199) _ _) _ _ _); (refine wpAny_call ?_); (k_dflt refine' Mine.check_kind_C ?Cₖ50 ?Fₖ50 ?Nₖ50 ?hcₖ50 ?_; (case Fₖ50 => k_asm); (case Nₖ50 => k_asm); (case Cₖ50 => k_extra "mine cx"); (case hcₖ50 => assumption); skip); intro h'ₖ tk'ₖ F'ₖ N'ₖ; (try dsimp only); (try k_sweep))) | fail "no"); trivial
namespace Mine
theorem units_under (A : Around) (C : Addr) (vals : List Value) (kw : List (Str × Value)) : (A.under (.builtin "type.__call__" ⟨.ref C :: vals, kw⟩)).units = A.units + 1 := rfl
end Mine
example : True := by (k_with "mine units" => first | ((try simp only [units_in1, units_deeper, Around.mark_units, Mine.units_under]); k_extra "o") | fail "no"); trivial
namespace Mine
theorem nodup_new2 {full : List (Addr × Obj)} {x d : Addr} (D : (full.map (·.1)).Nodup) (h1 : ∀ p ∈ full, p.1 < d) (h2 : d < x) : ((x :: d :: full.map (·.1)) : List Addr).Nodup := by
  refine List.nodup_cons.mpr ⟨fun z => ?_, List.nodup_cons.mpr ⟨fun z => ?_, D⟩⟩
  · rcases List.mem_cons.mp z with e | z
    · exact Nat.ne_of_gt h2 e
    · obtain ⟨q, hq, e⟩ := List.mem_map.mp z
      have := h1 q hq
      rw [e] at this
      exact Nat.lt_irrefl _ (Nat.lt_trans h2 this)
  · obtain ⟨q, hq, e⟩ := List.mem_map.mp z
    have := h1 q hq
    rw [e] at this
    exact Nat.lt_irrefl _ this
section
variable {w : World} {A₀ A : Around} {s : Shared} {base h₀ : Heap} {outer : List Env} {L : Addr} {m : Str → Option Value} {env : Env} {full rest : List (Addr × Obj)} {R : Result → Shared → Prop}
  {p : Program} {loose : List Str} {mean : ExcName → Option Value} {mg mb : Str → Option Value} {x dx f : Addr}
set_option maxRecDepth 100000
set_option maxHeartbeats 400000
theorem winit_C {block check length : Int} {t u v : Tok} (C : Cx (hd.heap_39 w.params) A₀ A base h₀ outer env L p loose mean mg mb 2) (F : Fr h₀ L s.heap m) (N : News h₀ L s.heap full)
    (Tk : Takes [(x, instObj 244 dx), (dx, dictOf [] 0)] full rest) (D : (full.map (·.1)).Nodup)
    (h8 : 8 ≤ block) (h41 : block ≤ 41) (hc : check = 1 ∨ check = 2) (hl : 0 ≤ length)
    (hk : ∀ h' tk a0 a1 a2 a3, Fr h₀ L h' m → Back h₀ L h' full [(x, instObj 244 dx), (dx, dictOf [] 0)] [(x, instObj 244 dx), (dx, wrO w ⟨f, block, check, length, a0, a1, a2, a3, t, u, v⟩)] → R (.ok (.ret .none)) { s with heap := h', toks := tk }) :
    codeAny (model Challenge.rw_xm0852_01.row.prog w) A (.call (.ref 220) ⟨[.ref x, .ref f, .int block t, .int check u, .int length v], []⟩) R s := by
  refine ?whole
  k_extra "mine Dc"
  k_extra "mine enter"
  k_extra "mine steps"
  exact hk _ _ _ _ _ _ (by assumption) (by k_extra "mine done")
  run_tac Mine.Sh.shrink
theorem new_writer {E : Value → Shared → Prop} {Q : Value → Shared → Prop} {block check length : Int} {t u v : Tok} (C : Cx (hd.heap_39 w.params) A₀ A base h₀ outer env L p loose mean mg mb 4) (F : Fr h₀ L s.heap m) (N : News h₀ L s.heap full) (D : (full.map (·.1)).Nodup)
    (h8 : 8 ≤ block) (h41 : block ≤ 41) (hc : check = 1 ∨ check = 2) (hl : 0 ≤ length)
    (hk : ∀ h' tk x dx a0 a1 a2 a3, Fr h₀ L h' m → News h₀ L h' ((x, instObj 244 dx) :: (dx, wrO w ⟨f, block, check, length, a0, a1, a2, a3, t, u, v⟩) :: full) → (∀ p ∈ full, p.1 < dx) → dx < x → Q (.ref x) { s with heap := h', toks := tk }) :
    wpAny (model Challenge.rw_xm0852_01.row.prog w) A (call (.ref 244) [.ref f, .int block t, .int check u, .int length v]) Q E s := by
  refine ?whole
  have CB := C.B
  have CX := C.X
  have CT := C.T
  obtain ⟨a1, a2, a3, a4, a5⟩ := A
  obtain rfl : a3 = some (env :: outer) := C.hA
  obtain rfl : a1 = none := C.hh
  have hroom := C.room
  have hunits := C.units
  dsimp only at hroom hunits
  refine' call_cls (fI := 220) F C.X N ?k4 ?k5 ?k6 ?_
  case k4 => k_is
  case k5 => k_is
  case k6 => k_is
  intro x dx h' F' N' l1 l2
  refine winit_C (A₀ := A₀) (base := base) (outer := outer) (env := env) (p := p) (loose := loose) (mean := mean) (mg := mg) (mb := mb) (f := f) ?C F' N' (.cons .head (.cons .head .nil)) (nodup_new2 D l1 l2) h8 h41 hc hl ?_
  · exact ⟨CB, CX, CT, rfl, C.hf, C.hk, rfl, by k_room, by k_units⟩
  · intro h'' tk a0 a1 a2 a3 F'' B''
    exact ⟨rfl, hk h'' tk x dx a0 a1 a2 a3 F'' (B''.get (.cons .head (.cons (.tail .head) .nil))) l1 l2⟩
  run_tac Mine.Sh.shrink
end
end Mine
end
section
example : True := by (k_with "cr" => first | (((show wpAny _ _ (call (Value.ref 171) _ _) _ _ _); (refine wpAny_call ?_); (k_dflt refine' Mine.crc_C ?Cₖ54 ?Fₖ54 ?Nₖ54 ?hzₖ54 ?_; (case Fₖ54 => k_asm); (case Nₖ54 => k_asm); (case Cₖ54 => k_extra "mine cx"); (case hzₖ54 => k_extra "mine size"); skip); intro h'ₖ tk'ₖ t'ₖ k'ₖ hk'ₖ F'ₖ N'ₖ; (try dsimp only); (try k_sweep))) | fail "no"); trivial
example : True := by (k_with "cr" => first | (((show wpAny _ _ (call (Value.ref 178) _ _) _ _ _); (refine wpAny_call ?_); (k_dflt refine' Mine.mask_C ?Cₖ68 ?Fₖ68 ?Nₖ68 ?hnₖ68 ?h1ₖ68 ?_; (case Fₖ68 => k_asm); (case Nₖ68 => k_asm); (case Cₖ68 => k_extra "mine cx"); (case hnₖ68 => rfl); (case h1ₖ68 => (first | assumption | k_extra "o")); skip); intro h'ₖ tk'ₖ t'ₖ F'ₖ N'ₖ; (try dsimp only); (try k_sweep))) | fail "no"); trivial
namespace Mine
theorem bInts_sum (b : Bs) : (KBw.bInts b.toArray).sum = ((sumB b : Nat) : Int) := by
  unfold sumB KBw.bInts
  induction b with
  | nil => rfl
  | cons a r ih => simp only [List.map_cons, List.sum_cons] at ih ⊢; k_extra "o"
section
variable {prog : Program} {w : World} {A : Around} {E : Value → Shared → Prop} {s : Shared} {h₀ : Heap} {L : Addr} {m : PySem.Str → Option Value} {news : List (Addr × Obj)} {b : Bs} {t : Tok}
theorem sum_L {Q : Value → Shared → Prop} (F : Fr h₀ L s.heap m) (N : News h₀ L s.heap news) (hh : A.handled = none) (hz : b.length ≤ 16777216)
    (h : ∀ h' t' k, Fr h₀ L h' m → News h₀ L h' news → Q (.int ((sumB b : Nat) : Int) t') { s with heap := h', toks := k }) : wpAny (model prog w) A (call (.builtin "sum") [.bytes b.toArray t]) Q E s := by
  refine KBmo.sum_K F N hh rfl (by rw [KBw.ints_length, List.size_toArray]; exact hz) fun h' t' k F' N' _ _ => ?_
  rw [bInts_sum]
  exact h h' t' k F' N'
end
theorem and32 (n : Nat) : Builtin.bitAnd (n : Int) 4294967295 = ((n % 4294967296 : Nat) : Int) := by
  have := kbt_mask (n : Int) 32
  rw [show ((2 : Int) ^ 32 - 1) = 4294967295 from rfl, show ((2 : Int) ^ 32) = 4294967296 from rfl] at this
  rw [this]; k_extra "o"
theorem chk2_eq (b : Bs) : Builtin.bitAnd ((sumB b : Nat) * 251 + (b.length : Int) * 65537 + 7) 4294967295 = ((chk 2 b : Nat) : Int) := by
  have := and32 (sumB b * 251 + b.length * 65537 + 7)
  rw [show ((sumB b * 251 + b.length * 65537 + 7 : Nat) : Int) = (sumB b : Nat) * 251 + (b.length : Int) * 65537 + 7 by k_extra "o"] at this
  rw [this]; unfold chk; rw [if_pos rfl]
theorem fdiv256 (a : Int) : a.fdiv 256 = a / 256 := Int.fdiv_eq_ediv_of_nonneg a (by decide)
theorem fmod256 (a : Int) : a.fmod 256 = a % 256 := Int.fmod_eq_emod_of_nonneg a (by decide)
theorem le32_length (n : Nat) : (le32 n).length = 4 := rfl
theorem chk1_eq (b : Bs) {k : Nat} (h : k = 4294967295 - crcAll b) : maskN k = chk 1 b := by
  rw [h]; unfold chk; rw [if_neg (by decide)]
end Mine
example : True := by (k_with "call builtin:sum" => first | ((k_here; (with_reducible show wpAny _ _ (call (Value.builtin "sum") [Value.bytes (List.toArray _) _]) _ _ _); k_dflt (refine' Mine.sum_L ?kbmFₖ112 ?kbmNₖ112 ?kbmhₖ112 ?kbmfₖ112 ?_; (case kbmFₖ112 => k_asm); (case kbmNₖ112 => k_asm); (case kbmhₖ112 => rfl); (case kbmfₖ112 => k_extra "mine size")); intro _ _ _ F'ₖ N'ₖ; (try dsimp only))) | fail "no"); trivial
namespace Mine
section
variable {w : World} {A₀ A : Around} {s : Shared} {base h₀ : Heap} {outer : List Env} {L : Addr} {m : Str → Option Value} {env : Env} {full : List (Addr × Obj)} {R : Result → Shared → Prop}
  {p : Program} {loose : List Str} {mean : ExcName → Option Value} {mg mb : Str → Option Value}
set_option maxRecDepth 100000
set_option maxHeartbeats 400000
theorem checksum_C {b : Bs} {t u : Tok} {check : Int} (C : Cx (hd.heap_39 w.params) A₀ A base h₀ outer env L p loose mean mg mb 3) (F : Fr h₀ L s.heap m) (N : News h₀ L s.heap full)
    (hc : check = 1 ∨ check = 2) (hz : b.length ≤ 16777216)
    (hk : ∀ h' tk t n, n = ((chk check b : Nat) : Int) → chk check b < 4294967296 → Fr h₀ L h' m → News h₀ L h' full → R (.ok (.ret (.int n t))) { s with heap := h', toks := tk }) :
    codeAny (model Challenge.rw_xm0852_01.row.prog w) A (.call (.ref 185) ⟨[.int check u, .bytes b.toArray t], []⟩) R s := by
  refine ?whole
  have Tk := takes0 (full := full)
  rcases hc with rfl | rfl
  · k_extra "mine enter"
    k_extra "mine steps"
    rw [chk1_eq b (by assumption)]
    exact hk _ _ _ _ rfl (chk_lt _ _) (by assumption) (by assumption)
  · k_extra "mine enter"
    k_extra "mine steps"
    rw [chk2_eq]
    exact hk _ _ _ _ rfl (chk_lt _ _) (by assumption) (by assumption)
  run_tac Mine.Sh.shrink
end
end Mine
example : True := by (k_with "cr" => first | (((show wpAny _ _ (call (Value.ref 185) _ _) _ _ _); (refine wpAny_call ?_); (k_dflt refine' Mine.checksum_C ?Cₖ51 ?Fₖ51 ?Nₖ51 ?hcₖ51 ?hzₖ51 ?_; (case Fₖ51 => k_asm); (case Nₖ51 => k_asm); (case Cₖ51 => k_extra "mine cx"); (case hcₖ51 => assumption); (case hzₖ51 => k_extra "mine size"); skip); intro h'ₖ tk'ₖ t'ₖ n'ₖ hn1'ₖ hn2'ₖ F'ₖ N'ₖ; (try dsimp only); (try k_sweep))) | fail "no"); trivial
example : True := by (k_with "mine size" => first | (((try simp only [List.length_append, List.length_cons, List.length_nil, List.length_map, Mine.le32_length]); k_extra "o")) | fail "no"); trivial
example : True := by (k_with "cr" => first | (((show wpAny _ _ (call (Value.ref 149) _ _) _ _ _); (refine wpAny_call ?_); (k_dflt refine' Mine.put_fixed32_C ?Cₖ77 ?Fₖ77 ?Nₖ77 ?hnₖ77 ?hk1ₖ77 ?_; (case Fₖ77 => k_asm); (case Nₖ77 => k_asm); (case Cₖ77 => k_extra "mine cx"); (case hnₖ77 => assumption); (case hk1ₖ77 => assumption); skip); intro h'ₖ tk'ₖ t'ₖ F'ₖ N'ₖ; (try dsimp only); (try k_sweep))) | fail "no"); trivial
example : True := by (k_with "mine in" => first | ((intro x9ₖ hx9ₖ; simp only [List.mem_cons, List.not_mem_nil, or_false, Mine.fdiv256, Mine.fmod256] at hx9ₖ; k_extra "o")) | fail "no"); trivial
namespace Mine
theorem frag_parts (b : Bs) (hz : b.length < 256) (n : Nat) (kind : Int) : le32 n ++ [(b.length : Int).fmod 256, (b.length : Int).fdiv 256].map (fun n => n.toNat.toUInt8) ++ ([kind].map (fun n => n.toNat.toUInt8) ++ b) = le32 n ++ [b.length.toUInt8, 0] ++ kind.toNat.toUInt8 :: b := by
  have h1 : ((b.length : Int) % 256).toNat = b.length := by k_extra "o"
  have h2 : ((b.length : Int) / 256).toNat = 0 := by k_extra "o"
  simp only [List.map_cons, List.map_nil, fmod256, fdiv256, h1, h2]
  rfl
def frag (check : Int) (k : UInt8) (b : Bs) : Bs := le32 (chk check (k :: b)) ++ [b.length.toUInt8, 0] ++ k :: b
section
variable {w : World} {A₀ A : Around} {s : Shared} {base h₀ : Heap} {outer : List Env} {L : Addr} {m : Str → Option Value} {env : Env} {full : List (Addr × Obj)} {R : Result → Shared → Prop}
  {p : Program} {loose : List Str} {mean : ExcName → Option Value} {mg mb : Str → Option Value}
set_option maxRecDepth 100000
set_option maxHeartbeats 400000
theorem make_fragment_C {b : Bs} {t u v : Tok} {check kind : Int} (C : Cx (hd.heap_39 w.params) A₀ A base h₀ outer env L p loose mean mg mb 4) (F : Fr h₀ L s.heap m) (N : News h₀ L s.heap full)
    (hc : check = 1 ∨ check = 2) (h0 : 0 ≤ kind) (h1 : kind < 256) (hz : b.length < 256)
    (hk : ∀ h' tk t, Fr h₀ L h' m → News h₀ L h' full → R (.ok (.ret (.bytes (frag check kind.toNat.toUInt8 b).toArray t))) { s with heap := h', toks := tk }) :
    codeAny (model Challenge.rw_xm0852_01.row.prog w) A (.call (.ref 206) ⟨[.int kind u, .bytes b.toArray t, .int check v], []⟩) R s := by
  refine ?whole
  have Tk := takes0 (full := full)
  k_extra "mine enter"
  k_extra "mine steps"
  have e : le32 (chk check ([kind].map (fun n => n.toNat.toUInt8) ++ b)) ++ [(b.length : Int).fmod 256, (b.length : Int).fdiv 256].map (fun n => n.toNat.toUInt8) ++ ([kind].map (fun n => n.toNat.toUInt8) ++ b) = frag check kind.toNat.toUInt8 b := frag_parts b hz _ _
  rw [e]
  exact hk _ _ _ (by assumption) (by assumption)
  run_tac Mine.Sh.shrink
end
end Mine
end
section
example : True := by (k_with "subscriptTail" => first | ((k_here; (try dsimp only); (with_reducible show wpAny _ _ (subscriptTail _ _ (Value.ref _) (Value.int (Int.fmod _ _) _)) _ _ _); (with_unfolding_all refine' item_list_ints ?hlₖ115 ?hiₖ115 ?h0ₖ115 ?h1ₖ115 ?hfₖ115 ?_); (case hlₖ115 => kba_isList); (case hiₖ115 => assumption); (case h0ₖ115 => assumption); (case h1ₖ115 => assumption); (case hfₖ115 => k_extra "o"); intro _; (try dsimp only))) | fail "no"); trivial
namespace Mine
def draw (ns : List Int) (k : Nat) : Int := ns.getD ((k : Int).fmod (ns.length : Int)).toNat 0 + 7907 * ((k : Int).fdiv (ns.length : Int))
section
variable {w : World} {A₀ A : Around} {s : Shared} {base h₀ : Heap} {outer : List Env} {L : Addr} {m : Str → Option Value} {env : Env} {full rest : List (Addr × Obj)} {R : Result → Shared → Prop}
  {p : Program} {loose : List Str} {mean : ExcName → Option Value} {mg mb : Str → Option Value}
set_option maxRecDepth 100000
set_option maxHeartbeats 400000
theorem draw_C {l : Addr} {vs : List Value} {z : Nat} {ns : List Int} {k : Nat} {i : Int} {t : Tok} (C : Cx (hd.heap_39 w.params) A₀ A base h₀ outer env L p loose mean mg mb 1) (F : Fr h₀ L s.heap m) (N : News h₀ L s.heap full) (Tk : Takes [(l, listOf vs.toArray z)] full rest) (D : (full.map (·.1)).Nodup)
    (hi : IntsAre vs ns) (h1 : 1 ≤ ns.length) (h2 : ns.length ≤ 10) (hn : i = (k : Int))
    (hk : ∀ h' tk t, Fr h₀ L h' m → Back h₀ L h' full [(l, listOf vs.toArray z)] [(l, listOf vs.toArray z)] → R (.ok (.ret (.int (draw ns k) t))) { s with heap := h', toks := tk }) :
    codeAny (model Challenge.rw_xm0852_01.row.prog w) A (.call (.ref 598) ⟨[.ref l, .int i t], []⟩) R s := by
  refine ?whole
  have hm0 : 0 ≤ i.fmod (ns.length : Int) := by rw [Int.fmod_eq_emod_of_nonneg _ (by k_extra "o")]; exact Int.emod_nonneg _ (by k_extra "o")
  have hm1 : i.fmod (ns.length : Int) < (ns.length : Int) := by rw [Int.fmod_eq_emod_of_nonneg _ (by k_extra "o")]; exact Int.emod_lt_of_pos _ (by k_extra "o")
  k_extra "mine enter"
  k_extra "mine steps"
  rw [hn]
  exact hk _ _ _ (by assumption) (by k_extra "mine done")
  run_tac Mine.Sh.shrink
end
end Mine
namespace Mine
section
variable {w : World} {A₀ A : Around} {s : Shared} {base h₀ : Heap} {outer : List Env} {L : Addr} {m : Str → Option Value} {env : Env} {full rest : List (Addr × Obj)} {R : Result → Shared → Prop}
  {p : Program} {loose : List Str} {mean : ExcName → Option Value} {mg mb : Str → Option Value}
set_option maxRecDepth 100000
set_option maxHeartbeats 400000
def bitI : Nat → Int → Int
  | 0, x => x
  | i + 1, x => Builtin.bitXor ((bitI i x).fdiv 2) ((bitI i x).fmod 2 * 2197175160)
theorem bitI_one (n : Nat) : Builtin.bitXor ((n : Int).fdiv 2) ((n : Int).fmod 2 * 2197175160) = ((crcBit n : Nat) : Int) := by
  have h1 : (n : Int).fdiv 2 = ((n / 2 : Nat) : Int) := by rw [Int.fdiv_eq_ediv_of_nonneg _ (by decide)]; k_extra "o"
  have h2 : (n : Int).fmod 2 * 2197175160 = ((n % 2 * 2197175160 : Nat) : Int) := by rw [Int.fmod_eq_emod_of_nonneg _ (by decide)]; k_extra "o"
  rw [h1, h2, xor_nat]; unfold crcBit; rfl
theorem bitI_step (i : Nat) (x : Int) (n : Nat) (h : bitI i x = (n : Nat)) : bitI (i + 1) x = ((crcBit n : Nat) : Int) := by
  unfold bitI; rw [h]; exact bitI_one n
theorem bitI_8 (c o : Nat) : bitI 8 (Builtin.bitXor (c : Int) (o : Int)) = ((crcOct c o : Nat) : Int) := by
  have h0 : bitI 0 (Builtin.bitXor (c : Int) (o : Int)) = ((c ^^^ o : Nat) : Int) := xor_nat c o
  exact bitI_step _ _ _ (bitI_step _ _ _ (bitI_step _ _ _ (bitI_step _ _ _ (bitI_step _ _ _ (bitI_step _ _ _ (bitI_step _ _ _ (bitI_step _ _ _ h0)))))))
theorem frSelf2 {x : Str} {m : Str → Option Value} {y y' : Str} {v : Value} (h : m y = some v) : ∀ z, z ≠ x → m z = if z = y then some v else if z = y' then m y' else m z := fun z _ => by
  by_cases e : z = y
  · subst e; simp [h]
  · by_cases e' : z = y'
    · subst e'; simp [e]
    · simp [e, e']
theorem law_mask (b : Bs) : (((4294967295 - crcAll b : Nat) : Int).fdiv 32768 + ((4294967295 - crcAll b : Nat) : Int).fmod 32768 * 131072 + 2726488792).fmod 4294967296 = ((chk 1 b : Nat) : Int) := by
  rw [← chk1_eq b rfl, Int.fdiv_eq_ediv_of_nonneg _ (by decide), Int.fmod_eq_emod_of_nonneg _ (by decide), Int.fmod_eq_emod_of_nonneg _ (by decide)]
  unfold maskN
  k_extra "o"
theorem law_sum (b : Bs) : (((sumB b : Nat) : Int) * 251 + (b.length : Int) * 65537 + 7).fmod 4294967296 = ((chk 2 b : Nat) : Int) := by
  rw [Int.fmod_eq_emod_of_nonneg _ (by decide)]
  unfold chk
  rw [if_pos rfl]
  k_extra "o"
example : True := by (k_with "exec For Name Call cons nil" => first | (k_extra "mine for") | fail "no"); trivial
theorem law_check_C {b : Bs} {t u : Tok} {check : Int} (C : Cx (hd.heap_39 w.params) A₀ A base h₀ outer env L p loose mean mg mb 1) (F : Fr h₀ L s.heap m) (N : News h₀ L s.heap full)
    (hc : check = 1 ∨ check = 2) (hz : b.length ≤ 16777216)
    (hk : ∀ h' tk t n, n = ((chk check b : Nat) : Int) → chk check b < 4294967296 → Fr h₀ L h' m → News h₀ L h' full → R (.ok (.ret (.int n t))) { s with heap := h', toks := tk }) :
    codeAny (model Challenge.rw_xm0852_01.row.prog w) A (.call (.ref 605) ⟨[.int check u, .bytes b.toArray t], []⟩) R s := by
  refine ?whole
  have Tk := takes0 (full := full)
  rcases hc with rfl | rfl
  · k_extra "mine enter"
    k_extra "mine iter"
    rename Fr _ _ _ _ => lF
    rename News _ _ _ [] => lN
    refine' loop_bytes (σ := Int × Tok × Option Value) (m₀ := ?m0) (fun c y => if y = Str.ofString "rest" then some (.int c.1 c.2.1) else if y = Str.ofString "turn" then c.2.2 else ?m0 y) (fun _ => _) (fun i c => c.1 = (((b.take i).foldl (fun c o => crcOct c o.toNat) 4294967295 : Nat) : Int)) (_, _, _) (by rfl) lF lN (fun _ => rfl) (frSelf2 (by rfl)) (by rfl) ?_ ?_
    · clear lF lN
      rintro i0 ⟨cc, tc, tv⟩ t h tk own hi hoff hI F' N'
      dsimp only at hI F' N'
      k_extra "mine iter"
      rename Fr _ _ _ _ => lF
      rename News _ _ _ _ => lN
      rename IsRange _ _ _ _ _ _ _ _ => rgX
      refine' loop_range (σ := Int × Tok) (n := 8) (m₀ := ?m1) (fun c y => if y = Str.ofString "rest" then some (.int c.1 c.2) else ?m1 y) (fun _ => _) (fun i c => c.1 = bitI i (Builtin.bitXor cc ((b.getD i0 0).toNat : Nat))) (_, _) (by rfl) rgX (by decide) (by rfl) lF lN (fun _ => rfl) (frSelf (by rfl)) (by rfl) ?_ ?_
      · clear lF lN rgX
        rintro j ⟨c', tc'⟩ t' h tk own' hj hoff' hJ F' N'
        dsimp only at hJ F' N'
        k_extra "mine steps"
        refine' TurnEnd.next (_, _) (by assumption) (by assumption) (fun z hz => ?e) ?i
        case e =>
          dsimp only
          by_cases h : z = Str.ofString "rest"
          · rw [if_pos h, if_pos h]
          · simp only [if_neg h, if_neg hz]
        case i =>
          dsimp only
          rw [hJ]; rfl
      · clear lF lN rgX
        rintro ⟨c', tc'⟩ u' h tk hJ F' N'
        dsimp only at hJ F' N'
        k_extra "mine steps"
        refine' TurnEnd.next (_, _, _) (by assumption) (by assumption) (fun z hz => ?e) ?i
        case e =>
          dsimp only
          by_cases h : z = Str.ofString "rest"
          · subst h; rfl
          · by_cases h' : z = Str.ofString "turn"
            · subst h'; rfl
            · simp only [if_neg h, if_neg h', if_neg hz]
        case i =>
          dsimp only
          rw [hJ, hI, bitI_8, take_fold hi]
    · clear lF lN
      rintro ⟨c, tc, tv⟩ u h tk hI F' N'
      dsimp only at hI F' N'
      k_extra "mine steps"
      have hc : c = ((crcAll b : Nat) : Int) := by rw [hI, List.take_length]; rfl
      have hlt := crcAll_lt b
      have e : 4294967295 - c = ((4294967295 - crcAll b : Nat) : Int) := by k_extra "o"
      rw [e, law_mask]
      exact hk _ _ _ _ rfl (chk_lt _ _) (by assumption) (by assumption)
  · k_extra "mine enter"
    k_extra "mine steps"
    rw [law_sum]
    exact hk _ _ _ _ rfl (chk_lt _ _) (by assumption) (by assumption)
  run_tac Mine.Sh.shrink
end
end Mine
end
section
example : True := by (k_with "cr" => first | (((show wpAny _ _ (call (Value.ref 605) _ _) _ _ _); (refine wpAny_call ?_); (k_dflt refine' Mine.law_check_C ?Cₖ63 ?Fₖ63 ?Nₖ63 ?hcₖ63 ?hzₖ63 ?_; (case Fₖ63 => k_asm); (case Nₖ63 => k_asm); (case Cₖ63 => k_extra "mine cx"); (case hcₖ63 => assumption); (case hzₖ63 => k_extra "mine size"); skip); intro h'ₖ tk'ₖ t'ₖ n'ₖ hn1'ₖ hn2'ₖ F'ₖ N'ₖ; (try dsimp only); (try k_sweep))) | fail "no"); trivial
example : True := by (k_with "mine vl" => first | (first | exact Mine.BytesAre.len (by assumption) | exact IntsAre.length (by assumption)) | fail "no"); trivial
example : True := by (k_with "call builtin:len" => first | ((k_here; (try dsimp only); (with_reducible show wpAny _ _ (call (Value.builtin "len") [Value.ref _]) _ _ _); (with_unfolding_all refine' Mine.len_vs ?hlₖ96 ?hnₖ96 ?hzₖ96 ?_; (case hlₖ96 => kba_isList); (case hnₖ96 => k_extra "mine vl"); (case hzₖ96 => first | assumption | k_extra "o")); intro _ _; (try dsimp only))) | fail "no"); trivial
example : True := by (k_with "call builtin:list.append" => first | ((k_here; (try dsimp only); (with_reducible show wpAny _ _ (call (Value.builtin _) [Value.ref _, _]) _ _ _); k_dflt (refine' Mine.append_vs ?k1ₖ97 ?k2ₖ97 ?k3ₖ97 ?hzₖ97 ?_; (case k1ₖ97 => k_asm); (case k2ₖ97 => k_asm); (case k3ₖ97 => k_upd); (case hzₖ97 => first | assumption | k_extra "o")); intro h'ₖ F'ₖ N'ₖ; (try k_sweep))) | fail "no"); trivial
example : True := by (k_with "subscriptTail" => first | ((k_here; (try dsimp only); (with_reducible show wpAny _ _ (subscriptTail _ _ (Value.ref _) (Value.int _ _)) _ _ _); (with_unfolding_all refine' Mine.item_bytes ?hlₖ118 ?hbₖ118 rfl ?hjₖ118 ?hfₖ118 ?_); (case hlₖ118 => kba_isList); (case hbₖ118 => assumption); (case hjₖ118 => k_extra "o"); (case hfₖ118 => k_extra "o"); intro _; (try dsimp only))) | fail "no"); trivial
example : True := by (k_with "subscriptTail Name Name ref int" => first | ((k_here; (try dsimp only); (with_reducible show wpAny _ _ (subscriptTail _ _ (Value.ref _) (Value.int _ _)) _ _ _); (with_unfolding_all refine' Mine.item_bytes ?hlₖ119 ?hbₖ119 rfl ?hjₖ119 ?hfₖ119 ?_); (case hlₖ119 => kba_isList); (case hbₖ119 => assumption); (case hjₖ119 => k_extra "o"); (case hfₖ119 => k_extra "o"); intro _; (try dsimp only))) | fail "no"); trivial
example : True := by (k_with "mine size" => first | (((try simp only [List.length_append, List.length_cons, List.length_nil, List.length_map, Mine.le32_length, List.length_replicate]); k_extra "o")) | fail "no"); trivial
namespace Mine
theorem fdiv65536 (a : Int) : a.fdiv 65536 = a / 65536 := Int.fdiv_eq_ediv_of_nonneg a (by decide)
theorem fdiv16m (a : Int) : a.fdiv 16777216 = a / 16777216 := Int.fdiv_eq_ediv_of_nonneg a (by decide)
end Mine
example : True := by (k_with "mine in" => first | ((intro x9ₖ hx9ₖ; simp only [List.mem_cons, List.not_mem_nil, or_false, Mine.fdiv256, Mine.fmod256, Mine.fdiv65536, Mine.fdiv16m] at hx9ₖ; k_extra "o")) | fail "no"); trivial
namespace Mine
def room (bl ln : Nat) : Nat := bl - ln % bl
def zeros (bl ln : Nat) : Bs := if room bl ln < 7 then List.replicate (room bl ln) 0 else []
def cap (bl ln : Nat) : Nat := (if room bl ln < 7 then bl else room bl ln) - 7
def chunks (k : Nat) (r : Bs) : List Bs := if h : r = [] ∨ k = 0 then [] else r.take k :: chunks k (r.drop k)
termination_by r.length
decreasing_by
  have : r.length ≠ 0 := fun e => h (.inl (List.length_eq_zero_iff.mp e))
  simp only [List.length_drop]; k_extra "o"
def partsOf (bl ln : Nat) (rec : Bs) : List Bs := rec.take (cap bl ln) :: chunks (bl - 7) (rec.drop (cap bl ln))
theorem chunks_len {k : Nat} (hk : k ≠ 0) : ∀ (n : Nat) (r : Bs), r.length ≤ n → (chunks k r).length ≤ r.length
  | 0, r, h => by
    have : r = [] := List.length_eq_zero_iff.mp (by k_extra "o")
    rw [chunks, dif_pos (.inl this)]; exact Nat.zero_le _
  | n + 1, r, h => by
    rw [chunks]
    by_cases hr : r = []
    · rw [dif_pos (.inl hr)]; exact Nat.zero_le _
    · have h0 : r.length ≠ 0 := fun e => hr (List.length_eq_zero_iff.mp e)
      rw [dif_neg (by simp [hr, hk])]
      have := chunks_len hk n (r.drop k) (by rw [List.length_drop]; k_extra "o")
      rw [List.length_drop] at this
      rw [List.length_cons]; k_extra "o"
theorem chunks_nil {k : Nat} {r : Bs} (h : r.length = 0) : chunks k r = [] := by
  rw [chunks, dif_pos (.inl (List.length_eq_zero_iff.mp h))]
theorem chunks_cons {k : Nat} {r : Bs} (hk : k ≠ 0) (h : r.length ≠ 0) : chunks k r = r.take k :: chunks k (r.drop k) := by
  rw [chunks, dif_neg]
  rintro (e | e)
  · exact h (by rw [e]; rfl)
  · exact hk e
theorem partsOf_len {bl ln : Nat} {rec : Bs} (h8 : 8 ≤ bl) : (partsOf bl ln rec).length ≤ rec.length + 1 := by
  have := chunks_len (k := bl - 7) (by k_extra "o") _ (rec.drop (cap bl ln)) (Nat.le_refl _)
  rw [List.length_drop] at this
  unfold partsOf
  rw [List.length_cons]; k_extra "o"
theorem chunks_le {k : Nat} : ∀ (n : Nat) (r : Bs), r.length ≤ n → ∀ p ∈ chunks k r, p.length ≤ r.length
  | 0, r, h, p, hp => by
    rw [chunks, dif_pos (.inl (List.length_eq_zero_iff.mp (by k_extra "o")))] at hp
    exact nomatch hp
  | n + 1, r, h, p, hp => by
    rw [chunks] at hp
    by_cases hr : r = [] ∨ k = 0
    · rw [dif_pos hr] at hp; exact nomatch hp
    · rw [dif_neg hr] at hp
      have h0 : r.length ≠ 0 := fun e => hr (.inl (List.length_eq_zero_iff.mp e))
      have hk : k ≠ 0 := fun e => hr (.inr e)
      rcases List.mem_cons.mp hp with rfl | hp
      · rw [List.length_take]; k_extra "o"
      · have := chunks_le n (r.drop k) (by rw [List.length_drop]; k_extra "o") p hp
        rw [List.length_drop] at this
        k_extra "o"
theorem parts_le {bl ln : Nat} {rec : Bs} (i : Nat) : ((partsOf bl ln rec).getD i []).length ≤ rec.length := by
  rw [List.getD_eq_getElem?_getD]
  cases h : (partsOf bl ln rec)[i]? with
  | none => exact Nat.zero_le _
  | some p =>
    have hm := List.mem_of_getElem? h
    unfold partsOf at hm
    show p.length ≤ _
    rcases List.mem_cons.mp hm with rfl | hm
    · rw [List.length_take]; k_extra "o"
    · have := chunks_le _ _ (Nat.le_refl _) p hm
      rw [List.length_drop] at this
      k_extra "o"
def kindOf (n i : Nat) : Int := if n = 1 then 1 else if i = 0 then 2 else if i + 1 = n then 4 else 3
def fragOf (check : Int) (ps : List Bs) (i : Nat) : Bs := frag check (kindOf ps.length i).toNat.toUInt8 (ps.getD i [])
def fragsTo (check : Int) (ps : List Bs) (n : Nat) : Bs := ((List.range n).map (fragOf check ps)).flatten
def laid (check : Int) (bl ln : Nat) (rec : Bs) : Bs := zeros bl ln ++ fragsTo check (partsOf bl ln rec) (partsOf bl ln rec).length
theorem kindOf_in (n i : Nat) : 1 ≤ kindOf n i ∧ kindOf n i ≤ 4 := by
  unfold kindOf
  repeat' split
  all_goals k_extra "o"
theorem frags_succ (check : Int) (ps : List Bs) (n : Nat) : fragsTo check ps (n + 1) = fragsTo check ps n ++ fragOf check ps n := by
  unfold fragsTo
  rw [List.range_succ, List.map_append, List.flatten_append]
  simp
theorem frag_len (check : Int) (k : UInt8) (b : Bs) : (frag check k b).length = b.length + 7 := by
  unfold frag
  simp only [List.length_append, List.length_cons, List.length_nil, le32_length]
  k_extra "o"
theorem frags_len {check : Int} {ps : List Bs} (h : ∀ j, (ps.getD j []).length ≤ 100) (n : Nat) : (fragsTo check ps n).length ≤ n * 107 := by
  induction n with
  | zero => exact Nat.le_refl _
  | succ n ih =>
    rw [frags_succ, List.length_append]
    have := frag_len check (kindOf ps.length n).toNat.toUInt8 (ps.getD n [])
    have := h n
    unfold fragOf
    k_extra "o"
theorem zeros_len (bl ln : Nat) : (zeros bl ln).length ≤ 7 := by
  unfold zeros
  split
  · rw [List.length_replicate]; k_extra "o"
  · exact Nat.zero_le _
theorem law_frag {check n kind : Int} {b : Bs} (hb : b.length < 256) (hn : n = ((chk check ([kind].map (fun n => n.toNat.toUInt8) ++ b) : Nat) : Int)) (hn2 : chk check ([kind].map (fun n => n.toNat.toUInt8) ++ b) < 4294967296) (out : Bs) :
    out ++ [n.fmod 256, (n.fdiv 256).fmod 256, (n.fdiv 65536).fmod 256, n.fdiv 16777216].map (fun n => n.toNat.toUInt8) ++ [(b.length : Int), 0].map (fun n => n.toNat.toUInt8) ++ ([kind].map (fun n => n.toNat.toUInt8) ++ b) = out ++ frag check kind.toNat.toUInt8 b := by
  refine ?whole
  have e : [kind].map (fun n => n.toNat.toUInt8) ++ b = kind.toNat.toUInt8 :: b := rfl
  rw [e] at hn hn2 ⊢
  unfold frag le32
  have h1 : (n.fmod 256).toNat = chk check (kind.toNat.toUInt8 :: b) % 256 := by rw [fmod256]; k_extra "o"
  have h2 : ((n.fdiv 256).fmod 256).toNat = chk check (kind.toNat.toUInt8 :: b) / 256 % 256 := by rw [fmod256, fdiv256]; k_extra "o"
  have h3 : ((n.fdiv 65536).fmod 256).toNat = chk check (kind.toNat.toUInt8 :: b) / 65536 % 256 := by rw [fmod256, fdiv65536]; k_extra "o"
  have h4 : (n.fdiv 16777216).toNat = chk check (kind.toNat.toUInt8 :: b) / 16777216 := by rw [fdiv16m]; k_extra "o"
  simp only [List.map_cons, List.map_nil, h1, h2, h3, h4, Int.toNat_natCast, List.append_assoc]
  rfl
  run_tac Mine.Sh.shrink
section
variable {w : World} {A₀ A : Around} {s : Shared} {base h₀ : Heap} {outer : List Env} {L : Addr} {m : Str → Option Value} {env : Env} {full rest : List (Addr × Obj)} {R : Result → Shared → Prop}
  {p : Program} {loose : List Str} {mean : ExcName → Option Value} {mg mb : Str → Option Value}
set_option maxRecDepth 100000
set_option maxHeartbeats 1000000
theorem law_laid_C {rec : Bs} {length block check : Int} {ln bl : Nat} {t u v x : Tok} (C : Cx (hd.heap_39 w.params) A₀ A base h₀ outer env L p loose mean mg mb 2) (F : Fr h₀ L s.heap m) (N : News h₀ L s.heap full)
    (hc : check = 1 ∨ check = 2) (hln : length = (ln : Int)) (hbl : block = (bl : Int)) (h8 : 8 ≤ bl) (h41 : bl ≤ 41) (hr : rec.length ≤ 100)
    (hk : ∀ h' tk t, Fr h₀ L h' m → News h₀ L h' full → R (.ok (.ret (.bytes (laid check bl ln rec).toArray t))) { s with heap := h', toks := tk }) :
    codeAny (model Challenge.rw_xm0852_01.row.prog w) A (.call (.ref 612) ⟨[.int length t, .bytes rec.toArray u, .int block v, .int check x], []⟩) R s := by
  refine ?whole
  have Tk := takes0 (full := full)
  have hm : length.fmod block = ((ln % bl : Nat) : Int) := by rw [hln, hbl, Int.fmod_eq_emod_of_nonneg _ (by k_extra "o")]; k_extra "o"
  have hlt : ln % bl < bl := Nat.mod_lt _ (by k_extra "o")
  have hb0 : block ≠ 0 := by k_extra "o"
  k_extra "mine enter"
  k_extra "mine until if"
  rename Fr _ _ _ _ => lF
  refine' join_J lF (fun m l => l = [] ∧ (∃ t, m (Str.ofString "out") = some (.bytes (zeros bl ln).toArray t)) ∧ (∃ rm t, m (Str.ofString "room") = some (.int rm t) ∧ rm = ((cap bl ln + 7 : Nat) : Int)) ∧ m (Str.ofString "record") = some (.bytes rec.toArray u) ∧ m (Str.ofString "block") = some (.int block v) ∧ m (Str.ofString "check") = some (.int check x)) ?h1 ?h2
  case h1 =>
    k_extra "mine steps"
    · refine' JNext.next (by assumption) (by assumption) ⟨rfl, ⟨_, ?o⟩, ⟨_, _, rfl, ?r⟩, rfl, rfl, rfl⟩
      case o =>
        have e : zeros bl ln = List.replicate (block - length.fmod block).toNat 0 := by
          unfold zeros room
          rw [if_pos (by k_extra "o")]
          congr 1
          k_extra "o"
        rw [e]; rfl
      case r =>
        unfold cap room
        rw [if_pos (by k_extra "o")]; k_extra "o"
    · refine' JNext.next (by assumption) (by assumption) ⟨rfl, ⟨_, ?o⟩, ⟨_, _, rfl, ?r⟩, rfl, rfl, rfl⟩
      case o =>
        have e : zeros bl ln = [] := by
          unfold zeros room
          rw [if_neg (by k_extra "o")]
        rw [e]; rfl
      case r =>
        unfold cap room
        rw [if_neg (by k_extra "o")]; k_extra "o"
  case h2 =>
    clear lF
    rintro m' l' h tk ⟨rfl, ⟨t1, e1⟩, ⟨rm, t2, e2, hrm⟩, e3, e4, e5⟩ F' N'
    replace F' := fr_hasL (.cons e1 (.cons e2 (.cons e3 (.cons e4 (.cons e5 .nil))))) F'
    dsimp only [frL] at F'
    try dsimp only
    k_extra "mine until while"
    rename Fr _ _ _ _ => lF
    rename News _ _ _ [_] => lN
    refine' while_J (fun n m l => ∃ ps r vs z t, n = List.length r ∧ l = [(?pl, listOf (List.toArray vs) z)] ∧ BytesAre vs ps ∧ ps ++ chunks (bl - 7) r = partsOf bl ln rec ∧ List.length r ≤ 100 ∧ (∃ t, m (Str.ofString "out") = some (.bytes (zeros bl ln).toArray t)) ∧ m (Str.ofString "parts") = some (.ref ?pl) ∧ m (Str.ofString "rest") = some (.bytes (List.toArray r) t) ∧ m (Str.ofString "block") = some (.int block v) ∧ m (Str.ofString "check") = some (.int check x)) ⟨_, _, _, _, _, rfl, rfl, BytesAre.one, ?e, ?hl, ⟨_, rfl⟩, rfl, rfl, rfl, rfl⟩ lF lN ?turn
    case e =>
      have e9 : (rm - 7).toNat = cap bl ln := by k_extra "o"
      rw [e9]; rfl
    case hl =>
      rw [List.length_drop]; k_extra "o"
    case turn =>
      clear lF lN
      rintro n m' l' h tk ⟨ps, r, vs, z, t3, rfl, rfl, hvs, hps, hrl, ⟨t4, e1⟩, e2, e3, e4, e5⟩ F' N'
      replace F' := fr_hasL (.cons e1 (.cons e2 (.cons e3 (.cons e4 (.cons e5 .nil))))) F'
      dsimp only [frL] at F'
      try dsimp only
      have hpl : ps.length ≤ 200 := by
        have h1 := partsOf_len (rec := rec) (ln := ln) h8
        rw [← hps, List.length_append] at h1
        k_extra "o"
      have hvl : vs.length ≤ 1000 := by rw [hvs.len]; k_extra "o"
      k_extra "mine until if"
      by_cases hp : r.length = 0
      · refine WhlIf.no (decide_eq_false (by k_extra "o")) ?_
        rw [chunks_nil hp, List.append_nil] at hps
        k_extra "mine iter"
        rename Fr _ _ _ _ => lF
        rename News _ _ _ [_] => lN
        rename IsRange _ _ _ _ _ _ _ _ => rgX
        refine' range_J (n := ps.length) (fun i m l => l = [(?pl, listOf vs.toArray z)] ∧ (∃ t, m (Str.ofString "out") = some (.bytes (zeros bl ln ++ fragsTo check ps i).toArray t)) ∧ m (Str.ofString "parts") = some (.ref ?pl) ∧ m (Str.ofString "check") = some (.int check x)) (by rfl) rgX (small_one (by k_extra "o") (by k_extra "o") (by k_extra "o") (by k_extra "o")) (rangeSize_nat _ _) lF lN ⟨rfl, ⟨_, ?o⟩, rfl, rfl⟩ ?turn ?done
        case o => rw [show fragsTo check ps 0 = [] from rfl, List.append_nil]; rfl
        case turn =>
          clear lF lN rgX
          rintro i m1 l1 t h tk own hi ha hoff ⟨rfl, ⟨t4, e1⟩, e2, e3⟩ F' N'
          replace F' := fr_hasX (.cons e1 (.cons e2 (.cons e3 .nil))) F'
          dsimp only [frL] at F'
          rw [show (0 : Int) + (i : Nat) * 1 = (i : Int) by k_extra "o"] at F'
          have hbz : (ps.getD i []).length ≤ 100 := by rw [hps]; exact Nat.le_trans (parts_le i) hr
          k_extra "mine until if"
          rename Fr _ _ _ _ => lF
          refine' join_J lF (fun m l => l = [(?pl, listOf vs.toArray z)] ++ own ∧ (∃ kv t, m (Str.ofString "kind") = some (.int kv t) ∧ kv = kindOf ps.length i) ∧ m (Str.ofString "out") = some (.bytes (zeros bl ln ++ fragsTo check ps i).toArray t4) ∧ m (Str.ofString "parts") = some (.ref ?pl) ∧ m (Str.ofString "check") = some (.int check x) ∧ m (Str.ofString "i") = some (.int (i : Nat) t)) ?h1 ?h2
          case h1 =>
            k_extra "mine steps"
            all_goals (refine' JNext.next (by assumption) (by assumption) ⟨rfl, ⟨_, _, rfl, ?_⟩, rfl, rfl, rfl, rfl⟩)
            all_goals (unfold kindOf; (repeat' split) <;> k_extra "o")
          case h2 =>
            clear lF
            rintro m2 l2 h2 tk2 ⟨rfl, ⟨kv, t5, f1, hkv⟩, f2, f3, f4, f5⟩ F' N'
            replace F' := fr_hasL (.cons f1 (.cons f2 (.cons f3 (.cons f4 (.cons f5 .nil))))) F'
            dsimp only [frL] at F'
            try dsimp only
            have hk1 := (kindOf_in ps.length i).1
            have hk2 := (kindOf_in ps.length i).2
            rw [← hkv] at hk1 hk2
            have hz1 := zeros_len bl ln
            have hz2 := frags_len (check := check) (ps := ps) (fun j => by rw [hps]; exact Nat.le_trans (parts_le j) hr) i
            k_extra "mine steps"
            refine' inv_end (l' := [(_, listOf vs.toArray z)]) (by assumption) (by k_extra "mine tails") rfl ⟨rfl, ⟨_, ?oo⟩, rfl, rfl⟩
            case oo =>
              rw [frags_succ]
              show some (Value.bytes (List.toArray _) _) = _
              rw [law_frag (out := zeros bl ln ++ fragsTo check ps i) (b := ps.getD i []) (kind := kv) (check := check) (by k_extra "o") (by assumption) (by assumption), hkv, List.append_assoc]
              rfl
        case done =>
          clear lF lN rgX
          rintro m1 l1 h tk ⟨rfl, ⟨t4, e1⟩, e2, e3⟩ F' N'
          replace F' := fr_hasL (.cons e1 (.cons e2 (.cons e3 .nil))) F'
          dsimp only [frL] at F'
          try dsimp only
          k_extra "mine steps"
          subst hps
          exact hk _ _ _ (by assumption) (by assumption)
      · refine WhlIf.yes (decide_eq_true (by k_extra "o")) ?_
        k_extra "mine steps"
        refine' JEnd.next (by assumption) (by assumption) ⟨_, ?nlt9, _, _, _, _, _, rfl, rfl, hvs.push, ?e, ?l, ⟨_, rfl⟩, rfl, rfl, rfl, rfl⟩
        case nlt9 => rw [List.length_drop]; k_extra "o"
        case e =>
          rw [← hps, chunks_cons (k := bl - 7) (by k_extra "o") hp, show (block - 7).toNat = bl - 7 by k_extra "o"]
          simp
        case l => rw [List.length_drop]; k_extra "o"
  run_tac Mine.Sh.shrink
end
end Mine
end
section
namespace Mine
section
variable {w : World} {A₀ A : Around} {s : Shared} {base h₀ : Heap} {outer : List Env} {L : Addr} {m : Str → Option Value} {env : Env} {full rest : List (Addr × Obj)} {R : Result → Shared → Prop}
  {p : Program} {loose : List Str} {mean : ExcName → Option Value} {mg mb : Str → Option Value} {d dx f fx n nx ba : Addr} {σ : DiskS} {φ : FileS} {ν : NodeS}
set_option maxRecDepth 100000
set_option maxHeartbeats 1000000
theorem ready_bad_C (C : Cx (hd.heap_39 w.params) A₀ A base h₀ outer env L p loose mean mg mb 2) (F : Fr h₀ L s.heap m) (N : News h₀ L s.heap full)
    (Tk : Takes [(f, instObj 426 fx), (fx, fileO w φ), (φ.disk, instObj 587 dx), (dx, diskO w σ)] full rest) (D : (full.map (·.1)).Nodup)
    (ha : σ.alive = true) (hc : φ.closed = true)
    (hE : ∀ h' tk e, Flies base h₀ L m (env :: outer) (.ref 140) full [] [] e h' → R (.error (.ref e)) { s with heap := h', toks := tk }) :
    codeAny (model Challenge.rw_xm0852_01.row.prog w) A (.call (.ref 395) ⟨[.ref f], []⟩) R s := by
  refine ?whole
  k_extra "mine Dc"
  k_extra "mine enter"
  k_extra "mine until leaving"
  refine raise_out (cs' := [(f, _), (fx, _), (_, _), (dx, _)]) C.B C.hf (by assumption) (by assumption) (by assumption) (by assumption) (by assumption) (by assumption) Tk D (by k_extra "mine takes") (by rfl) fun h' Fl => ?_
  obtain ⟨G, t, vs, f1, f2, f3⟩ := Fl
  exact hE _ _ _ ⟨G, t, vs, f1, f2, fun l' P => by cases P; exact f3 _ (puts_id Tk)⟩
  run_tac Mine.Sh.shrink
theorem take_short_C {wanted : Int} {tw : Tok} (C : Cx (hd.heap_39 w.params) A₀ A base h₀ outer env L p loose mean mg mb 2) (F : Fr h₀ L s.heap m) (N : News h₀ L s.heap full)
    (Tk : Takes [(d, instObj 587 dx), (dx, diskO w σ)] full rest) (D : (full.map (·.1)).Nodup) (ha : σ.alive = true) (h0 : 0 ≤ σ.left) (hl : σ.left < wanted)
    (hk : ∀ h' tk tw' u0' u1', Fr h₀ L h' m → Back h₀ L h' full [(d, instObj 587 dx), (dx, diskO w σ)]
        [(d, instObj 587 dx), (dx, diskO w { σ with left := σ.left - σ.left, alive := false, spent := σ.spent + σ.left, u0 := u0', u1 := u1' })] →
      R (.ok (.ret (.int σ.left tw'))) { s with heap := h', toks := tk }) :
    codeAny (model Challenge.rw_xm0852_01.row.prog w) A (.call (.ref 465) ⟨[.ref d, .int wanted tw], []⟩) R s := by
  refine ?whole
  k_extra "mine Dc"
  k_extra "mine enter"
  k_extra "mine steps"
  exact hk _ _ _ _ _ (by assumption) (by k_extra "mine done")
  run_tac Mine.Sh.shrink
end
end Mine
example : True := by (k_with "cr" => first | (((show wpAny _ _ (call (Value.ref 465) _ _) _ _ _); (refine wpAny_call ?_); (k_dflt refine' Mine.take_short_C ?Cₖ91 ?Fₖ91 ?Nₖ91 ?Tkₖ91 ?Dₖ91 ?haₖ91 ?h0ₖ91 ?hlₖ91 ?_; (case Fₖ91 => k_asm); (case Nₖ91 => k_asm); (case Cₖ91 => k_extra "mine cx"); (case Tkₖ91 => k_extra "mine takes"); (case Dₖ91 => k_extra "mine D"); (case haₖ91 => (first | assumption | rfl)); (case h0ₖ91 => (first | assumption | k_extra "o")); (case hlₖ91 => (first | assumption | k_extra "o")); skip); intro h'ₖ tk'ₖ tw'ₖ u0'ₖ u1'ₖ F'ₖ N'ₖ ; (replace N'ₖ := N'ₖ.get (by k_extra "mine puts")); (try dsimp only [List.cons_append, List.nil_append] at N'ₖ); (try dsimp only); (try k_sweep))) | fail "no"); trivial
example : True := by (k_with "cr" => first | (((show wpAny _ _ (call (Value.ref 395) _ _) _ _ _); (refine wpAny_call ?_); (k_dflt refine' Mine.ready_bad_C ?Cₖ80 ?Fₖ80 ?Nₖ80 ?Tkₖ80 ?Dₖ80 ?haₖ80 ?hcₖ80 ?_; (case Fₖ80 => k_asm); (case Nₖ80 => k_asm); (case Cₖ80 => k_extra "mine cx"); (case Tkₖ80 => k_extra "mine takes"); (case Dₖ80 => k_extra "mine D"); (case haₖ80 => (first | assumption | rfl)); (case hcₖ80 => assumption); skip); intro h'ₖ tk'ₖ e'ₖ Fl'ₖ; (try dsimp only))) | fail "no"); trivial
namespace Mine
section
variable {w : World} {A₀ A : Around} {s : Shared} {base h₀ : Heap} {outer : List Env} {L : Addr} {m : Str → Option Value} {env : Env} {full rest : List (Addr × Obj)} {R : Result → Shared → Prop}
  {p : Program} {loose : List Str} {mean : ExcName → Option Value} {mg mb : Str → Option Value} {d dx f fx n nx ba : Addr} {σ : DiskS} {φ : FileS} {ν : NodeS} {b c : Array UInt8}
set_option maxRecDepth 100000
set_option maxHeartbeats 1000000
theorem one_short_C {what : Str} {wt : Tok} (C : Cx (hd.heap_39 w.params) A₀ A base h₀ outer env L p loose mean mg mb 3) (F : Fr h₀ L s.heap m) (N : News h₀ L s.heap full)
    (Tk : Takes [(d, instObj 587 dx), (dx, diskO w σ)] full rest) (D : (full.map (·.1)).Nodup) (ha : σ.alive = true) (hl : σ.left = 0) (hw : what.length ≤ 100)
    (hE : ∀ h' tk e u0' u1', Flies base h₀ L m (env :: outer) (.ref 128) full [(d, instObj 587 dx), (dx, diskO w σ)]
        [(d, instObj 587 dx), (dx, diskO w { σ with left := σ.left - σ.left, alive := false, spent := σ.spent + σ.left, u0 := u0', u1 := u1' })] e h' → R (.error (.ref e)) { s with heap := h', toks := tk }) :
    codeAny (model Challenge.rw_xm0852_01.row.prog w) A (.call (.ref 472) ⟨[.ref d, .str what wt], []⟩) R s := by
  refine ?whole
  k_extra "mine Dc"
  k_extra "mine enter"
  k_extra "mine until leaving"
  refine raise_out (cs' := [(d, instObj 587 dx), (dx, _)]) C.B C.hf (by assumption) (by assumption) (by assumption) (by assumption) (by assumption) (by assumption) Tk D (by k_extra "mine takes") (by rfl) fun h' Fl => ?_
  exact hE _ _ _ _ _ Fl
  run_tac Mine.Sh.shrink
end
end Mine
end
section
namespace Mine
section

variable {w : World} {A₀ A : Around} {s : Shared} {base h₀ : Heap} {outer : List Env} {L : Addr} {m : Str → Option Value} {env : Env} {full rest : List (Addr × Obj)} {R : Result → Shared → Prop}
  {p : Program} {loose : List Str} {mean : ExcName → Option Value} {mg mb : Str → Option Value} {d dx f fx n nx ba : Addr} {σ : DiskS} {φ : FileS} {ν : NodeS} {b c : Array UInt8}
set_option maxRecDepth 100000
set_option maxHeartbeats 1000000
theorem append_bad_C {t : Tok} (C : Cx (hd.heap_39 w.params) A₀ A base h₀ outer env L p loose mean mg mb 4) (F : Fr h₀ L s.heap m) (N : News h₀ L s.heap full)
    (Tk : Takes [(f, instObj 426 fx), (fx, fileO w φ), (φ.disk, instObj 587 dx), (dx, diskO w σ)] full rest) (D : (full.map (·.1)).Nodup)
    (ha : σ.alive = true) (hc : φ.closed = true)
    (hE : ∀ h' tk e, Flies base h₀ L m (env :: outer) (.ref 140) full [] [] e h' → R (.error (.ref e)) { s with heap := h', toks := tk }) :
    codeG (model Challenge.rw_xm0852_01.row.prog w) A (.call (.ref 402) ⟨[.ref f, .bytes c t], []⟩) R s := by
  refine ?whole
  k_extra "mine Dc"
  k_extra "mine enterG"
  refine g_cons_any ?_
  k_extra "mine until leaving"
  refine raise_on (cs' := [(f, _), (fx, _), (_, _), (dx, _)]) C.B C.hf (by assumption) (by assumption) (by assumption) (by assumption) (by k_extra "mine puts") Tk D (by k_extra "mine takes") (by rfl) fun h' Fl => ?_
  obtain ⟨G, t, vs, f1, f2, f3⟩ := Fl
  exact hE _ _ _ ⟨G, t, vs, f1, f2, fun l' P => by cases P; exact f3 _ (puts_id Tk)⟩
  run_tac Mine.Sh.shrink
theorem sync_bad_C (C : Cx (hd.heap_39 w.params) A₀ A base h₀ outer env L p loose mean mg mb 4) (F : Fr h₀ L s.heap m) (N : News h₀ L s.heap full)
    (Tk : Takes [(f, instObj 426 fx), (fx, fileO w φ), (φ.disk, instObj 587 dx), (dx, diskO w σ)] full rest) (D : (full.map (·.1)).Nodup)
    (ha : σ.alive = true) (hc : φ.closed = true)
    (hE : ∀ h' tk e, Flies base h₀ L m (env :: outer) (.ref 140) full [] [] e h' → R (.error (.ref e)) { s with heap := h', toks := tk }) :
    codeAny (model Challenge.rw_xm0852_01.row.prog w) A (.call (.ref 409) ⟨[.ref f], []⟩) R s := by
  refine ?whole
  k_extra "mine Dc"
  k_extra "mine enter"
  k_extra "mine until leaving"
  refine raise_on (cs' := [(f, _), (fx, _), (_, _), (dx, _)]) C.B C.hf (by assumption) (by assumption) (by assumption) (by assumption) (by k_extra "mine puts") Tk D (by k_extra "mine takes") (by rfl) fun h' Fl => ?_
  obtain ⟨G, t, vs, f1, f2, f3⟩ := Fl
  exact hE _ _ _ ⟨G, t, vs, f1, f2, fun l' P => by cases P; exact f3 _ (puts_id Tk)⟩
  run_tac Mine.Sh.shrink
end
end Mine
end
section
example : True := by (k_with "cr" => first | (((show wpAny _ _ (call (Value.ref 472) _ _) _ _ _); (refine wpAny_call ?_); (k_dflt refine' Mine.one_short_C ?Cₖ72 ?Fₖ72 ?Nₖ72 ?Tkₖ72 ?Dₖ72 ?haₖ72 ?hlₖ72 ?hwₖ72 ?_; (case Fₖ72 => k_asm); (case Nₖ72 => k_asm); (case Cₖ72 => k_extra "mine cx"); (case Tkₖ72 => k_extra "mine takes"); (case Dₖ72 => k_extra "mine D"); (case haₖ72 => (first | assumption | rfl)); (case hlₖ72 => assumption); (case hwₖ72 => (first | k_extra "o" | decide)); skip); intro h'ₖ tk'ₖ e'ₖ u0'ₖ u1'ₖ Fl'ₖ; (try dsimp only))) | fail "no"); trivial
namespace Mine
section
variable {w : World} {A₀ A : Around} {s : Shared} {base h₀ : Heap} {outer : List Env} {L : Addr} {m : Str → Option Value} {env : Env} {full rest : List (Addr × Obj)} {R : Result → Shared → Prop}
  {p : Program} {loose : List Str} {mean : ExcName → Option Value} {mg mb : Str → Option Value} {d dx f fx n nx ba : Addr} {σ : DiskS} {φ : FileS} {ν : NodeS} {b c : Bs}
set_option maxRecDepth 100000
set_option maxHeartbeats 1000000
theorem append_short_C {t : Tok} (C : Cx (hd.heap_39 w.params) A₀ A base h₀ outer env L p loose mean mg mb 4) (F : Fr h₀ L s.heap m) (N : News h₀ L s.heap full)
    (Tk : Takes [(f, instObj 426 fx), (fx, fileO w φ), (φ.disk, instObj 587 dx), (dx, diskO w σ), (φ.node, instObj 342 nx), (nx, nodeO w ν), (ν.ba, baO b.toArray)] full rest) (D : (full.map (·.1)).Nodup)
    (ha : σ.alive = true) (hc : φ.closed = false) (h0 : 0 ≤ σ.left) (hl : σ.left < (c.length : Int)) (hz : b.length + c.length ≤ 16777216)
    (hE : ∀ h' tk e u0' u1', Flies base h₀ L m (env :: outer) (.ref 128) full [(f, instObj 426 fx), (fx, fileO w φ), (φ.disk, instObj 587 dx), (dx, diskO w σ), (φ.node, instObj 342 nx), (nx, nodeO w ν), (ν.ba, baO b.toArray)]
        [(f, instObj 426 fx), (fx, fileO w φ), (φ.disk, instObj 587 dx), (dx, diskO w { σ with left := σ.left - σ.left, alive := false, spent := σ.spent + σ.left, u0 := u0', u1 := u1' }), (φ.node, instObj 342 nx), (nx, nodeO w ν), (ν.ba, baO (b ++ c.take σ.left.toNat).toArray)] e h' →
      R (.error (.ref e)) { s with heap := h', toks := tk }) :
    codeG (model Challenge.rw_xm0852_01.row.prog w) A (.call (.ref 402) ⟨[.ref f, .bytes c.toArray t], []⟩) R s := by
  refine ?whole
  k_extra "mine Dc"
  k_extra "mine enterG"
  refine g_cons_any ?_
  k_extra "mine steps"
  refine g_cons_any ?_
  k_extra "mine steps"
  refine g_cons_any ?_
  k_extra "mine steps"
  refine g_cons (g_if_any ?_)
  k_extra "mine steps"
  refine g_cons (g_expr (g_call_attr ?_))
  k_extra "mine steps"
  refine g_callWith_B (by intro a; exact Value.noConfusion) rfl (wpG_of_any ?_)
  k_extra "mine steps"
  refine' call_extend ?F ?N ?U ?hz ?_
  case F => k_asm
  case N => k_asm
  case U =>
    k_upd
  case hz => simp only [List.size_toArray, List.length_take]; k_extra "o"
  intro h' F' N'
  rw [List.append_toArray] at N'
  refine g_cons_any ?_
  k_extra "mine until leaving"
  refine raise_out (cs' := [(f, _), (fx, _), (_, _), (dx, _), (_, _), (nx, _), (_, _)]) C.B C.hf (by assumption) (by assumption) (by assumption) (by assumption) (by assumption) (by assumption) Tk D (by k_extra "mine takes") (by rfl) fun h' Fl => ?_
  exact hE _ _ _ _ _ Fl
  run_tac Mine.Sh.shrink
theorem sync_short_C (C : Cx (hd.heap_39 w.params) A₀ A base h₀ outer env L p loose mean mg mb 4) (F : Fr h₀ L s.heap m) (N : News h₀ L s.heap full)
    (Tk : Takes [(f, instObj 426 fx), (fx, fileO w φ), (φ.disk, instObj 587 dx), (dx, diskO w σ)] full rest) (D : (full.map (·.1)).Nodup)
    (ha : σ.alive = true) (hc : φ.closed = false) (hl : σ.left = 0)
    (hE : ∀ h' tk e u0' u1', Flies base h₀ L m (env :: outer) (.ref 128) full [(f, instObj 426 fx), (fx, fileO w φ), (φ.disk, instObj 587 dx), (dx, diskO w σ)]
        [(f, instObj 426 fx), (fx, fileO w φ), (φ.disk, instObj 587 dx), (dx, diskO w { σ with left := σ.left - σ.left, alive := false, spent := σ.spent + σ.left, u0 := u0', u1 := u1' })] e h' →
      R (.error (.ref e)) { s with heap := h', toks := tk }) :
    codeAny (model Challenge.rw_xm0852_01.row.prog w) A (.call (.ref 409) ⟨[.ref f], []⟩) R s := by
  refine ?whole
  k_extra "mine Dc"
  k_extra "mine enter"
  k_extra "mine until leaving"
  refine raise_on (cs' := [(f, _), (fx, _), (_, _), (dx, _)]) C.B C.hf (by assumption) (by assumption) (by assumption) (by assumption) (by k_extra "mine puts") Tk D (by k_extra "mine takes") (by rfl) fun h' Fl => ?_
  exact hE _ _ _ _ _ Fl
  run_tac Mine.Sh.shrink
end
end Mine
end
section
namespace Mine
section
variable {w : World} {A₀ A : Around} {s : Shared} {base h₀ : Heap} {outer : List Env} {L : Addr} {m : Str → Option Value} {env : Env} {full rest : List (Addr × Obj)} {R : Result → Shared → Prop}
  {p : Program} {loose : List Str} {mean : ExcName → Option Value} {mg mb : Str → Option Value} {d dx f fx n nx wr wx : Addr} {σ : DiskS} {φ : FileS} {ν : NodeS} {ω : WrS} {b c : Bs}
set_option maxRecDepth 100000
set_option maxHeartbeats 1000000
theorem append_A_C {t : Tok} (C : Cx (hd.heap_39 w.params) A₀ A base h₀ outer env L p loose mean mg mb 4) (F : Fr h₀ L s.heap m) (N : News h₀ L s.heap full)
    (Tk : Takes [(f, instObj 426 fx), (fx, fileO w φ), (φ.disk, instObj 587 dx), (dx, diskO w σ), (φ.node, instObj 342 nx), (nx, nodeO w ν), (ν.ba, baO b.toArray)] full rest) (D : (full.map (·.1)).Nodup)
    (ha : σ.alive = true) (hz : b.length + c.length ≤ 16777216)
    (hk : φ.closed = false → (σ.left < 0 ∨ (c.length : Int) ≤ σ.left) → ∀ h' tk left' u0' u1', (σ.left < 0 → left' = σ.left) → (0 ≤ σ.left → left' = σ.left - c.length) → Fr h₀ L h' m →
      Back h₀ L h' full [(f, instObj 426 fx), (fx, fileO w φ), (φ.disk, instObj 587 dx), (dx, diskO w σ), (φ.node, instObj 342 nx), (nx, nodeO w ν), (ν.ba, baO b.toArray)]
        [(f, instObj 426 fx), (fx, fileO w φ), (φ.disk, instObj 587 dx), (dx, diskO w { σ with left := left', spent := σ.spent + c.length, u0 := u0', u1 := u1' }), (φ.node, instObj 342 nx), (nx, nodeO w ν), (ν.ba, baO (b ++ c).toArray)] →
      R (.ok (.ret .none)) { s with heap := h', toks := tk })
    (hB : φ.closed = true → ∀ h' tk e, Flies base h₀ L m (env :: outer) (.ref 140) full [] [] e h' → R (.error (.ref e)) { s with heap := h', toks := tk })
    (hS : φ.closed = false → 0 ≤ σ.left → σ.left < (c.length : Int) → ∀ h' tk e u0' u1', Flies base h₀ L m (env :: outer) (.ref 128) full [(f, instObj 426 fx), (fx, fileO w φ), (φ.disk, instObj 587 dx), (dx, diskO w σ), (φ.node, instObj 342 nx), (nx, nodeO w ν), (ν.ba, baO b.toArray)]
        [(f, instObj 426 fx), (fx, fileO w φ), (φ.disk, instObj 587 dx), (dx, diskO w { σ with left := σ.left - σ.left, alive := false, spent := σ.spent + σ.left, u0 := u0', u1 := u1' }), (φ.node, instObj 342 nx), (nx, nodeO w ν), (ν.ba, baO (b ++ c.take σ.left.toNat).toArray)] e h' →
      R (.error (.ref e)) { s with heap := h', toks := tk }) :
    codeG (model Challenge.rw_xm0852_01.row.prog w) A (.call (.ref 402) ⟨[.ref f, .bytes c.toArray t], []⟩) R s := by
  refine ?whole
  cases hc : φ.closed with
  | true =>
    obtain ⟨r4, _, Tk4⟩ := Tk4 Tk
    exact append_bad_C C F N Tk4 D ha hc fun h' tk e Fl => hB hc h' tk e Fl
  | false =>
    by_cases hl : σ.left < 0 ∨ (c.length : Int) ≤ σ.left
    · exact append_C C F N Tk D ha hc (by rw [List.size_toArray]; exact hl) (by rw [List.size_toArray, List.size_toArray]; exact hz) fun h' tk left' u0' u1' h1 h2 F' B' => by
        rw [List.size_toArray] at h2 B'
        rw [List.append_toArray] at B'
        exact hk hc hl h' tk left' u0' u1' h1 h2 F' B'
    · exact append_short_C C F N Tk D ha hc (by k_extra "o") (by k_extra "o") hz fun h' tk e u0' u1' Fl => hS hc (by k_extra "o") (by k_extra "o") h' tk e u0' u1' Fl
  run_tac Mine.Sh.shrink
theorem put_C {t : Tok} (C : Cx (hd.heap_39 w.params) A₀ A base h₀ outer env L p loose mean mg mb 5) (F : Fr h₀ L s.heap m) (N : News h₀ L s.heap full)
    (Tk : Takes [(wr, instObj 244 wx), (wx, wrO w ω), (ω.file, instObj 426 fx), (fx, fileO w φ), (φ.disk, instObj 587 dx), (dx, diskO w σ), (φ.node, instObj 342 nx), (nx, nodeO w ν), (ν.ba, baO b.toArray)] full rest) (D : (full.map (·.1)).Nodup)
    (ha : σ.alive = true) (hz : b.length + c.length ≤ 16777216)
    (hk : φ.closed = false → (σ.left < 0 ∨ (c.length : Int) ≤ σ.left) → ∀ h' tk left' u0' u1' u3', (σ.left < 0 → left' = σ.left) → (0 ≤ σ.left → left' = σ.left - c.length) → Fr h₀ L h' m →
      Back h₀ L h' full [(wr, instObj 244 wx), (wx, wrO w ω), (ω.file, instObj 426 fx), (fx, fileO w φ), (φ.disk, instObj 587 dx), (dx, diskO w σ), (φ.node, instObj 342 nx), (nx, nodeO w ν), (ν.ba, baO b.toArray)]
        [(wr, instObj 244 wx), (wx, wrO w { ω with length := ω.length + c.length, u3 := u3' }), (ω.file, instObj 426 fx), (fx, fileO w φ), (φ.disk, instObj 587 dx), (dx, diskO w { σ with left := left', spent := σ.spent + c.length, u0 := u0', u1 := u1' }), (φ.node, instObj 342 nx), (nx, nodeO w ν), (ν.ba, baO (b ++ c).toArray)] →
      R (.ok (.ret .none)) { s with heap := h', toks := tk })
    (hB : φ.closed = true → ∀ h' tk e, Flies base h₀ L m (env :: outer) (.ref 140) full [] [] e h' → R (.error (.ref e)) { s with heap := h', toks := tk })
    (hS : φ.closed = false → 0 ≤ σ.left → σ.left < (c.length : Int) → ∀ h' tk e u0' u1', Flies base h₀ L m (env :: outer) (.ref 128) full [(wr, instObj 244 wx), (wx, wrO w ω), (ω.file, instObj 426 fx), (fx, fileO w φ), (φ.disk, instObj 587 dx), (dx, diskO w σ), (φ.node, instObj 342 nx), (nx, nodeO w ν), (ν.ba, baO b.toArray)]
        [(wr, instObj 244 wx), (wx, wrO w ω), (ω.file, instObj 426 fx), (fx, fileO w φ), (φ.disk, instObj 587 dx), (dx, diskO w { σ with left := σ.left - σ.left, alive := false, spent := σ.spent + σ.left, u0 := u0', u1 := u1' }), (φ.node, instObj 342 nx), (nx, nodeO w ν), (ν.ba, baO (b ++ c.take σ.left.toNat).toArray)] e h' →
      R (.error (.ref e)) { s with heap := h', toks := tk }) :
    codeG (model Challenge.rw_xm0852_01.row.prog w) A (.call (.ref 227) ⟨[.ref wr, .bytes c.toArray t], []⟩) R s := by
  refine ?whole
  k_extra "mine Dc"
  k_extra "mine enterG"
  refine g_cons (g_expr (g_call_attr ?_))
  k_extra "mine steps"
  refine g_callWith_K (K := hd.heap_39 w.params) (by k_is) rfl ?_
  refine g_args_any ?_
  k_extra "mine steps"
  refine g_args_nil ?_
  refine ⟨by k_in, ?_⟩
  dsimp only
  refine wpG_call ?_
  refine' append_A_C (c := c) ?C ?F ?N ?Tk ?D ha hz ?hk ?hB ?hS
  case C => k_extra "mine cx"
  case F => k_asm
  case N => k_asm
  case Tk => k_extra "mine takes"
  case D => k_extra "mine D"
  case hk =>
    intro hc hl h' tk left' u0' u1' h1 h2 F' N'
    replace N' := N'.get (by k_extra "mine puts")
    try dsimp only
    refine g_cons_any ?_
    k_extra "mine steps"
    refine g_nil ?_
    k_extra "mine leave"
    exact hk hc hl _ _ _ _ _ _ h1 h2 (by assumption) (by k_extra "mine done")
  case hB =>
    intro hc h' tk e Fl
    try dsimp only
    refine raise_on (cs' := [(wr, _), (wx, _), (_, _), (fx, _), (_, _), (dx, _), (_, _), (nx, _), (_, _)]) C.B C.hf (by assumption) (by assumption) (by assumption) (by assumption) (by k_extra "mine puts") Tk D (by k_extra "mine takes") (by rfl) fun h' Fl => ?_
    obtain ⟨G, t, vs, f1, f2, f3⟩ := Fl
    exact hB hc _ _ _ ⟨G, t, vs, f1, f2, fun l' P => by cases P; exact f3 _ (puts_id Tk)⟩
  case hS =>
    intro hc h0 hl h' tk e u0' u1' Fl
    try dsimp only
    refine raise_on (cs' := [(wr, _), (wx, _), (_, _), (fx, _), (_, _), (dx, _), (_, _), (nx, _), (_, _)]) C.B C.hf (by assumption) (by assumption) (by assumption) (by assumption) (by k_extra "mine puts") Tk D (by k_extra "mine takes") (by rfl) fun h' Fl => ?_
    exact hS hc h0 hl _ _ _ _ _ Fl
  run_tac Mine.Sh.shrink
end
end Mine
end
section
set_option maxRecDepth 100000
namespace Mine
structure AddSt (check : Int) (bl ln : Nat) (rec : Bs) (j at_ : Nat) (wr : Bs) (ended : Bool) : Prop where
  j_le : j ≤ (partsOf bl ln rec).length
  wr_eq : wr = if j = 0 then [] else zeros bl ln ++ fragsTo check (partsOf bl ln rec) j
  at_le : at_ ≤ rec.length
  at0 : j = 0 → at_ = 0 ∧ ended = false
  drop : 0 < j → (partsOf bl ln rec).drop j = chunks (bl - 7) (rec.drop at_)
  end_iff : 0 < j → (ended = true ↔ at_ = rec.length)
  full : 0 < j → ended = false → (ln + wr.length) % bl = 0
theorem AddSt.start (check : Int) (bl ln : Nat) (rec : Bs) : AddSt check bl ln rec 0 0 [] false :=
  ⟨Nat.zero_le _, rfl, Nat.zero_le _, fun _ => ⟨rfl, rfl⟩, fun h => absurd h (Nat.lt_irrefl _), fun h => absurd h (Nat.lt_irrefl _), fun h => absurd h (Nat.lt_irrefl _)⟩
theorem room_mod (bl ln : Nat) (h : 0 < bl) : (ln + room bl ln) % bl = 0 := by
  unfold room
  have h1 := Nat.div_add_mod ln bl
  have h2 := Nat.mod_lt ln h
  have : ln + (bl - ln % bl) = bl * (ln / bl + 1) := by rw [Nat.mul_add]; k_extra "o"
  rw [this, Nat.mul_mod_right]
theorem chunks_eq_nil {k : Nat} (hk : k ≠ 0) {r : Bs} : chunks k r = [] ↔ r.length = 0 := by
  constructor
  · intro h
    by_cases hr : r.length = 0
    · exact hr
    · rw [chunks_cons hk hr] at h; cases h
  · exact chunks_nil
theorem drop_min (rec : Bs) (n : Nat) : rec.drop (min rec.length n) = rec.drop n := by
  by_cases h : n ≤ rec.length
  · rw [Nat.min_eq_right h]
  · rw [Nat.min_eq_left (by k_extra "o"), List.drop_eq_nil_of_le (by k_extra "o"), List.drop_eq_nil_of_le (by k_extra "o")]
theorem cut_min (rec : Bs) (a k : Nat) (ha : a ≤ rec.length) : cut rec a (min rec.length (a + k)) = (rec.drop a).take k := by
  unfold cut
  by_cases h : a + k ≤ rec.length
  · rw [Nat.min_eq_right h, Nat.add_sub_cancel_left]
  · rw [Nat.min_eq_left (by k_extra "o"), List.take_of_length_le (by rw [List.length_drop]; exact Nat.le_refl _), List.take_of_length_le (by rw [List.length_drop]; k_extra "o")]
theorem cap_add (bl ln : Nat) (h8 : 8 ≤ bl) : cap bl ln + 7 = (if room bl ln < 7 then bl else room bl ln) := by
  unfold cap
  split <;> k_extra "o"
theorem AddSt.step {check : Int} {bl ln : Nat} {rec : Bs} {j at_ : Nat} {wr : Bs} (h8 : 8 ≤ bl) (S : AddSt check bl ln rec j at_ wr false)
    {rm : Nat} (hrm : rm = bl - (ln + wr.length) % bl) {z : Bs} (hz : z = if rm < 7 then List.replicate rm 0 else []) {r1 : Nat} (hr1 : r1 = if rm < 7 then bl else rm) {upto : Nat} (hu : upto = min rec.length (at_ + (r1 - 7)))
    {kind : Int} (hkd : kind = if 0 < j then (if upto = rec.length then 4 else 3) else (if upto = rec.length then 1 else 2)) :
    AddSt check bl ln rec (j + 1) upto (wr ++ z ++ frag check kind.toNat.toUInt8 (cut rec at_ upto)) (decide (upto = rec.length)) := by
  refine ?whole
  have hk : bl - 7 ≠ 0 := by k_extra "o"
  by_cases hj : j = 0
  · subst hj
    obtain ⟨rfl, -⟩ := S.at0 rfl
    have hw : wr = [] := S.wr_eq
    subst hw
    have hrm' : rm = room bl ln := by rw [hrm]; rfl
    have hz' : z = zeros bl ln := by rw [hz, hrm']; rfl
    have hr1' : r1 = cap bl ln + 7 := by rw [hr1, hrm', cap_add bl ln h8]
    have hu' : upto = min rec.length (0 + cap bl ln) := by rw [hu, hr1']; congr 1
    have hc : cut rec 0 upto = rec.take (cap bl ln) := by rw [hu', cut_min rec 0 _ (Nat.zero_le _)]; rfl
    have hd : rec.drop upto = rec.drop (cap bl ln) := by rw [hu', drop_min, Nat.zero_add]
    have hul : upto ≤ rec.length := by k_extra "o"
    have hend : upto = rec.length ↔ (rec.drop (cap bl ln)).length = 0 := by rw [List.length_drop]; k_extra "o"
    have hpl : (partsOf bl ln rec).length = 1 + (chunks (bl - 7) (rec.drop (cap bl ln))).length := by unfold partsOf; rw [List.length_cons]; k_extra "o"
    have h1 : (partsOf bl ln rec).length = 1 ↔ upto = rec.length := by
      rw [hend, ← chunks_eq_nil hk, ← List.length_eq_zero_iff, hpl]; k_extra "o"
    have hko : kind = kindOf (partsOf bl ln rec).length 0 := by
      rw [hkd]; unfold kindOf
      rw [if_neg (Nat.lt_irrefl 0)]
      by_cases he : upto = rec.length
      · rw [if_pos he, if_pos (h1.mpr he)]
      · rw [if_neg he, if_neg (fun q => he (h1.mp q)), if_pos rfl]
    have hf : frag check kind.toNat.toUInt8 (cut rec 0 upto) = fragOf check (partsOf bl ln rec) 0 := by
      rw [hko, hc]; rfl
    refine ⟨by rw [hpl]; k_extra "o", ?_, hul, fun q => absurd q (by k_extra "o"), fun _ => ?_, fun _ => by simp, fun _ he => ?_⟩
    · rw [if_neg (by k_extra "o"), hf, hz', frags_succ]; rfl
    · rw [hd]; rfl
    · have hne : upto ≠ rec.length := of_decide_eq_false he
      have hcl : (cut rec 0 upto).length = cap bl ln := by
        rw [hc, List.length_take]; k_extra "o"
      simp only [List.nil_append, List.length_append, frag_len, hcl, hz']
      have hm := room_mod bl ln (by k_extra "o")
      have hcap := cap_add bl ln h8
      unfold zeros
      by_cases hr : room bl ln < 7
      · rw [if_pos hr] at hcap ⊢
        rw [List.length_replicate, show ln + (room bl ln + (cap bl ln + 7)) = (ln + room bl ln) + bl by k_extra "o", Nat.add_mod_right]; exact hm
      · rw [if_neg hr] at hcap ⊢
        rw [List.length_nil, hcap, Nat.zero_add]; exact hm
  · have hj' : 0 < j := by k_extra "o"
    have hfull := S.full hj' rfl
    have hdrop := S.drop hj'
    have hne : at_ ≠ rec.length := fun q => by have := (S.end_iff hj').mpr q; cases this
    have hlt : at_ < rec.length := Nat.lt_of_le_of_ne S.at_le hne
    have hrm' : rm = bl := by rw [hrm, hfull]; rfl
    have hz' : z = [] := by rw [hz, if_neg (by k_extra "o")]
    have hr1' : r1 = bl := by rw [hr1, if_neg (by k_extra "o")]; exact hrm'
    have hu' : upto = min rec.length (at_ + (bl - 7)) := by rw [hu, hr1']
    have hc : cut rec at_ upto = (rec.drop at_).take (bl - 7) := by rw [hu', cut_min rec at_ _ S.at_le]
    have hd : rec.drop upto = (rec.drop at_).drop (bl - 7) := by rw [hu', drop_min, List.drop_drop]
    have hul : upto ≤ rec.length := by k_extra "o"
    have hrl : (rec.drop at_).length ≠ 0 := by rw [List.length_drop]; k_extra "o"
    rw [chunks_cons hk hrl] at hdrop
    have hjl : j < (partsOf bl ln rec).length := by
      have := congrArg List.length hdrop
      rw [List.length_drop, List.length_cons] at this
      k_extra "o"
    have hge : (partsOf bl ln rec).getD j [] = (rec.drop at_).take (bl - 7) := by
      have : ((partsOf bl ln rec).drop j)[0]? = some ((rec.drop at_).take (bl - 7)) := by rw [hdrop]; rfl
      rw [List.getElem?_drop, Nat.add_zero] at this
      rw [List.getD_eq_getElem?_getD, this]; rfl
    have hds : (partsOf bl ln rec).drop (j + 1) = chunks (bl - 7) (rec.drop upto) := by
      rw [hd, ← List.tail_drop, hdrop]; rfl
    have hend : upto = rec.length ↔ (rec.drop upto).length = 0 := by rw [List.length_drop]; k_extra "o"
    have h1 : j + 1 = (partsOf bl ln rec).length ↔ upto = rec.length := by
      rw [hend, ← chunks_eq_nil hk, ← hds, List.drop_eq_nil_iff]; k_extra "o"
    have hko : kind = kindOf (partsOf bl ln rec).length j := by
      rw [hkd]; unfold kindOf
      have n1 : ¬ (partsOf bl ln rec).length = 1 := by k_extra "o"
      rw [if_pos hj', if_neg n1, if_neg hj]
      by_cases he : upto = rec.length
      · rw [if_pos he, if_pos (h1.mpr he)]
      · rw [if_neg he, if_neg (fun q => he (h1.mp q))]
    have hf : frag check kind.toNat.toUInt8 (cut rec at_ upto) = fragOf check (partsOf bl ln rec) j := by
      unfold fragOf
      rw [hko, hc, hge]
    refine ⟨hjl, ?_, hul, fun q => absurd q (by k_extra "o"), fun _ => hds, fun _ => by simp, fun _ he => ?_⟩
    · rw [if_neg (by k_extra "o"), hf, hz', frags_succ, List.append_nil, S.wr_eq, if_neg hj, List.append_assoc]
    · have hne : upto ≠ rec.length := of_decide_eq_false he
      have hcl : (cut rec at_ upto).length = bl - 7 := by
        rw [hc, List.length_take, List.length_drop]; k_extra "o"
      simp only [List.length_append, frag_len, hcl, hz', List.length_nil]
      rw [show ln + (wr.length + 0 + (bl - 7 + 7)) = (ln + wr.length) + bl by k_extra "o", Nat.add_mod_right]
      exact hfull
  run_tac Mine.Sh.shrink
theorem frags_prefix (check : Int) (ps : List Bs) (j : Nat) : ∀ d, ∃ t, fragsTo check ps (j + d) = fragsTo check ps j ++ t
  | 0 => ⟨[], by simp⟩
  | d + 1 => by
    obtain ⟨t, h⟩ := frags_prefix check ps j d
    exact ⟨t ++ fragOf check ps (j + d), by rw [show j + (d + 1) = (j + d) + 1 by k_extra "o", frags_succ, h, List.append_assoc]⟩
theorem AddSt.pre {check : Int} {bl ln : Nat} {rec : Bs} {j at_ : Nat} {wr : Bs} {e : Bool} (S : AddSt check bl ln rec j at_ wr e) : ∃ t, laid check bl ln rec = wr ++ t := by
  rw [S.wr_eq]
  by_cases hj : j = 0
  · exact ⟨_, by rw [if_pos hj]; rfl⟩
  · rw [if_neg hj]
    obtain ⟨t, h⟩ := frags_prefix check (partsOf bl ln rec) j ((partsOf bl ln rec).length - j)
    rw [show j + ((partsOf bl ln rec).length - j) = (partsOf bl ln rec).length by have := S.j_le; k_extra "o"] at h
    exact ⟨t, by unfold laid; rw [h, List.append_assoc]⟩
theorem AddSt.fin {check : Int} {bl ln : Nat} {rec : Bs} {j at_ : Nat} {wr : Bs} (S : AddSt check bl ln rec j at_ wr true) : wr = laid check bl ln rec := by
  have hj : j ≠ 0 := fun q => by have := (S.at0 q).2; cases this
  have hat := (S.end_iff (by k_extra "o")).mp rfl
  have hd := S.drop (by k_extra "o")
  rw [hat, chunks_nil (by rw [List.length_drop]; k_extra "o"), List.drop_eq_nil_iff] at hd
  have := S.j_le
  rw [S.wr_eq, if_neg hj, show j = (partsOf bl ln rec).length by k_extra "o"]; rfl
theorem AddSt.more {check : Int} {bl ln : Nat} {rec : Bs} {j at_ : Nat} {wr : Bs} (S : AddSt check bl ln rec j at_ wr false) : at_ < rec.length ∨ j = 0 := by
  by_cases hj : j = 0
  · exact .inr hj
  · refine .inl (Nat.lt_of_le_of_ne S.at_le fun q => ?_)
    have := (S.end_iff (by k_extra "o")).mpr q
    cases this
theorem laid_len {check : Int} {bl ln : Nat} {rec : Bs} (h8 : 8 ≤ bl) (hr : rec.length ≤ 100) : (laid check bl ln rec).length ≤ 20000 := by
  unfold laid
  rw [List.length_append]
  have h1 := zeros_len bl ln
  have h2 := frags_len (check := check) (ps := partsOf bl ln rec) (fun j => Nat.le_trans (parts_le j) hr) (partsOf bl ln rec).length
  have h3 := partsOf_len (rec := rec) (ln := ln) h8
  k_extra "o"
theorem take_mid {w c t l : Bs} {n : Nat} (h : l = w ++ c ++ t) (h1 : w.length ≤ n) (h2 : n - w.length ≤ c.length) : w ++ c.take (n - w.length) = l.take n := by
  rw [h, List.append_assoc, List.take_append, List.take_append]
  rw [List.take_of_length_le h1, show n - w.length - c.length = 0 by k_extra "o"]
  simp
end Mine
end
section
example : True := by (k_with "cr" => first | (((show wpAny _ _ (call (Value.ref 206) _ _) _ _ _); (refine wpAny_call ?_); (k_dflt refine' Mine.make_fragment_C ?Cₖ67 ?Fₖ67 ?Nₖ67 ?hcₖ67 ?h0ₖ67 ?h1ₖ67 ?hzₖ67 ?_; (case Fₖ67 => k_asm); (case Nₖ67 => k_asm); (case Cₖ67 => k_extra "mine cx"); (case hcₖ67 => assumption); (case h0ₖ67 => (first | assumption | k_extra "o")); (case h1ₖ67 => (first | assumption | k_extra "o")); (case hzₖ67 => k_extra "mine size"); skip); intro h'ₖ tk'ₖ t'ₖ F'ₖ N'ₖ; (try dsimp only); (try k_sweep))) | fail "no"); trivial
example : True := by (k_with "mine gmethod" => first | ((refine Mine.g_expr (Mine.g_call_attr ?_); k_extra "mine steps")) | fail "no"); trivial
namespace Mine
section
variable {w : World} {A₀ A : Around} {s : Shared} {base h₀ : Heap} {outer : List Env} {L : Addr} {m : Str → Option Value} {env : Env} {full rest : List (Addr × Obj)} {R : Result → Shared → Prop}
  {p : Program} {loose : List Str} {mean : ExcName → Option Value} {mg mb : Str → Option Value} {d dx f fx n nx wr wx : Addr} {σ : DiskS} {φ : FileS} {ν : NodeS} {ω : WrS} {b rec : Bs}
set_option maxRecDepth 100000
set_option maxHeartbeats 1000000
theorem add_C {t : Tok} {ln bl : Nat} (C : Cx (hd.heap_39 w.params) A₀ A base h₀ outer env L p loose mean mg mb 6) (F : Fr h₀ L s.heap m) (N : News h₀ L s.heap full)
    (Tk : Takes [(wr, instObj 244 wx), (wx, wrO w ω), (ω.file, instObj 426 fx), (fx, fileO w φ), (φ.disk, instObj 587 dx), (dx, diskO w σ), (φ.node, instObj 342 nx), (nx, nodeO w ν), (ν.ba, baO b.toArray)] full rest) (D : (full.map (·.1)).Nodup)
    (ha : σ.alive = true) (hc : ω.check = 1 ∨ ω.check = 2) (hln : ω.length = (ln : Int)) (hbl : ω.block = (bl : Int)) (h8 : 8 ≤ bl) (h41 : bl ≤ 41) (hr : rec.length ≤ 100) (hz : b.length ≤ 1000000)
    (hk : φ.closed = false → (σ.left < 0 ∨ ((laid ω.check bl ln rec).length : Int) ≤ σ.left) → ∀ h' tk left' sp' u0' u1' u3', (σ.left < 0 → left' = σ.left) → (0 ≤ σ.left → left' = σ.left - (laid ω.check bl ln rec).length) → Fr h₀ L h' m →
      Back h₀ L h' full [(wr, instObj 244 wx), (wx, wrO w ω), (ω.file, instObj 426 fx), (fx, fileO w φ), (φ.disk, instObj 587 dx), (dx, diskO w σ), (φ.node, instObj 342 nx), (nx, nodeO w ν), (ν.ba, baO b.toArray)]
        [(wr, instObj 244 wx), (wx, wrO w { ω with length := ω.length + (laid ω.check bl ln rec).length, u3 := u3' }), (ω.file, instObj 426 fx), (fx, fileO w φ), (φ.disk, instObj 587 dx), (dx, diskO w { σ with left := left', spent := sp', u0 := u0', u1 := u1' }), (φ.node, instObj 342 nx), (nx, nodeO w ν), (ν.ba, baO (b ++ laid ω.check bl ln rec).toArray)] →
      R (.ok (.ret .none)) { s with heap := h', toks := tk })
    (hB : φ.closed = true → ∀ h' tk e left' sp' u0' u1' u3', (σ.left < 0 → left' = σ.left) → Flies base h₀ L m (env :: outer) (.ref 140) full [(wr, instObj 244 wx), (wx, wrO w ω), (ω.file, instObj 426 fx), (fx, fileO w φ), (φ.disk, instObj 587 dx), (dx, diskO w σ), (φ.node, instObj 342 nx), (nx, nodeO w ν), (ν.ba, baO b.toArray)]
        [(wr, instObj 244 wx), (wx, wrO w { ω with u3 := u3' }), (ω.file, instObj 426 fx), (fx, fileO w φ), (φ.disk, instObj 587 dx), (dx, diskO w { σ with left := left', spent := sp', u0 := u0', u1 := u1' }), (φ.node, instObj 342 nx), (nx, nodeO w ν), (ν.ba, baO b.toArray)] e h' → R (.error (.ref e)) { s with heap := h', toks := tk })
    (hS : φ.closed = false → 0 ≤ σ.left → σ.left < ((laid ω.check bl ln rec).length : Int) → ∀ h' tk e le' sp' len' u0' u1' u3', Flies base h₀ L m (env :: outer) (.ref 128) full [(wr, instObj 244 wx), (wx, wrO w ω), (ω.file, instObj 426 fx), (fx, fileO w φ), (φ.disk, instObj 587 dx), (dx, diskO w σ), (φ.node, instObj 342 nx), (nx, nodeO w ν), (ν.ba, baO b.toArray)]
        [(wr, instObj 244 wx), (wx, wrO w { ω with length := len', u3 := u3' }), (ω.file, instObj 426 fx), (fx, fileO w φ), (φ.disk, instObj 587 dx), (dx, diskO w { σ with left := le', alive := false, spent := sp', u0 := u0', u1 := u1' }), (φ.node, instObj 342 nx), (nx, nodeO w ν), (ν.ba, baO (b ++ (laid ω.check bl ln rec).take σ.left.toNat).toArray)] e h' →
      R (.error (.ref e)) { s with heap := h', toks := tk }) :
    codeG (model Challenge.rw_xm0852_01.row.prog w) A (.call (.ref 234) ⟨[.ref wr, .bytes rec.toArray t], []⟩) R s := by
  refine ?whole
  k_extra "mine Dc"
  k_extra "mine enterG"
  refine g_cons_any ?_
  k_extra "mine steps"
  refine g_cons_any ?_
  k_extra "mine steps"
  refine g_cons_any ?_
  k_extra "mine steps"
  refine g_cons_any ?_
  k_extra "mine steps"
  rename Fr _ _ _ _ => lF
  rename News _ _ _ _ => lN
  refine g_cons ?_
  refine' while_JG (fun q m l => ∃ j a wt en len' bb left' sp' u0' u1' u3' ta tb, q = 300 - j ∧ l = [(wr, instObj 244 wx), (wx, wrO w { ω with length := len', u3 := u3' }), (ω.file, instObj 426 fx), (fx, fileO w φ), (φ.disk, instObj 587 dx), (dx, diskO w { σ with left := left', spent := sp', u0 := u0', u1 := u1' }), (φ.node, instObj 342 nx), (nx, nodeO w ν), (ν.ba, baO (List.toArray bb))] ∧
    len' = ω.length + (List.length wt : Nat) ∧ bb = b ++ wt ∧ AddSt ω.check bl ln rec j a wt en ∧ (σ.left < 0 → left' = σ.left) ∧ (0 ≤ σ.left → left' = σ.left - (List.length wt : Nat) ∧ 0 ≤ left') ∧ (0 < j → φ.closed = false) ∧
    m (Str.ofString "self") = some (.ref wr) ∧ m (Str.ofString "octets") = some (.bytes rec.toArray t) ∧ m (Str.ofString "size") = some (.int (rec.length : Int) ta) ∧ m (Str.ofString "at") = some (.int (a : Nat) tb) ∧ m (Str.ofString "begun") = some (.bool (decide (0 < j))) ∧ m (Str.ofString "ended") = some (.bool en)) ⟨0, 0, [], false, ω.length, b, σ.left, σ.spent, σ.u0, σ.u1, ω.u3, _, _, rfl, rfl, by simp, by simp, AddSt.start _ _ _ _, fun _ => rfl, ?e1, fun h => absurd h (Nat.lt_irrefl _), rfl, rfl, rfl, rfl, rfl, rfl⟩ lF lN ?turn
  case e1 => intro h; exact ⟨by simp, h⟩
  case turn =>
    clear lF lN
    have hb0 : ω.block ≠ 0 := by k_extra "o"
    rintro q m1 l1 h tk ⟨j, a, wt, en, len', bb, left', sp', u0', u1', u3', ta, tb, rfl, rfl, hlen, hbb, S, hl1, hl2, hcl, e1, e2, e3, e4, e5, e6⟩ F' N'
    replace F' := fr_hasL (.cons e1 (.cons e2 (.cons e3 (.cons e4 (.cons e5 (.cons e6 .nil)))))) F'
    dsimp only [frL] at F'
    try dsimp only
    have hjl := S.j_le
    have hpl := partsOf_len (rec := rec) (ln := ln) h8
    obtain ⟨tl, htl⟩ := S.pre
    have hwl : wt.length ≤ 20000 := by
      have h1 := laid_len (check := ω.check) (bl := bl) (ln := ln) (rec := rec) h8 hr
      rw [htl, List.length_append] at h1
      k_extra "o"
    k_extra "mine steps"
    cases en with
    | true =>
      refine WhlIf.no rfl ?_
      try dsimp only
      refine g_nil ?_
      k_extra "mine leave"
      have hw := S.fin
      subst hw
      subst hlen
      subst hbb
      have hj0 : 0 < j := by
        rcases Nat.eq_zero_or_pos j with q | q
        · have := (S.at0 q).2; cases this
        · exact q
      exact hk (hcl hj0) (by rcases Int.lt_or_le σ.left 0 with q | q; exact .inl q; exact .inr (by obtain ⟨q1, q2⟩ := hl2 q; rw [q1] at q2; exact Int.le_of_sub_nonneg q2)) _ _ _ _ _ _ _ hl1 (fun q => (hl2 q).1) (by assumption) (by k_extra "mine done")
    | false =>
      refine WhlIf.yes rfl ?_
      have hm : len'.fmod ω.block = (((ln + wt.length) % bl : Nat) : Int) := by rw [hlen, hln, hbl, Int.fmod_eq_emod_of_nonneg _ (by k_extra "o"), ← Int.natCast_add]; rfl
      have hlt : (ln + wt.length) % bl < bl := Nat.mod_lt _ (by k_extra "o")
      have S' := S.step h8 rfl rfl rfl rfl rfl
      generalize hr0 : (ln + wt.length) % bl = r0 at hm hlt S'
      refine g_cons_any ?_
      k_extra "mine steps"
      try dsimp only
      rename Fr _ _ _ _ => lF
      refine g_cons ?_
      refine' join_JG lF (fun m l => ∃ z r1 len'' bb'' left'' sp'' u0'' u1'' u3'' td, z = (if bl - r0 < 7 then List.replicate (bl - r0) 0 else []) ∧ r1 = (if bl - r0 < 7 then bl else bl - r0) ∧
        l = [(wr, instObj 244 wx), (wx, wrO w { ω with length := len'', u3 := u3'' }), (ω.file, instObj 426 fx), (fx, fileO w φ), (φ.disk, instObj 587 dx), (dx, diskO w { σ with left := left'', spent := sp'', u0 := u0'', u1 := u1'' }), (φ.node, instObj 342 nx), (nx, nodeO w ν), (ν.ba, baO (List.toArray bb''))] ∧ len'' = ω.length + (List.length (wt ++ z) : Nat) ∧ bb'' = b ++ (wt ++ z) ∧
        (σ.left < 0 → left'' = σ.left) ∧ (0 ≤ σ.left → left'' = σ.left - (List.length (wt ++ z) : Nat) ∧ 0 ≤ left'') ∧ (0 < j → φ.closed = false) ∧ (φ.closed = true → wt ++ z = []) ∧
        m (Str.ofString "self") = some (.ref wr) ∧ m (Str.ofString "octets") = some (.bytes rec.toArray t) ∧ m (Str.ofString "size") = some (.int (rec.length : Int) ta) ∧ m (Str.ofString "at") = some (.int (a : Nat) tb) ∧ m (Str.ofString "begun") = some (.bool (decide (0 < j))) ∧ m (Str.ofString "room") = some (.int ((r1 : Nat) : Int) td)) ?h1 ?h2
      case h1 =>
        refine g_if_any ?_
        k_extra "mine steps"
        · rename (_ : Int) < 7 => h7
          dsimp only at h7
          refine g_cons ?_
          k_extra "mine gmethod"
          refine g_callWith_K (K := hd.heap_39 w.params) (by k_is) rfl ?_
          refine g_args_any ?_
          k_extra "mine steps"
          refine g_args_nil ?_
          refine ⟨by k_in, ?_⟩
          try dsimp only
          refine wpG_call ?_
          refine' put_C (ω := { ω with length := len', u3 := u3' }) (σ := { σ with left := left', spent := sp', u0 := u0', u1 := u1' }) (φ := φ) (ν := ν) (b := bb) (c := List.replicate (ω.block - len'.fmod ω.block).toNat 0) ?C ?F ?N ?Tk ?D ha ?hz ?hk ?hB ?hS
          case C => k_extra "mine cx"
          case F => k_asm
          case N => k_asm
          case Tk => k_extra "mine takes"
          case D => k_extra "mine D"
          case hz => rw [hbb, List.length_append, List.length_replicate]; k_extra "o"
          case hk =>
            intro hc hl h' tk left'' u0'' u1'' u3'' h1 h2 F' N'
            replace N' := N'.get (by k_extra "mine puts")
            try dsimp only
            refine g_cons_any ?_
            k_extra "mine steps"
            try dsimp only
            refine g_nil ?_
            refine' JNext.next (by assumption) (by assumption) ⟨List.replicate (ω.block - len'.fmod ω.block).toNat 0, bl, _, _, _, _, _, _, _, _, ?z1, ?r1, rfl, ?len9, ?bb9, ?l1, ?l2, fun _ => hc, fun q => absurd (hc.symm.trans q) Bool.false_ne_true, rfl, rfl, rfl, rfl, rfl, ?rm9⟩
            case z1 => rw [if_pos (by k_extra "o")]; congr 1; k_extra "o"
            case r1 => rw [if_pos (by k_extra "o")]
            case len9 => dsimp only; rw [hlen, List.length_append]; k_extra "o"
            case bb9 => rw [hbb, List.append_assoc]
            case l1 => intro q; have := hl1 q; have := h1 (by dsimp only; k_extra "o"); dsimp only at this; k_extra "o"
            case l2 =>
              intro q
              obtain ⟨q1, q2⟩ := hl2 q
              have := h2 q2
              dsimp only at this hl
              rw [List.length_append]
              k_extra "o"
            case rm9 => rw [← hbl]; rfl
          case hB =>
            intro hc h' tk e Fl
            try dsimp only
            refine raise_on (cs' := [(wr, _), (wx, _), (_, _), (fx, _), (_, _), (dx, _), (_, _), (nx, _), (_, _)]) C.B C.hf (by assumption) (by assumption) (by assumption) (by assumption) (by k_extra "mine puts") Tk D (by k_extra "mine takes") (by rfl) fun h' Fl => ?_
            have hj0 : j = 0 := by
              rcases Nat.eq_zero_or_pos j with q | q
              · exact q
              · exact absurd (hc.symm.trans (hcl q)) (by simp)
            have hw0 : wt = [] := by rw [S.wr_eq, if_pos hj0]
            rw [hw0, List.append_nil] at hbb
            rw [hw0, List.length_nil] at hlen
            have hlen0 : len' = ω.length := by k_extra "o"
            subst hbb
            subst hlen0
            exact hB hc _ _ _ _ _ _ _ _ hl1 Fl
          case hS =>
            intro hc h0 hl h' tk e u0'' u1'' Fl
            try dsimp only
            refine raise_on (cs' := [(wr, _), (wx, _), (_, _), (fx, _), (_, _), (dx, _), (_, _), (nx, _), (_, _)]) C.B C.hf (by assumption) (by assumption) (by assumption) (by assumption) (by k_extra "mine puts") Tk D (by k_extra "mine takes") (by rfl) fun h' Fl => ?_
            dsimp only at h0 hl
            have hp0 : 0 ≤ σ.left := by
              rcases Int.lt_or_le σ.left 0 with q | q
              · have := hl1 q; k_extra "o"
              · exact q
            obtain ⟨q1, q2⟩ := hl2 hp0
            obtain ⟨tl2, htl2⟩ := S'.pre
            rw [if_pos (show bl - r0 < 7 by k_extra "o"), List.append_assoc] at htl2
            rw [List.length_replicate] at hl
            have hzn : (ω.block - len'.fmod ω.block).toNat = bl - r0 := by k_extra "o"
            have e9 : bb ++ (List.replicate (ω.block - len'.fmod ω.block).toNat 0).take left'.toNat = b ++ (laid ω.check bl ln rec).take σ.left.toNat := by
              rw [hbb, List.append_assoc, show left'.toNat = σ.left.toNat - wt.length by k_extra "o", hzn, take_mid htl2 (by k_extra "o") (by rw [List.length_replicate]; k_extra "o")]
            have hll : σ.left < ((laid ω.check bl ln rec).length : Int) := by
              rw [htl2, List.length_append, List.length_append, List.length_replicate]; k_extra "o"
            dsimp only at Fl
            rw [e9] at Fl
            exact hS hc hp0 hll _ _ _ _ _ _ _ _ _ Fl
        · rename ¬ (_ : Int) < 7 => h7
          dsimp only at h7
          refine g_nil ?_
          refine' JNext.next (by assumption) (by assumption) ⟨[], _, _, _, _, _, _, _, _, _, ?z1, rfl, rfl, ?len9, ?bb9, hl1, ?l2, hcl, ?cl9, rfl, rfl, rfl, rfl, rfl, ?rm9⟩
          case z1 => rw [if_neg (by k_extra "o")]
          case len9 => rw [List.append_nil]; exact hlen
          case bb9 => rw [List.append_nil]; exact hbb
          case l2 => rw [List.append_nil]; exact hl2
          case cl9 =>
            intro q
            have hj0 : j = 0 := by
              rcases Nat.eq_zero_or_pos j with z | z
              · exact z
              · exact absurd (q.symm.trans (hcl z)) (by simp)
            rw [S.wr_eq, if_pos hj0]; rfl
          case rm9 =>
            have e7 : (((if bl - r0 < 7 then bl else bl - r0 : Nat)) : Int) = ω.block - len'.fmod ω.block := by rw [if_neg (by k_extra "o")]; k_extra "o"
            rw [e7]; rfl
      case h2 =>
        clear lF
        rintro m2 l2 h2 tk2 ⟨z, r1, len'', bb'', left'', sp'', u0'', u1'', u3'', td, hz1, hr1, rfl, hlen2, hbb2, hl1', hl2', hcl', hcl2, e1, e2, e3, e4, e5, e6⟩ F' N'
        rw [← hz1, ← hr1] at S'
        replace F' := fr_hasL (.cons e1 (.cons e2 (.cons e3 (.cons e4 (.cons e5 (.cons e6 .nil)))))) F'
        dsimp only [frL] at F'
        try dsimp only
        have hr7 : 7 ≤ r1 := by rw [hr1]; split <;> k_extra "o"
        have hz2 : z.length ≤ 7 := by
          rw [hz1]; split
          · rw [List.length_replicate]; k_extra "o"
          · exact Nat.zero_le _
        refine g_cons_any ?_
        k_extra "mine steps"
        try dsimp only
        have eU : (if ((a : Nat) : Int) + ((r1 : Nat) : Int) - 7 < ((List.length rec : Nat) : Int) then ((a : Nat) : Int) + ((r1 : Nat) : Int) - 7 else ((List.length rec : Nat) : Int)) = ((min (List.length rec) (a + (r1 - 7)) : Nat) : Int) := by split <;> k_extra "o"
        rename Fr _ _ _ _ => F9
        rw [eU] at F9
        clear eU
        have hul : min (List.length rec) (a + (r1 - 7)) ≤ rec.length := Nat.min_le_left _ _
        generalize hup : min (List.length rec) (a + (r1 - 7)) = up at F9 S' hul
        generalize hbg : decide (0 < j) = bg at F9
        refine g_cons_any ?_
        k_extra "mine steps"
        try dsimp only
        rename Fr _ _ _ _ => F9
        generalize hen : (((up : Nat) : Int) == ((List.length rec : Nat) : Int)) = en2 at F9
        have hen2 : decide (up = rec.length) = en2 := by rw [← hen, Bool.eq_iff_iff, decide_eq_true_iff, beq_iff_eq]; k_extra "o"
        clear hen
        refine g_cons_any ?_
        refine' join_J F9 (fun m l => ∃ kv tk tu, kv = (if bg then (if en2 then 4 else 3) else (if en2 then 1 else 2) : Int) ∧
          l = [(wr, instObj 244 wx), (wx, wrO w { ω with length := len'', u3 := u3'' }), (ω.file, instObj 426 fx), (fx, fileO w φ), (φ.disk, instObj 587 dx), (dx, diskO w { σ with left := left'', spent := sp'', u0 := u0'', u1 := u1'' }), (φ.node, instObj 342 nx), (nx, nodeO w ν), (ν.ba, baO (List.toArray bb''))] ∧
          m (Str.ofString "self") = some (.ref wr) ∧ m (Str.ofString "octets") = some (.bytes rec.toArray t) ∧ m (Str.ofString "size") = some (.int (rec.length : Int) ta) ∧ m (Str.ofString "at") = some (.int (a : Nat) tb) ∧ m (Str.ofString "upto") = some (.int ((up : Nat) : Int) tu) ∧ m (Str.ofString "ended") = some (.bool en2) ∧ m (Str.ofString "kind") = some (.int kv tk)) ?h1 ?h2
        case h1 =>
          cases bg <;> cases en2
          all_goals (k_extra "mine steps")
          all_goals (refine' JNext.next (by assumption) (by assumption) ⟨_, _, _, ?_, rfl, rfl, rfl, rfl, rfl, rfl, ?_, rfl⟩)
          all_goals rfl
        case h2 =>
          clear F9
          rintro m3 l3 h3 tk3 ⟨kv, tk4, tu, hkv, rfl, g1, g2, g3, g4, g5, g6, g7⟩ F' N'
          replace F' := fr_hasL (.cons g1 (.cons g2 (.cons g3 (.cons g4 (.cons g5 (.cons g6 (.cons g7 .nil))))))) F'
          dsimp only [frL] at F'
          try dsimp only
          have hkd : kv = (if 0 < j then if up = List.length rec then 4 else 3 else if up = List.length rec then 1 else 2) := by
            rw [hkv, ← hbg, ← hen2]
            simp only [decide_eq_true_eq]
          rw [hen2] at S'
          have hk0 : 1 ≤ kv ∧ kv ≤ 4 := by
            rw [hkv]
            repeat' split
            all_goals k_extra "o"
          have hcutl : (cut rec (Int.toNat (a : Int)) (Int.toNat (up : Int))).length ≤ 100 := by
            unfold cut
            rw [List.length_take, List.length_drop]; k_extra "o"
          have hct : cut rec (Int.toNat (a : Int)) (Int.toNat (up : Int)) = cut rec a up := rfl
          have hfl := frag_len ω.check kv.toNat.toUInt8 (cut rec (Int.toNat (a : Int)) (Int.toNat (up : Int)))
          refine g_cons ?_
          k_extra "mine gmethod"
          refine g_callWith_K (K := hd.heap_39 w.params) (by k_is) rfl ?_
          refine g_args_any ?_
          k_extra "mine steps"
          refine g_args_nil ?_
          refine ⟨by k_in, ?_⟩
          try dsimp only
          refine wpG_call ?_
          refine' put_C (ω := { ω with length := len'', u3 := u3'' }) (σ := { σ with left := left'', spent := sp'', u0 := u0'', u1 := u1'' }) (φ := φ) (ν := ν) (b := bb'') (c := frag ω.check kv.toNat.toUInt8 (cut rec (Int.toNat (a : Int)) (Int.toNat (up : Int)))) ?C ?F ?N ?Tk ?D ha ?hz ?hk ?hB ?hS
          case C => k_extra "mine cx"
          case F => k_asm
          case N => k_asm
          case Tk => k_extra "mine takes"
          case D => k_extra "mine D"
          case hz => rw [hbb2, hfl]; simp only [List.length_append]; k_extra "o"
          case hk =>
            intro hc hl h' tk left3 u03 u13 u33 h1 h2 F' N'
            replace N' := N'.get (by k_extra "mine puts")
            try dsimp only
            refine g_cons_any ?_
            k_extra "mine steps"
            refine g_cons_any ?_
            k_extra "mine steps"
            refine g_nil ?_
            dsimp only at h1 h2 hl
            rw [hct] at h2 hl
            refine' JEnd.next (by assumption) (by assumption) ⟨300 - (j + 1), ?lt9, j + 1, up, wt ++ z ++ frag ω.check kv.toNat.toUInt8 (cut rec a up), en2, _, _, _, _, _, _, _, _, _, rfl, rfl, ?len9, ?bb9, ?S9, ?l1, ?l2, fun _ => hc, rfl, rfl, rfl, rfl, ?bg9, rfl⟩
            case lt9 => k_extra "o"
            case len9 => dsimp only; rw [hct, hlen2, List.length_append (as := wt ++ z)]; k_extra "o"
            case bb9 => rw [hct, hbb2, List.append_assoc b]
            case S9 => rw [hkd]; exact S'
            case l1 => intro q; have := hl1' q; have := h1 (by k_extra "o"); k_extra "o"
            case l2 =>
              intro q
              obtain ⟨q1, q2⟩ := hl2' q
              have := h2 q2
              rw [List.length_append (as := wt ++ z)]
              k_extra "o"
            case bg9 => rw [decide_eq_true (Nat.succ_pos j)]; rfl
          case hB =>
            intro hc h' tk e Fl
            try dsimp only
            refine raise_on (cs' := [(wr, _), (wx, _), (_, _), (fx, _), (_, _), (dx, _), (_, _), (nx, _), (_, _)]) C.B C.hf (by assumption) (by assumption) (by assumption) (by assumption) (by k_extra "mine puts") Tk D (by k_extra "mine takes") (by rfl) fun h' Fl => ?_
            have hw0 := hcl2 hc
            rw [hw0, List.append_nil] at hbb2
            rw [hw0, List.length_nil] at hlen2
            have hlen0 : len'' = ω.length := by k_extra "o"
            subst hbb2
            subst hlen0
            exact hB hc _ _ _ _ _ _ _ _ hl1' Fl
          case hS =>
            intro hc h0 hl h' tk e u0'' u1'' Fl
            try dsimp only
            refine raise_on (cs' := [(wr, _), (wx, _), (_, _), (fx, _), (_, _), (dx, _), (_, _), (nx, _), (_, _)]) C.B C.hf (by assumption) (by assumption) (by assumption) (by assumption) (by k_extra "mine puts") Tk D (by k_extra "mine takes") (by rfl) fun h' Fl => ?_
            dsimp only at h0 hl
            rw [hct] at hl
            have hp0 : 0 ≤ σ.left := by
              rcases Int.lt_or_le σ.left 0 with q | q
              · have := hl1' q; k_extra "o"
              · exact q
            obtain ⟨q1, q2⟩ := hl2' hp0
            obtain ⟨tl2, htl2⟩ := S'.pre
            have e9 : bb'' ++ (frag ω.check kv.toNat.toUInt8 (cut rec (Int.toNat (a : Int)) (Int.toNat (up : Int)))).take left''.toNat = b ++ (laid ω.check bl ln rec).take σ.left.toNat := by
              rw [hct, hbb2, List.append_assoc, show left''.toNat = σ.left.toNat - (wt ++ z).length by k_extra "o", hkd, take_mid htl2 (by k_extra "o") (by rw [← hkd]; k_extra "o")]
            have hll : σ.left < ((laid ω.check bl ln rec).length : Int) := by
              rw [htl2, List.length_append, List.length_append (as := wt ++ z), ← hkd]; k_extra "o"
            dsimp only at Fl
            rw [e9] at Fl
            exact hS hc hp0 hll _ _ _ _ _ _ _ _ _ Fl
  run_tac Mine.Sh.shrink
end
end Mine
end
section
namespace Mine
section
variable {w : World} {A₀ A : Around} {s : Shared} {base h₀ : Heap} {outer : List Env} {L : Addr} {m : Str → Option Value} {env : Env} {full rest : List (Addr × Obj)} {R : Result → Shared → Prop}
  {p : Program} {loose : List Str} {mean : ExcName → Option Value} {mg mb : Str → Option Value} {d dx f fx n nx ba st sx wr wx : Addr} {σ : DiskS} {φ : FileS} {ν : NodeS} {τ : StepS} {ω : WrS} {b c : Array UInt8} {kno pro ndo : Obj} {kkv pkv : List (Str × Value)} {nkv : List (Int × Value)}
theorem keep1n_C {q : Nat} {t : Tok} {k : Int} (C : Cx (hd.heap_39 w.params) A₀ A base h₀ outer env L p loose mean mg mb 2) (F : Fr h₀ L s.heap m) (N : News h₀ L s.heap full)
    (Tk : Takes [(d, instObj 587 dx), (dx, diskO w σ), (σ.jn, listOf #[.ref st] q), (σ.kn, kno), (st, instObj 370 sx), (sx, stepO w τ)] full rest) (D : (full.map (·.1)).Nodup)
    (hkn : kno.IsDictOf (strKind Challenge.rw_xm0852_01.row.prog w) kkv) (hkz : kkv.length ≤ 16777216) (hnum : τ.num = k)
    (hk : ∀ h' tk jn' q' kno', Fr h₀ L h' m → BackF h₀ L h' full [(d, instObj 587 dx), (dx, diskO w σ), (σ.jn, listOf #[.ref st] q), (σ.kn, kno), (st, instObj 370 sx), (sx, stepO w τ)]
        [(d, instObj 587 dx), (dx, diskO w { σ with jn := jn' }), (σ.jn, listOf #[.ref st] q), (σ.kn, kno'), (st, instObj 370 sx), (sx, stepO w τ)] [(jn', listOf #[] q')] → (jn' :: full.map (·.1)).Nodup →
      kno'.IsDictOf (strKind Challenge.rw_xm0852_01.row.prog w) (stored kkv "j" (.int τ.num τ.u3)) →
      R (.ok (.ret .none)) { s with heap := h', toks := tk }) :
    codeAny (model Challenge.rw_xm0852_01.row.prog w) A (.call (.ref 493) ⟨[.ref d, .int k t], []⟩) R s := by
  subst hnum
  exact keep1_C C F N Tk D hkn hkz hk
end
end Mine
example : True := by (k_with "cr" => first | (((show wpAny _ _ (call (Value.ref 493) _ _) _ _ _); (refine wpAny_call ?_); (k_dflt refine' Mine.keep1n_C ?Cₖ62 ?Fₖ62 ?Nₖ62 ?Tkₖ62 ?Dₖ62 ?hknₖ62 ?hkzₖ62 ?hnumₖ62 ?_; (case Fₖ62 => k_asm); (case Nₖ62 => k_asm); (case Cₖ62 => k_extra "mine cx"); (case Tkₖ62 => k_extra "mine takes"); (case Dₖ62 => k_extra "mine D"); (case hknₖ62 => assumption); (case hkzₖ62 => assumption); (case hnumₖ62 => assumption); skip); intro h'ₖ tk'ₖ jn'ₖ q'ₖ kno'ₖ F'ₖ N'ₖ Df0ₖ hknoₖ; (replace N'ₖ := N'ₖ.get (by k_extra "mine puts")); (try dsimp only [List.cons_append, List.nil_append] at N'ₖ); (try simp only [List.map_cons, List.map_nil] at Df0ₖ); (try dsimp only); (try k_sweep))) | fail "no"); trivial
namespace Mine
section
variable {w : World} {A₀ A : Around} {s : Shared} {base h₀ : Heap} {outer : List Env} {L : Addr} {m : Str → Option Value} {env : Env} {full rest : List (Addr × Obj)} {R : Result → Shared → Prop}
  {p : Program} {loose : List Str} {mean : ExcName → Option Value} {mg mb : Str → Option Value} {d dx f fx n nx ba st sx wr wx : Addr} {σ : DiskS} {φ : FileS} {ν : NodeS} {τ : StepS} {ω : WrS} {b c : Array UInt8} {kno pro ndo : Obj} {kkv pkv : List (Str × Value)} {nkv : List (Int × Value)}
set_option maxRecDepth 100000
set_option maxHeartbeats 1000000
theorem sync1_C {q : Nat} (C : Cx (hd.heap_39 w.params) A₀ A base h₀ outer env L p loose mean mg mb 4) (F : Fr h₀ L s.heap m) (N : News h₀ L s.heap full)
    (Tk : Takes [(f, instObj 426 fx), (fx, fileO w φ), (φ.disk, instObj 587 dx), (dx, diskO w σ), (φ.node, instObj 342 nx), (nx, nodeO w ν), (ν.ba, baO b), (σ.jn, listOf #[.ref st] q), (σ.kn, kno), (st, instObj 370 sx), (sx, stepO w τ)] full rest) (D : (full.map (·.1)).Nodup)
    (hkn : kno.IsDictOf (strKind Challenge.rw_xm0852_01.row.prog w) kkv) (hkz : kkv.length ≤ 16777216) (hnum : τ.num = ν.num) (ha : σ.alive = true) (hc : φ.closed = false) (hl : σ.left < 0) (hz : b.size ≤ 16777216)
    (hk : ∀ h' tk jn' q' kno' left' sp' u0' u1' u2', Fr h₀ L h' m →
      BackF h₀ L h' full [(f, instObj 426 fx), (fx, fileO w φ), (φ.disk, instObj 587 dx), (dx, diskO w σ), (φ.node, instObj 342 nx), (nx, nodeO w ν), (ν.ba, baO b), (σ.jn, listOf #[.ref st] q), (σ.kn, kno), (st, instObj 370 sx), (sx, stepO w τ)]
        [(f, instObj 426 fx), (fx, fileO w φ), (φ.disk, instObj 587 dx), (dx, diskO w { σ with left := left', spent := sp', u0 := u0', u1 := u1', jn := jn' }), (φ.node, instObj 342 nx), (nx, nodeO w { ν with kept := b.size, u2 := u2' }), (ν.ba, baO b), (σ.jn, listOf #[.ref st] q), (σ.kn, kno'), (st, instObj 370 sx), (sx, stepO w τ)]
        [(jn', listOf #[] q')] → (jn' :: full.map (·.1)).Nodup → kno'.IsDictOf (strKind Challenge.rw_xm0852_01.row.prog w) (stored kkv "j" (.int τ.num τ.u3)) → left' = σ.left →
      R (.ok (.ret .none)) { s with heap := h', toks := tk }) :
    codeAny (model Challenge.rw_xm0852_01.row.prog w) A (.call (.ref 409) ⟨[.ref f], []⟩) R s := by
  refine ?whole
  k_extra "mine Dc"
  k_extra "mine enter"
  k_extra "mine steps"
  exact hk _ _ _ _ _ _ _ _ _ _ (by assumption) (by k_extra "mine done") (by k_extra "mine fresh") (by assumption) (by exact (by assumption : σ.left < 0 → _ = σ.left) hl)
  run_tac Mine.Sh.shrink
theorem set_budget_C {v : Int} {t : Tok} (C : Cx (hd.heap_39 w.params) A₀ A base h₀ outer env L p loose mean mg mb 2) (F : Fr h₀ L s.heap m) (N : News h₀ L s.heap full)
    (Tk : Takes [(d, instObj 587 dx), (dx, diskO w σ)] full rest) (D : (full.map (·.1)).Nodup) (ha : σ.alive = true) (hv : -1 ≤ v)
    (hk : ∀ h' tk u0', Fr h₀ L h' m → Back h₀ L h' full [(d, instObj 587 dx), (dx, diskO w σ)] [(d, instObj 587 dx), (dx, diskO w { σ with left := v, u0 := u0' })] →
      R (.ok (.ret .none)) { s with heap := h', toks := tk }) :
    codeAny (model Challenge.rw_xm0852_01.row.prog w) A (.call (.ref 451) ⟨[.ref d, .int v t], []⟩) R s := by
  refine ?whole
  k_extra "mine Dc"
  k_extra "mine enter"
  k_extra "mine steps"
  exact hk _ _ _ (by assumption) (by k_extra "mine done")
  run_tac Mine.Sh.shrink
end
end Mine
end
section
namespace Mine
section
variable {prog : Program} {w : World} {A : Around} {E : Value → Shared → Prop} {s : Shared} {h₀ : Heap} {L d : Addr} {m : Str → Option Value} {news : List (Addr × Obj)} {o : Obj} {v : Value} {Q : Value → Shared → Prop}
theorem sort_one {B : Addr} {t : Tok} {Q : Value → Shared → Prop} (F : Fr h₀ L s.heap m) (N : News h₀ L s.heap ((B, listOf #[.str "j" t] 0) :: news)) (hB : ∀ q ∈ news, q.1 ≠ B)
    (h : ∀ t h', Fr h₀ L h' m → News h₀ L h' ((B, listOf #[.str "j" t] 2) :: news) → Q .none { s with heap := h' }) : wpAny (model prog w) A (call (.builtin "list.sort") [.ref B]) Q E s := by
  refine ?whole
  have z := N _ (.head _)
  have hS : StrsAre [.str "j" t] [("j" : Str)] := StrsAre.cons _ _ StrsAre.nil
  refine wpAny_call_entry PyProof.Rows.slot_list_sort ⟨_, z.1, rfl⟩ PyProof.Rows.entry_list_sort (list_sort_treeK (n := 0) (vs := [.str "j" t]) strKind_oneLt z.1 hS.keysOf (fun v₁ v₂ rest e => by cases e) (by show 1 < 64; k_extra "o") fun st' hp hs => ⟨.none, rfl, ?_⟩) (PyProof.Rows.args_list_sort _)
  obtain ⟨ss', h1, h2, h3⟩ := sorted_out_str hS hp hs
  have e2 : ss' = [("j" : Str)] := List.perm_singleton.mp h2
  subst e2
  generalize ho : Array.map (fun x => x.2) (arrOf st') = out at h1
  have : ∃ t', out.toList = [.str "j" t'] := by
    cases hl : out.toList with
    | nil => rw [hl] at h1; cases h1
    | cons a r =>
      rw [hl] at h1
      cases h1
      rename_i hr
      cases hr
      exact ⟨_, rfl⟩
  obtain ⟨t', et⟩ := this
  have eo : out = #[.str "j" t'] := by rw [← Array.toArray_toList (xs := out), et]
  have F1 : Fr h₀ L (s.heap.update B (Obj.mapSeq fun _ => (#[] : Array Value))) m := F.change (Heap.SameBut.update ..) z.2.1 z.2.2
  have N1 := ki_turn (pre := []) (fun _ => (#[] : Array Value)) (its' := #[]) (n' := 1) N (fun _ h => nomatch h) hB rfl rfl
  have N2 := News.grown N1 fun _ _ e => Heap.get?_push_of_some (seqObj "tuple" [Value.str "j" t].toArray 0) e
  have N3 := News.grown N2 fun _ _ e => Heap.get?_push_of_some (seqObj "list" #[] 0) e
  have N4 := ki_turn (pre := []) (fun _ => out) (its' := out) (n' := 2) N3 (fun _ h => nomatch h) hB rfl (by rw [eo]; rfl)
  have F4 := ((F1.push (seqObj "tuple" [Value.str "j" t].toArray 0)).push (seqObj "list" #[] 0)).change (h' := ((((s.heap.update B (Obj.mapSeq fun _ => (#[] : Array Value))).push (seqObj "tuple" [Value.str "j" t].toArray 0)).push (seqObj "list" #[] 0)).update B (Obj.mapSeq fun _ => out))) (Heap.SameBut.update ..) z.2.1 z.2.2
  refine h t' _ F4 ?_
  rw [← eo]
  exact N4
  run_tac Mine.Sh.shrink
theorem sorted_one (hh : A.handled = none) (F : Fr h₀ L s.heap m) (N : News h₀ L s.heap news) (hp : (d, o) ∈ news) (hd : o.IsDictOf (strKind prog w) [("j", v)]) (lo : (d == sysModules) = false)
    (h : ∀ (B : Addr) h' tk t, Fr h₀ L h' m → News h₀ L h' ((B, listOf #[.str "j" t] 2) :: news) → (∀ q ∈ news, q.1 < B) → Q (.ref B) { s with heap := h', toks := tk }) :
    wpAny (model prog w) A (call (.builtin "sorted") [.ref d]) Q E s := by
  refine ?whole
  have hD := kda_dict N hp hd
  obtain ⟨ep, hat⟩ := hD.dictAt
  refine kdu_sorted (kdl_dict (knd := strKind prog w) (kvs := [("j", v)]) (ep := ep) lo) hh F N hat (by show 1 ≤ sizeLine; rw [PySem.sizeLine_eq]; k_extra "o") fun B h' tk vs F' N' l1 hl hv => ?_
  match vs, hl, hv, N' with
  | [u], _, hv, N' =>
    obtain ⟨k, x, hx, hk⟩ := hv 0 u rfl
    cases hx
    have : ∃ t, u = .str "j" t := by
      cases u with
      | str k' t =>
        have e : k' = ("j" : Str) := by simpa only [PySem.strKind, Value.isStrOf, beq_iff_eq] using hk
        exact ⟨t, by rw [e]⟩
      | _ => exact absurd hk Bool.false_ne_true
    obtain ⟨t, rfl⟩ := this
    exact sort_one (s := { s with heap := h', toks := tk }) F' N' (fun q hq => Nat.ne_of_lt (l1 q hq)) fun t'' h'' F'' N'' => h B h'' tk t'' F'' N'' l1
  run_tac Mine.Sh.shrink
end
end Mine
example : True := by (k_with "call builtin:sorted" => first | ((k_here; (try dsimp only); (with_reducible show wpAny _ _ (call (Value.builtin "sorted") [Value.ref _]) _ _ _); k_dflt (refine' Mine.sorted_one ?hhₖ123 ?Fₖ123 ?Nₖ123 ?hpₖ123 ?hdₖ123 ?loₖ123 ?_; (case hhₖ123 => rfl); (case Fₖ123 => k_asm); (case Nₖ123 => k_asm); (case hpₖ123 => k_mem); (case hdₖ123 => k_asm); (case loₖ123 => assumption)); intro B'ₖ h'ₖ tk'ₖ t'ₖ F'ₖ N'ₖ l1ₖ; k_lt l1ₖ)) | fail "no"); trivial
namespace Mine
section
variable {w : World} {A₀ A : Around} {s : Shared} {base h₀ : Heap} {outer : List Env} {L : Addr} {m : Str → Option Value} {env : Env} {full rest : List (Addr × Obj)} {R : Result → Shared → Prop}
  {p : Program} {loose : List Str} {mean : ExcName → Option Value} {mg mb : Str → Option Value} {d dx f fx n nx ba st sx wr wx : Addr} {σ : DiskS} {φ : FileS} {ν : NodeS} {τ : StepS} {ω : WrS} {b c : Array UInt8} {kno pro ndo : Obj} {kkv pkv : List (Str × Value)} {nkv : List (Int × Value)}
set_option maxRecDepth 100000
set_option maxHeartbeats 1000000
theorem row_C {k : Int} {kt : Tok} (C : Cx (hd.heap_39 w.params) A₀ A base h₀ outer env L p loose mean mg mb 1) (F : Fr h₀ L s.heap m) (N : News h₀ L s.heap full)
    (Tk : Takes [(d, instObj 587 dx), (dx, diskO w σ), (σ.pr, pro), (σ.nd, ndo), (n, instObj 342 nx), (nx, nodeO w ν), (ν.ba, baO b)] full rest) (D : (full.map (·.1)).Nodup)
    (hpr : pro.IsDictOf (strKind Challenge.rw_xm0852_01.row.prog w) [("j", .int k kt)]) (hnd : ndo.IsDictOf (intKind Challenge.rw_xm0852_01.row.prog w) nkv) (hnv : valueAt nkv k = some (.ref n))
    (lop : (σ.pr == sysModules) = false) (lon : (σ.nd == sysModules) = false) (hz : b.size ≤ 16777216)
    (hk : ∀ h' tk r r1 t1 bt, Fr h₀ L h' m →
      BackF h₀ L h' full [(d, instObj 587 dx), (dx, diskO w σ), (σ.pr, pro), (σ.nd, ndo), (n, instObj 342 nx), (nx, nodeO w ν), (ν.ba, baO b)] [(d, instObj 587 dx), (dx, diskO w σ), (σ.pr, pro), (σ.nd, ndo), (n, instObj 342 nx), (nx, nodeO w ν), (ν.ba, baO b)]
        [(r, { cls := .type "tuple", data := .seq #[.ref r1] }), (r1, { cls := .type "tuple", data := .seq #[.str "j" t1, .bytes b bt] })] →
      (r :: r1 :: full.map (·.1)).Nodup → R (.ok (.ret (.ref r))) { s with heap := h', toks := tk }) :
    codeAny (model Challenge.rw_xm0852_01.row.prog w) A (.call (.ref 584) ⟨[.ref d], []⟩) R s := by
  refine ?whole
  k_extra "mine Dc"
  k_extra "mine enter"
  k_extra "mine steps"
  exact hk _ _ _ _ _ _ (by assumption) (by k_extra "mine done") (by k_extra "mine freshL")
  run_tac Mine.Sh.shrink
end
end Mine
end
section
namespace Mine
section
variable {w : World} {A₀ A : Around} {s : Shared} {base h₀ : Heap} {outer : List Env} {L : Addr} {m : Str → Option Value} {env : Env} {full rest : List (Addr × Obj)} {R : Result → Shared → Prop}
  {p : Program} {loose : List Str} {mean : ExcName → Option Value} {mg mb : Str → Option Value} {d dx f fx n nx ba st sx wr wx : Addr} {σ : DiskS} {φ : FileS} {ν : NodeS} {τ : StepS} {ω : WrS} {b c : Array UInt8} {kno pro ndo : Obj} {kkv pkv : List (Str × Value)} {nkv : List (Int × Value)}
set_option maxRecDepth 100000
set_option maxHeartbeats 1000000
theorem create_C {q : Nat} {t : Tok} (C : Cx (hd.heap_39 w.params) A₀ A base h₀ outer env L p loose mean mg mb 5) (F : Fr h₀ L s.heap m) (N : News h₀ L s.heap full)
    (Tk : Takes [(d, instObj 587 dx), (dx, diskO w σ), (σ.jn, listOf #[] q), (σ.pr, pro), (σ.nd, ndo)] full rest) (D : (full.map (·.1)).Nodup)
    (hpr : pro.IsDictOf (strKind Challenge.rw_xm0852_01.row.prog w) []) (hnd : ndo.IsDictOf (intKind Challenge.rw_xm0852_01.row.prog w) nkv) (hnz : nkv.length ≤ 16777216)
    (ha : σ.alive = true) (hl : σ.left < 0) (lop : (σ.pr == sysModules) = false)
    (hk : ∀ h' tk q' pro' ndo' f' fx' n' nx' ba' st' sx' left' u0' u1' u2' ut' a0 a1 a2 a3 a4 b0 b1 b2 b3 b4 c0 c1 c2 c3 c4 c5 c6 c7, Fr h₀ L h' m →
      BackF h₀ L h' full [(d, instObj 587 dx), (dx, diskO w σ), (σ.jn, listOf #[] q), (σ.pr, pro), (σ.nd, ndo)]
        [(d, instObj 587 dx), (dx, diskO w { σ with left := left', spent := σ.spent + 1, made := σ.made + 1, u0 := u0', u1 := u1', u2 := u2' }), (σ.jn, listOf #[.ref st'] q'), (σ.pr, pro'), (σ.nd, ndo')]
        [(f', instObj 426 fx'), (fx', fileO w ⟨d, n', false, a0, a1, a2, a3, a4⟩), (st', instObj 370 sx'), (sx', stepO w ⟨σ.made + 1, c0, c1, c2, c3, c4, c5, c6, c7⟩), (n', instObj 342 nx'), (nx', nodeO w ⟨σ.made + 1, ba', 0, b0, b1, b2, b3, b4⟩), (ba', baO #[])] →
      (f' :: fx' :: st' :: sx' :: n' :: nx' :: ba' :: full.map (·.1)).Nodup → left' = σ.left →
      pro'.IsDictOf (strKind Challenge.rw_xm0852_01.row.prog w) (stored [] "j" (.int (σ.made + 1) ut')) → ndo'.IsDictOf (intKind Challenge.rw_xm0852_01.row.prog w) (stored nkv (σ.made + 1) (.ref n')) →
      R (.ok (.ret (.ref f'))) { s with heap := h', toks := tk }) :
    codeG (model Challenge.rw_xm0852_01.row.prog w) A (.call (.ref 500) ⟨[.ref d, .str "j" t], []⟩) R s := by
  refine ?whole
  k_extra "mine Dc"
  k_extra "mine enterG"
  refine g_cons_any ?_
  k_extra "mine steps"
  refine g_cons_any ?_
  k_extra "mine steps"
  dsimp only
  refine g_cons (g_return (g_call_attr ?_))
  k_extra "mine steps"
  refine g_callWith_K (K := hd.heap_39 w.params) (by k_is) rfl ?_
  refine g_args_any ?_
  k_extra "mine steps"
  refine g_args_nil ?_
  refine ⟨by k_in, ?_⟩
  try dsimp only
  refine wpG_call ?_
  refine' create_over_C (pkv := []) (nkv := nkv) (σ := σ) ?C ?F ?N ?Tk ?D hpr (Nat.zero_le _) hnd hnz ha hl ?_
  case C => k_extra "mine cx"
  case F => k_asm
  case N => k_asm
  case Tk => k_extra "mine takes"
  case D => k_extra "mine D"
  intro h' tk q' pro' ndo' f' fx' n' nx' ba' st' sx' left' u0' u1' u2' ut' a0 a1 a2 a3 a4 b0 b1 b2 b3 b4 c0 c1 c2 c3 c4 c5 c6 c7 F' N' Df hl' hp' hn'
  replace N' := N'.get (by k_extra "mine puts")
  dsimp only [List.cons_append, List.nil_append] at N'
  simp only [List.map_cons, List.map_nil] at Df
  try dsimp only
  k_extra "mine leave"
  exact hk _ _ _ _ _ _ _ _ _ _ _ _ _ _ _ _ _ _ _ _ _ _ _ _ _ _ _ _ _ _ _ _ _ _ _ (by assumption) (by k_extra "mine done") (by k_extra "mine freshL") hl' hp' hn'
  run_tac Mine.Sh.shrink
end
end Mine
end
section
namespace Mine
section
variable {prog : Program} {w : World} {A : Around} {E : Value → Shared → Prop} {s : Shared} {h₀ : Heap} {L d : Addr} {m : Str → Option Value} {news : List (Addr × Obj)} {o : Obj} {k : Int} {kt : Tok} {Q : Value → Shared → Prop}
theorem flat_one {kvs : List (Str × Value)} {k : Int} (h : PyProof.V.FlatPairs PyData.str kvs [(PyData.str "j", PyData.int k)]) : ∃ t : Tok, kvs = [(("j" : Str), Value.int k t)] := by
  cases h with
  | cons hf hr =>
    cases hr
    obtain ⟨t, rfl⟩ := hf.int_inv
    exact ⟨t, rfl⟩
theorem nodup_swap {a b : Addr} {l : List Addr} (h : (a :: b :: l).Nodup) : (b :: a :: l).Nodup := (List.Perm.swap b a l).nodup_iff.mp h
theorem dict_one (F : Fr h₀ L s.heap m) (N : News h₀ L s.heap news) (hbig : h₀.NoLimit) (hp : (d, o) ∈ news) (hd : o.IsDictOf (PySem.strKind prog w) [("j", .int k kt)]) (lo : (d == sysModules) = false)
    (h : ∀ d' h' o' t, Fr h₀ L h' m → News h₀ L h' ((d', o') :: news) → (∀ p ∈ news, p.1 < d') → (d' == sysModules) = false → o'.IsDictOf (PySem.strKind prog w) [("j", .int k t)] → Q (.ref d') { s with heap := h' }) :
    wpAny (model prog w) A (call (.type "dict") [.ref d]) Q E s := by
  refine kt_dict_K (knd := PySem.strKind prog w) (enc := PyData.str) (D := [(PyData.str "j", PyData.int k)]) F N hbig ⟨lo, _, kda_dict N hp hd, .cons (PyProof.V.Flat.int k kt) .nil⟩ (by show 1 ≤ sizeLine; rw [PySem.sizeLine_eq]; k_extra "o") fun d' h' o' kvs F' N' l1 lo' hd' hf => ?_
  obtain ⟨t, rfl⟩ := flat_one hf
  exact h d' h' o' t F' N' l1 lo' hd'
theorem slice_baU {value slice : PySem.Expr} {x : Addr} {b : Bs} {cl : Nat} {tu : Tok} {Q : Value → Shared → Prop} (hF : Fr h₀ L s.heap m) (hN : News h₀ L s.heap news) (hx : (x, baO b.toArray) ∈ news) (hz : b.length ≤ 16777216)
    (h : ∀ a h' k, Fr h₀ L h' m → News h₀ L h' ((a, baO (b.take cl).toArray) :: news) → (∀ p ∈ news, p.1 < a) → Q (.ref a) { s with heap := h', toks := k })
    (hs : subscripted slice false (.ref x) (.ref s.heap.objs.size) = operate [.ref s.heap.objs.size, .ref x] (getItem (.ref x) (.ref s.heap.objs.size)) := by with_unfolding_all rfl) :
    wpAny (model prog w) A (subscriptTail value slice (.ref x) (.ref s.heap.objs.size)) Q E { s with heap := s.heap.push { cls := .type "slice", data := .fields #[.none, .int (cl : Nat) tu, .none] } } := by
  refine slice_ba (lo := none) (hi := some (cl : Int)) hF hN hx .none (.int _ _) (by rw [List.size_toArray]; exact hz) (fun a h' k F' N' l1 => ?_) hs
  have e : KBy.picked b.toArray none (some (cl : Int)) = (b.take cl).toArray := by
    rw [KBc.picked_eq]
    simp only [Option.elim, List.size_toArray, List.drop_zero, Nat.sub_zero]
    rw [clip_of (by k_extra "o"), Int.toNat_natCast]
    congr 1
    by_cases hd : cl ≤ b.length
    · rw [Nat.min_eq_left hd]
    · rw [Nat.min_eq_right (by k_extra "o"), List.take_of_length_le (Nat.le_refl _), List.take_of_length_le (by k_extra "o")]
  rw [e] at N'
  exact h a h' k F' N' l1
end
end Mine
example : True := by (k_with "subscriptTail" => first | ((k_here; (try dsimp only); (with_reducible show wpAny _ _ (subscriptTail _ (Expr.Slice none (some _) none _) (Value.ref _) (Value.ref _)) _ _ _); (with_reducible rename Fr _ _ _ _ => F'ₖ); (with_reducible rename News _ _ _ _ => N'ₖ); (k_dflt refine' Mine.slice_baU (s := ⟨_, _, _, _, _⟩) F'ₖ N'ₖ ?hxₖ124 ?hzₖ124 ?_); (case hxₖ124 => k_mem); (case hzₖ124 => k_extra "mine size"); intro _ _ _ F'ₖ N'ₖ l1ₖ; (try dsimp only); k_lt l1ₖ)) | fail "no"); trivial
example : True := by (k_with "call type:dict" => first | ((k_here; (try dsimp only); (with_reducible show wpAny _ _ (call (Value.type "dict") [Value.ref _]) _ _ _); k_dflt (refine' Mine.dict_one ?Fₖ125 ?Nₖ125 ?Tₖ125 ?hpₖ125 ?hdₖ125 ?loₖ125 ?_; (case Fₖ125 => k_asm); (case Nₖ125 => k_asm); (case Tₖ125 => exact Top.nolimit (by k_asm)); (case hpₖ125 => k_mem); (case hdₖ125 => k_asm); (case loₖ125 => assumption)); intro d'ₖ h'ₖ o'ₖ t'ₖ F'ₖ N'ₖ l1ₖ lo'ₖ hd'ₖ; k_lt l1ₖ)) | fail "no"); trivial
namespace Mine
section
variable {w : World} {A₀ A : Around} {s : Shared} {base h₀ : Heap} {outer : List Env} {L : Addr} {m : Str → Option Value} {env : Env} {full rest : List (Addr × Obj)} {R : Result → Shared → Prop}
  {p : Program} {loose : List Str} {mean : ExcName → Option Value} {mg mb : Str → Option Value} {d dx f fx n nx ba st sx wr wx pk : Addr} {σ : DiskS} {φ : FileS} {ν : NodeS} {τ : StepS} {ω : WrS} {b c : Bs} {kno pro ndo : Obj} {kkv pkv : List (Str × Value)} {nkv : List (Int × Value)}
set_option maxRecDepth 100000
set_option maxHeartbeats 1000000
structure CutFacts (w : World) (b : Bs) (kept rr : Int) (nn : Addr) (σ2 : DiskS) (ν2 : NodeS) (ndo2 kno2 pro2 : Obj) (cl : Nat) : Prop where
  left : σ2.left = -1
  alive : σ2.alive = true
  made : σ2.made = 1
  num : ν2.num = 1
  kept_ : ν2.kept = (cl : Int)
  lo : kept ≤ cl
  hi : cl ≤ b.length
  zero : rr = 0 → (cl : Int) = kept
  nd : ndo2.IsDictOf (intKind Challenge.rw_xm0852_01.row.prog w) [(1, .ref nn)]
  kn : ∃ t, kno2.IsDictOf (strKind Challenge.rw_xm0852_01.row.prog w) [("j", .int 1 t)]
  pr : ∃ t, pro2.IsDictOf (strKind Challenge.rw_xm0852_01.row.prog w) [("j", .int 1 t)]
  lnd : (σ2.nd == sysModules) = false
  lkn : (σ2.kn == sysModules) = false
  lpr : (σ2.pr == sysModules) = false
theorem cut_fin {g h : Heap} {L d5 a1 nn nnx dd ddx : Addr} {o1 o5 pro2 kno2 ndo2 : Obj} {σ2 : DiskS} {ν2 : NodeS} {X : Array UInt8} {c1 c2 c3 c4 c5 c6 c7 c8 c9 c10 i1 i2 : Addr × Obj}
    (N : News g L h [(nn, instObj 342 nnx), (nnx, nodeO w ν2), (ν2.ba, baO X), (a1, o1), (σ2.jn, listOf #[] 0), (σ2.pr, pro2), (σ2.kn, kno2), (σ2.nd, ndo2), (dd, instObj 587 ddx), (ddx, diskO w σ2), (d5, o5), c1, c2, c3, c4, c5, c6, c7, c8, c9, c10, i1, i2])
    (D : (([(nn, instObj 342 nnx), (nnx, nodeO w ν2), (ν2.ba, baO X), (a1, o1), (σ2.jn, listOf #[] 0), (σ2.pr, pro2), (σ2.kn, kno2), (σ2.nd, ndo2), (dd, instObj 587 ddx), (ddx, diskO w σ2), (d5, o5), c1, c2, c3, c4, c5, c6, c7, c8, c9, c10, i1, i2] : List (Addr × Obj)).map (·.1)).Nodup) :
    News g L h ([(nn, instObj 342 nnx), (nnx, nodeO w ν2), (ν2.ba, baO X), (dd, instObj 587 ddx), (ddx, diskO w σ2), (σ2.jn, listOf #[] 0), (σ2.kn, kno2), (σ2.pr, pro2), (σ2.nd, ndo2), c1, c2, c3, c4, c5, c6, c7, c8, c9, c10] ++ [i1, i2]) ∧
    ((([(nn, instObj 342 nnx), (nnx, nodeO w ν2), (ν2.ba, baO X), (dd, instObj 587 ddx), (ddx, diskO w σ2), (σ2.jn, listOf #[] 0), (σ2.kn, kno2), (σ2.pr, pro2), (σ2.nd, ndo2), c1, c2, c3, c4, c5, c6, c7, c8, c9, c10] ++ [i1, i2] : List (Addr × Obj))).map (·.1)).Nodup := by
  have T : Takes ([(nn, instObj 342 nnx), (nnx, nodeO w ν2), (ν2.ba, baO X), (dd, instObj 587 ddx), (ddx, diskO w σ2), (σ2.jn, listOf #[] 0), (σ2.kn, kno2), (σ2.pr, pro2), (σ2.nd, ndo2), c1, c2, c3, c4, c5, c6, c7, c8, c9, c10] ++ [i1, i2])
      [(nn, instObj 342 nnx), (nnx, nodeO w ν2), (ν2.ba, baO X), (a1, o1), (σ2.jn, listOf #[] 0), (σ2.pr, pro2), (σ2.kn, kno2), (σ2.nd, ndo2), (dd, instObj 587 ddx), (ddx, diskO w σ2), (d5, o5), c1, c2, c3, c4, c5, c6, c7, c8, c9, c10, i1, i2] [(a1, o1), (d5, o5)] := by
    dsimp only [List.cons_append, List.nil_append]
    exact .cons .head (.cons .head (.cons .head (.cons (.tail (.tail (.tail (.tail (.tail .head))))) (.cons (.tail (.tail (.tail (.tail (.tail .head))))) (.cons (.tail .head) (.cons (.tail (.tail .head)) (.cons (.tail .head) (.cons (.tail .head) (.cons (.tail (.tail .head)) (.cons (.tail (.tail .head)) (.cons (.tail (.tail .head)) (.cons (.tail (.tail .head)) (.cons (.tail (.tail .head)) (.cons (.tail (.tail .head)) (.cons (.tail (.tail .head)) (.cons (.tail (.tail .head)) (.cons (.tail (.tail .head)) (.cons (.tail (.tail .head)) (.cons (.tail (.tail .head)) (.cons (.tail (.tail .head)) .nil))))))))))))))))))))
  exact ⟨T.left N, T.nodupL D⟩
theorem cut_perm {p1 p2 p3 p4 p5 p6 p7 p8 p9 q1 q2 c1 c2 c3 c4 c5 c6 c7 c8 : Addr × Obj} (D : (([p1, p2, p3, p4, p5, p6, p7, p8, p9, q1, q2, c1, c2, c3, c4, c5, c6, c7, c8] : List (Addr × Obj)).map (·.1)).Nodup) :
    (([p4, p5, p6, p7, p8, p9, p1, p2, p3, q1, c1, c2, c3, c4, c5, c6, c7, c8] : List (Addr × Obj)).map (·.1)).Nodup ∧ (([p4, p5, p6, p7, p8, p9, p1, p2, p3, q2, c1, c2, c3, c4, c5, c6, c7, c8] : List (Addr × Obj)).map (·.1)).Nodup := by
  have T1 : Takes [p4, p5, p6, p7, p8, p9, p1, p2, p3, q1, c1, c2, c3, c4, c5, c6, c7, c8] [p1, p2, p3, p4, p5, p6, p7, p8, p9, q1, q2, c1, c2, c3, c4, c5, c6, c7, c8] [q2] :=
    .cons (.tail (.tail (.tail .head))) (.cons (.tail (.tail (.tail .head))) (.cons (.tail (.tail (.tail .head))) (.cons (.tail (.tail (.tail .head))) (.cons (.tail (.tail (.tail .head))) (.cons (.tail (.tail (.tail .head))) (.cons .head (.cons .head (.cons .head (.cons .head (.cons (.tail .head) (.cons (.tail .head) (.cons (.tail .head) (.cons (.tail .head) (.cons (.tail .head) (.cons (.tail .head) (.cons (.tail .head) (.cons (.tail .head) .nil)))))))))))))))))
  have T2 : Takes [p4, p5, p6, p7, p8, p9, p1, p2, p3, q2, c1, c2, c3, c4, c5, c6, c7, c8] [p1, p2, p3, p4, p5, p6, p7, p8, p9, q1, q2, c1, c2, c3, c4, c5, c6, c7, c8] [q1] :=
    .cons (.tail (.tail (.tail .head))) (.cons (.tail (.tail (.tail .head))) (.cons (.tail (.tail (.tail .head))) (.cons (.tail (.tail (.tail .head))) (.cons (.tail (.tail (.tail .head))) (.cons (.tail (.tail (.tail .head))) (.cons .head (.cons .head (.cons .head (.cons (.tail .head) (.cons (.tail .head) (.cons (.tail .head) (.cons (.tail .head) (.cons (.tail .head) (.cons (.tail .head) (.cons (.tail .head) (.cons (.tail .head) (.cons (.tail .head) .nil)))))))))))))))))
  exact ⟨T1.nodupL D, T2.nodupL D⟩
theorem cut_C {q z : Nat} {pv : Array Value} {rr : Int} {k : Int} {kt rt : Tok} (C : Cx (hd.heap_39 w.params) A₀ A base h₀ outer env L p loose mean mg mb 5) (F : Fr h₀ L s.heap m) (N : News h₀ L s.heap full)
    (Tk : Takes [(pk, listOf pv z), (d, instObj 587 dx), (dx, diskO w σ), (σ.jn, listOf #[] q), (σ.kn, kno), (σ.nd, ndo), (n, instObj 342 nx), (nx, nodeO w ν), (ν.ba, baO b.toArray)] full rest) (D : (full.map (·.1)).Nodup)
    (hkn : kno.IsDictOf (strKind Challenge.rw_xm0852_01.row.prog w) [("j", .int k kt)]) (hnd : ndo.IsDictOf (intKind Challenge.rw_xm0852_01.row.prog w) nkv) (hnv : valueAt nkv k = some (.ref n))
    (lok : (σ.kn == sysModules) = false) (lon : (σ.nd == sysModules) = false) (hz : b.length ≤ 1000000) (hkept : 0 ≤ ν.kept ∧ ν.kept ≤ b.length) (hpv : (pv = #[] ∧ rr = 0) ∨ pv = #[.int rr rt]) (hr0 : 0 ≤ rr)
    (hk : ∀ h' tk dd ddx nn nnx σ2 ν2 ndo2 kno2 pro2 cl, CutFacts w b ν.kept rr nn σ2 ν2 ndo2 kno2 pro2 cl → Fr h₀ L h' m →
      BackF h₀ L h' full [(pk, listOf pv z), (d, instObj 587 dx), (dx, diskO w σ), (σ.jn, listOf #[] q), (σ.kn, kno), (σ.nd, ndo), (n, instObj 342 nx), (nx, nodeO w ν), (ν.ba, baO b.toArray)] [(pk, listOf pv z), (d, instObj 587 dx), (dx, diskO w σ), (σ.jn, listOf #[] q), (σ.kn, kno), (σ.nd, ndo), (n, instObj 342 nx), (nx, nodeO w ν), (ν.ba, baO b.toArray)]
        [(dd, instObj 587 ddx), (ddx, diskO w σ2), (σ2.jn, listOf #[] 0), (σ2.kn, kno2), (σ2.pr, pro2), (σ2.nd, ndo2), (nn, instObj 342 nnx), (nnx, nodeO w ν2), (ν2.ba, baO (b.take cl).toArray)] →
      (dd :: ddx :: σ2.jn :: σ2.kn :: σ2.pr :: σ2.nd :: nn :: nnx :: ν2.ba :: full.map (·.1)).Nodup → R (.ok (.ret (.ref dd))) { s with heap := h', toks := tk }) :
    codeG (model Challenge.rw_xm0852_01.row.prog w) A (.call (.ref 570) ⟨[.ref d, .ref pk], []⟩) R s := by
  refine ?whole
  have hsz9 : (List.toArray b).size = b.length := List.size_toArray
  have hz9 : (List.toArray b).size ≤ 16777216 := by rw [List.size_toArray]; k_extra "o"
  k_extra "mine Dc"
  k_extra "mine enterG"
  refine g_cons_any ?_
  k_extra "mine steps"
  try dsimp only
  refine g_cons_any ?_
  rename Fr _ _ _ _ => lF
  refine' join_J lF (fun m l => ∃ rw9 oth oo t9 zz, l = [(rw9, listOf #[.int rr t9] zz), (oth, oo), (d, instObj 587 dx), (dx, diskO w σ), (σ.jn, listOf #[] q), (σ.kn, kno), (σ.nd, ndo), (n, instObj 342 nx), (nx, nodeO w ν), (ν.ba, baO b.toArray)] ∧
    ([rw9, oth, d, dx, σ.jn, σ.kn, σ.nd, n, nx, ν.ba] : List Addr).Nodup ∧ ((rw9 = pk ∧ listOf #[.int rr t9] zz = listOf pv z) ∨ (oth = pk ∧ oo = listOf pv z)) ∧ m (Str.ofString "self") = some (.ref d) ∧ m (Str.ofString "row") = some (.ref rw9)) ?h1 ?h2
  case h1 =>
    rcases hpv with ⟨rfl, rfl⟩ | rfl
    · k_extra "mine steps"
      refine JNext.next (by assumption) (by assumption) ⟨_, _, _, _, _, rfl, by k_extra "mine D1", .inr ⟨rfl, rfl⟩, rfl, rfl⟩
    · k_extra "mine steps"
      refine JNext.next (l' := [(pk, _), (_, listOf #[.int 0 _] _), (d, _), (dx, _), (σ.jn, _), (σ.kn, _), (σ.nd, _), (n, _), (nx, _), (ν.ba, _)]) (by assumption) (newsSub (by assumption) (by k_extra "mine takes")) ⟨_, _, _, _, _, rfl, nodup_swap (by k_extra "mine D1"), .inl ⟨rfl, rfl⟩, rfl, rfl⟩
  case h2 =>
    clear lF
    rintro m2 l2 h2 tk2 ⟨rw9, oth, oo, t9, zz, rfl, D2, hpk, e1, e2⟩ F' N'
    replace F' := fr_hasL (.cons e1 (.cons e2 .nil)) F'
    dsimp only [frL] at F'
    try dsimp only
    refine g_cons_any ?_
    k_extra "mine steps"
    try dsimp only
    refine g_cons_any ?_
    k_extra "mine steps"
    try dsimp only
    rename Fr _ _ _ _ => F9
    rw [show ([rr].getD (Int.toNat 0) 0).fmod (0 + 1) = 0 from by rw [Int.fmod_eq_emod_of_nonneg _ (by decide)]; k_extra "o"] at F9
    refine g_cons (g_For ?_)
    k_extra "mine iter"
    rename Fr _ _ _ _ => lF
    rename News _ _ _ _ => lN
    refine' list_JG (fun _ m l => m = ?m0 ∧ l = ?l0) (by rfl) (by rfl) (by rfl) lF lN (by k_extra "mine DL") ⟨rfl, rfl⟩ (fun i v m₁ l₁ h tk I oI l oL hi => absurd hi (Nat.not_lt_zero i)) ?done
    clear lF lN
    rintro m3 l3 h3 tk3 ⟨rfl, rfl⟩ D3 F' N'
    simp only [List.map_cons, List.map_nil] at D3
    try dsimp only
    refine g_cons_any ?_
    k_extra "mine steps"
    try dsimp only
    refine g_cons_any ?_
    k_extra "mine steps"
    try dsimp only
    refine g_cons (g_For ?_)
    k_extra "mine iter"
    rename Fr _ _ _ _ => lF
    rename News _ _ _ _ => lN
    refine' list_JG (fun i m l => if i = 0 then m = ?m1 ∧ l = ?l1 else ∃ dd ddx nn nnx σ2 ν2 ndo2 kno2 pro2 cl, CutFacts w b ν.kept rr nn σ2 ν2 ndo2 kno2 pro2 cl ∧ m (Str.ofString "after") = some (.ref dd) ∧
      l = [(nn, instObj 342 nnx), (nnx, nodeO w ν2), (ν2.ba, baO (List.toArray (b.take cl))), (dd, instObj 587 ddx), (ddx, diskO w σ2), (σ2.jn, listOf #[] 0), (σ2.kn, kno2), (σ2.pr, pro2), (σ2.nd, ndo2),
        (rw9, listOf #[.int rr t9] zz), (oth, oo), (d, instObj 587 dx), (dx, diskO w σ), (σ.jn, listOf #[] q), (σ.kn, kno), (σ.nd, ndo), (n, instObj 342 nx), (nx, nodeO w ν), (ν.ba, baO b.toArray)]) (by rfl) (by rfl) (by rfl) lF lN (by k_extra "mine DL") ⟨rfl, rfl⟩ ?turnB ?doneB
    case doneB =>
      clear lF lN
      rintro m6 l6 h6 tk6 hJ D6 F' N'
      change (if (1 : Nat) = 0 then _ else _) at hJ
      rw [if_neg Nat.one_ne_zero] at hJ
      obtain ⟨dd, ddx, nn, nnx, σ2, ν2, ndo2, kno2, pro2, cl, cf, g1, rfl⟩ := hJ
      replace F' := fr_hasL (.cons g1 .nil) F'
      dsimp only [frL] at F'
      try dsimp only
      obtain ⟨D7, D8⟩ := cut_perm D6
      simp only [List.map_cons, List.map_nil] at D7 D8
      refine g_cons_any ?_
      rcases hpk with ⟨rfl, hpv9⟩ | ⟨rfl, rfl⟩
      · rw [hpv9] at N'
        k_extra "mine steps"
        exact hk _ _ _ _ _ _ _ _ _ _ _ _ cf (by assumption) (by k_extra "mine done") (by k_extra "mine freshL")
      · k_extra "mine steps"
        exact hk _ _ _ _ _ _ _ _ _ _ _ _ cf (by assumption) (by k_extra "mine done") (by k_extra "mine freshL")
    case turnB =>
      clear lF lN
      rintro i v m5 l5 h5 tk5 I9 oI9 l9 oL9 hi hv hJ D5 F' N'
      obtain rfl : i = 0 := by have : i < 1 := hi; k_extra "o"
      obtain ⟨rfl, rfl⟩ := hJ
      have hv2 : v = Value.str _ _ := (Option.some.inj (show some (Value.str _ _) = some v from hv)).symm
      subst hv2
      simp only [List.map_cons, List.map_nil, List.cons_append, List.nil_append] at D5
      dsimp only [List.cons_append, List.nil_append] at N'
      try dsimp only
      refine g_cons_any ?_
      k_extra "mine steps"
      try dsimp only
      refine g_cons_any ?_
      k_extra "mine steps"
      try dsimp only
      have hcl : ∃ cl : Nat, ν.kept + ([rr].getD (Int.fmod 0 1).toNat 0).fmod (((List.toArray b).size : Int) - ν.kept + 1) = (cl : Int) ∧ ν.kept ≤ cl ∧ cl ≤ b.length ∧ (rr = 0 → (cl : Int) = ν.kept) := by
        have e1 : [rr].getD (Int.fmod 0 1).toNat 0 = rr := rfl
        rw [e1, Int.fmod_eq_emod_of_nonneg _ (by k_extra "o"), hsz9]
        have h1 := Int.emod_nonneg rr (show ((b.length : Int) - ν.kept + 1) ≠ 0 by k_extra "o")
        have h2 := Int.emod_lt_of_pos rr (show 0 < ((b.length : Int) - ν.kept + 1) by k_extra "o")
        refine ⟨(ν.kept + rr % ((b.length : Int) - ν.kept + 1)).toNat, by k_extra "o", by k_extra "o", by k_extra "o", fun q => ?_⟩
        rw [q, Int.zero_emod]; k_extra "o"
      obtain ⟨cl, hce, hc1, hc2, hc3⟩ := hcl
      rename Fr _ _ _ _ => F9
      rw [hce] at F9
      refine g_cons_any ?_
      k_extra "mine steps"
      try dsimp only
      refine g_cons (g_assign (g_call_name ?_))
      k_extra "mine steps"
      refine g_callWith_K (K := hd.heap_39 w.params) (by k_is) rfl ?_
      refine g_args_any ?_
      k_extra "mine steps"
      refine g_args_cons ?_
      refine g_call_name ?_
      k_extra "mine steps"
      refine g_callWith_B (by intro a; exact Value.noConfusion) rfl ?_
      refine g_args_any ?_
      k_extra "mine steps"
      refine g_args_nil ?_
      refine call_ba_ba (by k_asm) (by k_asm) (by k_mem) (by rw [List.size_toArray, List.length_take]; k_extra "o") ?_
      intro ba' h' F' N' l1
      k_lt l1
      refine g_args_any ?_
      k_extra "mine steps"
      refine g_args_nil ?_
      refine ⟨by k_in, wpG_of_any ?_⟩
      k_extra "mine steps"
      try dsimp only
      refine g_cons_any ?_
      k_extra "mine steps"
      try dsimp only
      refine g_cons_any ?_
      k_extra "mine steps"
      try dsimp only
      refine g_cons_any ?_
      k_extra "mine steps"
      try dsimp only
      refine g_nil ?_
      rename News _ _ _ _ => N9
      obtain ⟨N8, D8⟩ := cut_fin (σ2 := ⟨-1, 0, true, _, 0 + 1, _, _, _, _, _, _, _, _, _, _, _, _, _, _⟩) (ν2 := ⟨0 + 1, _, (cl : Nat), _, _, _, _, _⟩) N9 (by k_extra "mine D")
      refine FEnd.next (by assumption) N8 D8 ?_
      show (if (0 + 1 : Nat) = 0 then _ else _)
      rw [if_neg (by decide)]
      exact ⟨_, _, _, _, _, _, _, _, _, cl, ⟨rfl, rfl, rfl, rfl, rfl, hc1, hc2, hc3, by assumption, ⟨_, by assumption⟩, ⟨_, by assumption⟩, by assumption, by assumption, by assumption⟩, rfl, rfl⟩
  run_tac Mine.Sh.shrink
end
end Mine
end
section
example : True := by (k_with "cr" => first | (((show wpAny _ _ (call (Value.ref 409) _ _) _ _ _); (refine wpAny_call ?_); (k_dflt refine' Mine.sync_C ?Cₖ86 ?Fₖ86 ?Nₖ86 ?Tkₖ86 ?Dₖ86 ?hknₖ86 ?haₖ86 ?hcₖ86 ?hlₖ86 ?hzₖ86 ?_; (case Fₖ86 => k_asm); (case Nₖ86 => k_asm); (case Cₖ86 => k_extra "mine cx"); (case Tkₖ86 => k_extra "mine takes"); (case Dₖ86 => k_extra "mine D"); (case hknₖ86 => assumption); (case haₖ86 => (first | assumption | rfl)); (case hcₖ86 => assumption); (case hlₖ86 => (first | assumption | k_extra "o")); (case hzₖ86 => (first | assumption | k_extra "o")); skip); intro h'ₖ tk'ₖ jn'ₖ q'ₖ left'ₖ u0'ₖ u1'ₖ u2'ₖ hl1'ₖ hl2'ₖ F'ₖ N'ₖ Df0ₖ ; (replace N'ₖ := N'ₖ.get (by k_extra "mine puts")); (try dsimp only [List.cons_append, List.nil_append] at N'ₖ); (try simp only [List.map_cons, List.map_nil] at Df0ₖ); (try dsimp only); (try k_sweep))) | fail "no"); trivial
namespace Mine
section
variable {w : World} {A₀ A : Around} {s : Shared} {base h₀ : Heap} {outer : List Env} {L : Addr} {m : Str → Option Value} {env : Env} {full rest : List (Addr × Obj)} {R : Result → Shared → Prop}
  {p : Program} {loose : List Str} {mean : ExcName → Option Value} {mg mb : Str → Option Value} {d dx f fx n nx ba st sx wr wx : Addr} {σ : DiskS} {φ : FileS} {ν : NodeS} {τ : StepS} {ω : WrS} {b c : Array UInt8} {kno pro ndo : Obj} {kkv pkv : List (Str × Value)} {nkv : List (Int × Value)}
set_option maxRecDepth 100000
set_option maxHeartbeats 1000000
theorem wsync_C {q : Nat} (C : Cx (hd.heap_39 w.params) A₀ A base h₀ outer env L p loose mean mg mb 5) (F : Fr h₀ L s.heap m) (N : News h₀ L s.heap full)
    (Tk : Takes [(wr, instObj 244 wx), (wx, wrO w ω), (ω.file, instObj 426 fx), (fx, fileO w φ), (φ.disk, instObj 587 dx), (dx, diskO w σ), (φ.node, instObj 342 nx), (nx, nodeO w ν), (ν.ba, baO b), (σ.jn, listOf #[] q), (σ.kn, kno)] full rest) (D : (full.map (·.1)).Nodup)
    (hkn : kno.IsDictOf (strKind Challenge.rw_xm0852_01.row.prog w) kkv) (ha : σ.alive = true) (hc : φ.closed = false) (hl : σ.left < 0) (hz : b.size ≤ 16777216)
    (hk : ∀ h' tk jn' q' left' sp' u0' u1' u2', Fr h₀ L h' m →
      BackF h₀ L h' full [(wr, instObj 244 wx), (wx, wrO w ω), (ω.file, instObj 426 fx), (fx, fileO w φ), (φ.disk, instObj 587 dx), (dx, diskO w σ), (φ.node, instObj 342 nx), (nx, nodeO w ν), (ν.ba, baO b), (σ.jn, listOf #[] q), (σ.kn, kno)]
        [(wr, instObj 244 wx), (wx, wrO w ω), (ω.file, instObj 426 fx), (fx, fileO w φ), (φ.disk, instObj 587 dx), (dx, diskO w { σ with left := left', spent := sp', u0 := u0', u1 := u1', jn := jn' }), (φ.node, instObj 342 nx), (nx, nodeO w { ν with kept := b.size, u2 := u2' }), (ν.ba, baO b), (σ.jn, listOf #[] q), (σ.kn, kno)]
        [(jn', listOf #[] q')] → (jn' :: full.map (·.1)).Nodup → left' = σ.left →
      R (.ok (.ret .none)) { s with heap := h', toks := tk }) :
    codeAny (model Challenge.rw_xm0852_01.row.prog w) A (.call (.ref 241) ⟨[.ref wr], []⟩) R s := by
  refine ?whole
  k_extra "mine Dc"
  k_extra "mine enter"
  k_extra "mine steps"
  exact hk _ _ _ _ _ _ _ _ _ (by assumption) (by k_extra "mine done") (by k_extra "mine fresh") (by exact (by assumption : σ.left < 0 → _ = σ.left) hl)
  run_tac Mine.Sh.shrink
end
end Mine
example : True := by (k_with "cr" => first | (((show wpAny _ _ (call (Value.ref 409) _ _) _ _ _); (refine wpAny_call ?_); (k_dflt refine' Mine.sync_bad_C ?Cₖ88 ?Fₖ88 ?Nₖ88 ?Tkₖ88 ?Dₖ88 ?haₖ88 ?hcₖ88 ?_; (case Fₖ88 => k_asm); (case Nₖ88 => k_asm); (case Cₖ88 => k_extra "mine cx"); (case Tkₖ88 => k_extra "mine takes"); (case Dₖ88 => k_extra "mine D"); (case haₖ88 => (first | assumption | rfl)); (case hcₖ88 => assumption); skip); intro h'ₖ tk'ₖ e'ₖ Fl'ₖ; (try dsimp only))) | fail "no"); trivial
namespace Mine
section
variable {w : World} {A₀ A : Around} {s : Shared} {base h₀ : Heap} {outer : List Env} {L : Addr} {m : Str → Option Value} {env : Env} {full rest : List (Addr × Obj)} {R : Result → Shared → Prop}
  {p : Program} {loose : List Str} {mean : ExcName → Option Value} {mg mb : Str → Option Value} {d dx f fx n nx ba st sx wr wx : Addr} {σ : DiskS} {φ : FileS} {ν : NodeS} {τ : StepS} {ω : WrS} {b c : Array UInt8} {kno pro ndo : Obj} {kkv pkv : List (Str × Value)} {nkv : List (Int × Value)}
set_option maxRecDepth 100000
set_option maxHeartbeats 1000000
theorem wsync_bad_C (C : Cx (hd.heap_39 w.params) A₀ A base h₀ outer env L p loose mean mg mb 5) (F : Fr h₀ L s.heap m) (N : News h₀ L s.heap full)
    (Tk : Takes [(wr, instObj 244 wx), (wx, wrO w ω), (ω.file, instObj 426 fx), (fx, fileO w φ), (φ.disk, instObj 587 dx), (dx, diskO w σ)] full rest) (D : (full.map (·.1)).Nodup)
    (ha : σ.alive = true) (hc : φ.closed = true)
    (hE : ∀ h' tk e, Flies base h₀ L m (env :: outer) (.ref 140) full [] [] e h' → R (.error (.ref e)) { s with heap := h', toks := tk }) :
    codeAny (model Challenge.rw_xm0852_01.row.prog w) A (.call (.ref 241) ⟨[.ref wr], []⟩) R s := by
  refine ?whole
  k_extra "mine Dc"
  k_extra "mine enter"
  k_extra "mine until leaving"
  refine raise_on (cs' := [(wr, _), (wx, _), (_, _), (fx, _), (_, _), (dx, _)]) C.B C.hf (by assumption) (by assumption) (by assumption) (by assumption) (by k_extra "mine puts") Tk D (by k_extra "mine takes") (by rfl) fun h' Fl => ?_
  obtain ⟨G, t, vs, f1, f2, f3⟩ := Fl
  exact hE _ _ _ ⟨G, t, vs, f1, f2, fun l' P => by cases P; exact f3 _ (puts_id Tk)⟩
  run_tac Mine.Sh.shrink
end
end Mine
example : True := by (k_with "cr" => first | (((show wpAny _ _ (call (Value.ref 409) _ _) _ _ _); (refine wpAny_call ?_); (k_dflt refine' Mine.sync_short_C ?Cₖ89 ?Fₖ89 ?Nₖ89 ?Tkₖ89 ?Dₖ89 ?haₖ89 ?hcₖ89 ?hlₖ89 ?_; (case Fₖ89 => k_asm); (case Nₖ89 => k_asm); (case Cₖ89 => k_extra "mine cx"); (case Tkₖ89 => k_extra "mine takes"); (case Dₖ89 => k_extra "mine D"); (case haₖ89 => (first | assumption | rfl)); (case hcₖ89 => assumption); (case hlₖ89 => assumption); skip); intro h'ₖ tk'ₖ e'ₖ u0'ₖ u1'ₖ Fl'ₖ; (try dsimp only))) | fail "no"); trivial
namespace Mine
section
variable {w : World} {A₀ A : Around} {s : Shared} {base h₀ : Heap} {outer : List Env} {L : Addr} {m : Str → Option Value} {env : Env} {full rest : List (Addr × Obj)} {R : Result → Shared → Prop}
  {p : Program} {loose : List Str} {mean : ExcName → Option Value} {mg mb : Str → Option Value} {d dx f fx n nx ba st sx wr wx : Addr} {σ : DiskS} {φ : FileS} {ν : NodeS} {τ : StepS} {ω : WrS} {b c : Array UInt8} {kno pro ndo : Obj} {kkv pkv : List (Str × Value)} {nkv : List (Int × Value)}
set_option maxRecDepth 100000
set_option maxHeartbeats 1000000
theorem wsync_short_C (C : Cx (hd.heap_39 w.params) A₀ A base h₀ outer env L p loose mean mg mb 5) (F : Fr h₀ L s.heap m) (N : News h₀ L s.heap full)
    (Tk : Takes [(wr, instObj 244 wx), (wx, wrO w ω), (ω.file, instObj 426 fx), (fx, fileO w φ), (φ.disk, instObj 587 dx), (dx, diskO w σ)] full rest) (D : (full.map (·.1)).Nodup)
    (ha : σ.alive = true) (hc : φ.closed = false) (hl : σ.left = 0)
    (hE : ∀ h' tk e u0' u1', Flies base h₀ L m (env :: outer) (.ref 128) full [(wr, instObj 244 wx), (wx, wrO w ω), (ω.file, instObj 426 fx), (fx, fileO w φ), (φ.disk, instObj 587 dx), (dx, diskO w σ)]
        [(wr, instObj 244 wx), (wx, wrO w ω), (ω.file, instObj 426 fx), (fx, fileO w φ), (φ.disk, instObj 587 dx), (dx, diskO w { σ with left := σ.left - σ.left, alive := false, spent := σ.spent + σ.left, u0 := u0', u1 := u1' })] e h' → R (.error (.ref e)) { s with heap := h', toks := tk }) :
    codeAny (model Challenge.rw_xm0852_01.row.prog w) A (.call (.ref 241) ⟨[.ref wr], []⟩) R s := by
  refine ?whole
  k_extra "mine Dc"
  k_extra "mine enter"
  k_extra "mine until leaving"
  refine raise_on (cs' := [(wr, _), (wx, _), (_, _), (fx, _), (_, _), (dx, _)]) C.B C.hf (by assumption) (by assumption) (by assumption) (by assumption) (by k_extra "mine puts") Tk D (by k_extra "mine takes") (by rfl) fun h' Fl => ?_
  exact hE _ _ _ _ _ Fl
  run_tac Mine.Sh.shrink
end
end Mine
end
section
example : True := by (k_with "cr" => first | (((show wpAny _ _ (call (Value.ref 156) _ _) _ _ _); (refine wpAny_call ?_); (k_dflt refine' Mine.read_fixed32_C ?Cₖ79 ?Fₖ79 ?Nₖ79 ?hjₖ79 ?h1ₖ79 ?hzₖ79 ?_; (case Fₖ79 => k_asm); (case Nₖ79 => k_asm); (case Cₖ79 => k_extra "mine cx"); (case hjₖ79 => (first | rfl | assumption)); (case h1ₖ79 => (first | assumption | k_extra "o")); (case hzₖ79 => (first | assumption | k_extra "o")); skip); intro h'ₖ tk'ₖ t'ₖ F'ₖ N'ₖ; (try dsimp only); (try k_sweep))) | fail "no"); trivial
namespace Mine
structure RdS where
  at_ : Int
  bend : Int
  short : Bool
  torn : Bool
  good : Int
  rs : Addr
  t0 : Tok
  t1 : Tok
  t2 : Tok
  t3 : Tok
  t4 : Tok
  t5 : Tok
  t6 : Tok
  t7 : Tok
  t8 : Tok
  t9 : Tok
  t10 : Tok
  u0 : Tok
  u1 : Tok
  u2 : Tok
  u3 : Tok
  u4 : Tok
  u6 : Tok
  u9 : Tok
  u10 : Tok
abbrev rdO (w : World) (b : Bs) (block check : Int) (ρ : RdS) : Obj :=
  dictOf [kv w "data" ρ.t0 (.bytes b.toArray ρ.u0), kv w "block" ρ.t1 (.int block ρ.u1), kv w "check" ρ.t2 (.int check ρ.u2), kv w "at" ρ.t3 (.int ρ.at_ ρ.u3), kv w "block_end" ρ.t4 (.int ρ.bend ρ.u4), kv w "short" ρ.t5 (.bool ρ.short),
    kv w "skipped" ρ.t6 (.int 0 ρ.u6), kv w "reasons" ρ.t7 (.ref ρ.rs), kv w "torn" ρ.t8 (.bool ρ.torn), kv w "good_length" ρ.t9 (.int ρ.good ρ.u9), kv w "breaks" ρ.t10 (.int 0 ρ.u10)] 11
structure Pos3 where
  at_ : Nat
  bend : Nat
  short : Bool
def Pos3.turn (n bl : Nat) (x : Pos3) : Pos3 := ⟨x.bend, min n (x.bend + bl), decide (min n (x.bend + bl) - x.bend < bl)⟩
def Pos3.norm (n bl : Nat) (x : Pos3) : Pos3 := if x.bend - x.at_ < 7 ∧ x.short = false then x.turn n bl else x
def Pos3.mz (y : Pos3) : Nat := (if y.short = true then 0 else 1) + (if y.bend - y.at_ < 7 then 1 else 0)
def fsize (b : Bs) (a : Nat) : Nat := (b.getD (a + 4) 0).toNat + (b.getD (a + 5) 0).toNat * 256
def fkind (b : Bs) (a : Nat) : Nat := (b.getD (a + 6) 0).toNat
section
variable {w : World} {A₀ A : Around} {s : Shared} {base h₀ : Heap} {outer : List Env} {L : Addr} {m : Str → Option Value} {env : Env} {full rest : List (Addr × Obj)} {R : Result → Shared → Prop}
  {p : Program} {loose : List Str} {mean : ExcName → Option Value} {mg mb : Str → Option Value} {r rx : Addr} {ρ : RdS} {b : Bs}
set_option maxRecDepth 100000
set_option maxHeartbeats 1000000
theorem fragment_C {bl : Nat} {block check : Int} {x : Pos3} (C : Cx (hd.heap_39 w.params) A₀ A base h₀ outer env L p loose mean mg mb 4) (F : Fr h₀ L s.heap m) (N : News h₀ L s.heap full)
    (Tk : Takes [(r, instObj 293 rx), (rx, rdO w b block check ρ)] full rest) (D : (full.map (·.1)).Nodup)
    (hbl : block = (bl : Int)) (h8 : 8 ≤ bl) (h41 : bl ≤ 41) (hc : check = 1 ∨ check = 2) (hz : b.length ≤ 1000000) (hat : ρ.at_ = (x.at_ : Int)) (hbe : ρ.bend = (x.bend : Int)) (hsh : ρ.short = x.short) (hab : x.at_ ≤ x.bend) (hbn : x.bend ≤ b.length)
    (hgood : ∀ y, y = x.norm b.length bl → 7 ≤ y.bend - y.at_ → (y.bend - y.at_ < 7 + fsize b y.at_ → y.short = true) ∧ (7 + fsize b y.at_ ≤ y.bend - y.at_ → fkind b y.at_ ≠ 0 ∧ rd32 b y.at_ = ((chk check (cut b (y.at_ + 6) (y.at_ + 7 + fsize b y.at_)) : Nat) : Int)))
    (hk : ∀ h' tk ρ' tp kd dt u1 u2 y, y = x.norm b.length bl → ρ'.rs = ρ.rs → ρ'.good = ρ.good → ρ'.bend = (y.bend : Int) → ρ'.short = y.short →
      ((kd = -1 ∧ dt = [] ∧ ρ'.at_ = (y.bend : Int) ∧ ((y.bend - y.at_ < 7 ∧ y.short = true ∧ ρ'.torn = (ρ.torn || decide (y.at_ < y.bend))) ∨ (7 ≤ y.bend - y.at_ ∧ y.bend - y.at_ < 7 + fsize b y.at_ ∧ ρ'.torn = true))) ∨
        (7 ≤ y.bend - y.at_ ∧ 7 + fsize b y.at_ ≤ y.bend - y.at_ ∧ kd = ((fkind b y.at_ : Nat) : Int) ∧ dt = cut b (y.at_ + 7) (y.at_ + 7 + fsize b y.at_) ∧ ρ'.at_ = ((y.at_ + 7 + fsize b y.at_ : Nat) : Int) ∧ ρ'.torn = ρ.torn)) →
      Fr h₀ L h' m → BackF h₀ L h' full [(r, instObj 293 rx), (rx, rdO w b block check ρ)] [(r, instObj 293 rx), (rx, rdO w b block check ρ')] [(tp, { cls := .type "tuple", data := .seq #[.int kd u1, .bytes dt.toArray u2] })] →
      (tp :: full.map (·.1)).Nodup → R (.ok (.ret (.ref tp))) { s with heap := h', toks := tk }) :
    codeAny (model Challenge.rw_xm0852_01.row.prog w) A (.call (.ref 283) ⟨[.ref r], []⟩) R s := by
  refine ?whole
  k_extra "mine Dc"
  k_extra "mine enter"
  k_extra "mine until while"
  rename Fr _ _ _ _ => lF
  rename News _ _ _ [_, _] => lN
  refine' while_J (fun q m l => ∃ y ρ', q = Pos3.mz y ∧ m (Str.ofString "self") = some (.ref r) ∧ l = [(r, instObj 293 rx), (rx, rdO w b block check ρ')] ∧ ρ'.rs = ρ.rs ∧ ρ'.good = ρ.good ∧ ρ'.torn = ρ.torn ∧ ρ'.at_ = (y.at_ : Int) ∧ ρ'.bend = (y.bend : Int) ∧ ρ'.short = y.short ∧ y.at_ ≤ y.bend ∧ y.bend ≤ b.length ∧
    (y = x ∨ (y = x.turn b.length bl ∧ x.bend - x.at_ < 7 ∧ x.short = false))) ⟨x, ρ, rfl, rfl, rfl, rfl, rfl, rfl, hat, hbe, hsh, hab, hbn, .inl rfl⟩ lF lN ?turn
  case turn =>
    clear lF lN
    rintro q m1 l1 h tk ⟨⟨a, e, sh⟩, ⟨at', be', sh', to', go', rs', t0, t1, t2, t3, t4, t5, t6, t7, t8, t9, t10, u0, u1, u2, u3, u4, u6, u9, u10⟩, rfl, e1, rfl, hrs, hgo, hto, hya, hyb, hys, hyab, hybn, hyx⟩ F' N'
    dsimp only at hrs hgo hto hya hyb hys hyab hybn
    subst hya
    subst hyb
    subst hys
    dsimp only [rdO] at N'
    replace F' := fr_hasL (.cons e1 .nil) F'
    dsimp only [frL] at F'
    try dsimp only
    k_extra "mine steps"
    try dsimp only
    by_cases hcond : e - a < 7
    · refine WhlIf.yes (decide_eq_true (by k_extra "o")) ?_
      cases sh' with
      | true =>
        have hyn : (⟨a, e, true⟩ : Pos3) = x.norm b.length bl := by
          rcases hyx with rfl | ⟨h, h1, h2⟩
          · unfold Pos3.norm; rw [if_neg (by simp)]
          · unfold Pos3.norm; rw [if_pos ⟨h1, h2⟩]; exact h
        k_extra "mine steps"
        all_goals dsimp only [JEnd]
        all_goals k_extra "mine steps"
        · exact hk _ _ ⟨(e : Int), (e : Int), true, true, go', rs', t0, t1, t2, t3, t4, t5, t6, t7, t8, t9, t10, u0, u1, u2, u4, u4, u6, u9, u10⟩ _ (-1) [] _ _ ⟨a, e, true⟩ hyn hrs hgo rfl rfl (.inl ⟨rfl, rfl, rfl, .inl ⟨hcond, rfl, by rw [decide_eq_true (by show a < e; k_extra "o"), Bool.or_true]⟩⟩) (by assumption) (by k_extra "mine done") (by k_extra "mine freshL")
        · exact hk _ _ ⟨(a : Int), (e : Int), true, to', go', rs', t0, t1, t2, t3, t4, t5, t6, t7, t8, t9, t10, u0, u1, u2, u3, u4, u6, u9, u10⟩ _ (-1) [] _ _ ⟨a, e, true⟩ hyn hrs hgo rfl rfl (.inl ⟨rfl, rfl, by show (a : Int) = e; k_extra "o", .inl ⟨hcond, rfl, by rw [decide_eq_false (by show ¬ a < e; k_extra "o"), Bool.or_false]; exact hto⟩⟩) (by assumption) (by k_extra "mine done") (by k_extra "mine freshL")
      | false =>
        have hyx2 : (⟨a, e, false⟩ : Pos3) = x := by
          rcases hyx with h | ⟨h, h1, h2⟩
          · exact h
          · exfalso
            have h4 := congrArg Pos3.short h
            have h5 := congrArg Pos3.bend h
            have h6 := congrArg Pos3.at_ h
            unfold Pos3.turn at h4 h5 h6
            dsimp only at h4 h5 h6
            have : ¬ (min b.length (x.bend + bl) - x.bend < bl) := of_decide_eq_false h4.symm
            k_extra "o"
        subst hyx2
        k_extra "mine steps"
        have eB : (if ((e : Nat) : Int) + block < ((List.length b : Nat) : Int) then ((e : Nat) : Int) + block else ((List.length b : Nat) : Int)) = ((min (List.length b) (e + bl) : Nat) : Int) := by split <;> k_extra "o"
        have eS : decide (((min (List.length b) (e + bl) : Nat) : Int) - ((e : Nat) : Int) < block) = decide (min (List.length b) (e + bl) - e < bl) := by
          rw [Bool.eq_iff_iff, decide_eq_true_iff, decide_eq_true_iff]; k_extra "o"
        rename News _ _ _ [_, _] => N9
        rw [eB, eS] at N9
        refine' JEnd.next (by assumption) N9 ⟨_, ?lt9, ⟨e, min (List.length b) (e + bl), decide (min (List.length b) (e + bl) - e < bl)⟩, ⟨(e : Int), ((min (List.length b) (e + bl) : Nat) : Int), decide (min (List.length b) (e + bl) - e < bl), to', go', rs', t0, t1, t2, t3, t4, t5, t6, t7, t8, t9, t10, u0, u1, u2, u4, _, u6, u9, u10⟩, rfl, rfl, rfl, hrs, hgo, hto, rfl, rfl, rfl, ?ab9, Nat.min_le_left _ _, .inr ⟨rfl, hcond, rfl⟩⟩
        case ab9 => show e ≤ min (List.length b) (e + bl); k_extra "o"
        case lt9 =>
          unfold Pos3.mz
          rw [if_neg (show ¬ (⟨a, e, false⟩ : Pos3).short = true from Bool.false_ne_true), if_pos (show (⟨a, e, false⟩ : Pos3).bend - (⟨a, e, false⟩ : Pos3).at_ < 7 from hcond)]
          dsimp only
          by_cases hq : min (List.length b) (e + bl) - e < bl
          · rw [if_pos (decide_eq_true hq)]; split <;> k_extra "o"
          · rw [if_neg (show ¬ min (List.length b) (e + bl) - e < 7 by k_extra "o")]; split <;> k_extra "o"
    · refine WhlIf.no (decide_eq_false (by k_extra "o")) ?_
      have hyn : (⟨a, e, sh'⟩ : Pos3) = x.norm b.length bl := by
        rcases hyx with rfl | ⟨h, h1, h2⟩
        · unfold Pos3.norm; rw [if_neg (fun q => hcond q.1)]
        · unfold Pos3.norm; rw [if_pos ⟨h1, h2⟩]; exact h
      have hg := hgood _ hyn (show 7 ≤ e - a by k_extra "o")
      dsimp only at hg
      obtain ⟨f4, q4⟩ : ∃ f4, (List.getD b (((a : Nat) : Int) + 4).toNat 0).toNat = f4 := ⟨_, rfl⟩
      obtain ⟨f5, q5⟩ : ∃ f5, (List.getD b (((a : Nat) : Int) + 5).toNat 0).toNat = f5 := ⟨_, rfl⟩
      obtain ⟨f6, q6⟩ : ∃ f6, (List.getD b (((a : Nat) : Int) + 6).toNat 0).toNat = f6 := ⟨_, rfl⟩
      have hfs : fsize b a = f4 + f5 * 256 := by rw [← q4, ← q5]; unfold fsize; rw [show (((a : Nat) : Int) + 4).toNat = a + 4 by k_extra "o", show (((a : Nat) : Int) + 5).toNat = a + 5 by k_extra "o"]
      have hfk : fkind b a = f6 := by rw [← q6]; unfold fkind; rw [show (((a : Nat) : Int) + 6).toNat = a + 6 by k_extra "o"]
      rw [hfs, hfk] at hg
      try dsimp only
      by_cases hl : e - a < 7 + (f4 + f5 * 256)
      · obtain rfl := hg.1 hl
        k_extra "mine steps"
        exact hk _ _ ⟨(e : Int), (e : Int), true, true, go', rs', t0, t1, t2, t3, t4, t5, t6, t7, t8, t9, t10, u0, u1, u2, u4, u4, u6, u9, u10⟩ _ (-1) [] _ _ ⟨a, e, true⟩ hyn hrs hgo rfl rfl (.inl ⟨rfl, rfl, rfl, .inr ⟨show 7 ≤ e - a by k_extra "o", by show e - a < 7 + fsize b a; k_extra "o", rfl⟩⟩) (by assumption) (by k_extra "mine done") (by k_extra "mine freshL")
      · obtain ⟨hk0, hrd⟩ := hg.2 (by k_extra "o")
        have hcut : cut b (((a : Nat) : Int) + 7 - 1).toNat (((a : Nat) : Int) + 7 + (((List.getD b (((a : Nat) : Int) + 4).toNat 0).toNat : Nat) + ((List.getD b (((a : Nat) : Int) + 5).toNat 0).toNat : Nat) * 256)).toNat = cut b (a + 6) (a + 7 + (f4 + f5 * 256)) := by
          rw [q4, q5]; congr 1 <;> k_extra "o"
        have hcl : (cut b (((a : Nat) : Int) + 7 - 1).toNat (((a : Nat) : Int) + 7 + (((List.getD b (((a : Nat) : Int) + 4).toNat 0).toNat : Nat) + ((List.getD b (((a : Nat) : Int) + 5).toNat 0).toNat : Nat) * 256)).toNat).length ≤ 1000000 := by
          unfold cut; rw [List.length_take, List.length_drop]; k_extra "o"
        rw [← hcut] at hrd
        k_extra "mine steps"
        all_goals first | (exfalso; k_extra "o") | skip
        have hdt : List.drop (Int.toNat 1) (cut b (((a : Nat) : Int) + 7 - 1).toNat (((a : Nat) : Int) + 7 + (((List.getD b (((a : Nat) : Int) + 4).toNat 0).toNat : Nat) + ((List.getD b (((a : Nat) : Int) + 5).toNat 0).toNat : Nat) * 256)).toNat) = cut b (a + 7) (a + 7 + fsize b a) := by
          rw [hcut, hfs]
          unfold cut
          rw [show Int.toNat 1 = 1 from rfl, List.drop_take, List.drop_drop]
          congr 1 <;> first | k_extra "o" | (congr 1; k_extra "o")
        exact hk _ _ ⟨((a : Nat) : Int) + 7 + (((List.getD b (((a : Nat) : Int) + 4).toNat 0).toNat : Nat) + ((List.getD b (((a : Nat) : Int) + 5).toNat 0).toNat : Nat) * 256), (e : Int), sh', to', go', rs', t0, t1, t2, t3, t4, t5, t6, t7, t8, t9, t10, u0, u1, u2, _, u4, u6, u9, u10⟩ _ (((List.getD b (((a : Nat) : Int) + 6).toNat 0).toNat : Nat) : Int) _ _ _ ⟨a, e, sh'⟩ hyn hrs hgo rfl rfl (.inr ⟨show 7 ≤ e - a by k_extra "o", by show 7 + fsize b a ≤ e - a; k_extra "o", by rw [hfk, ← q6], hdt, by dsimp only; k_extra "o", hto⟩) (by assumption) (by k_extra "mine done") (by k_extra "mine freshL")
  run_tac Mine.Sh.shrink
end
end Mine
end
section
set_option maxRecDepth 100000
namespace Mine
theorem mult_near {bl p e : Nat} (hb : 0 < bl) (he : e % bl = 0) (h1 : p ≤ e) (h2 : e ≤ p + bl) : (p % bl = 0 ∧ e = p) ∨ e = p - p % bl + bl := by
  obtain ⟨k, rfl⟩ : ∃ k, e = bl * k := ⟨e / bl, by have := Nat.div_add_mod e bl; k_extra "o"⟩
  have hp := Nat.div_add_mod p bl
  have hr := Nat.mod_lt p hb
  generalize hd : p / bl = d at hp
  generalize hrr : p % bl = r at hp hr
  have h3 : d ≤ k := by
    refine Nat.le_of_lt_succ (Nat.lt_of_mul_lt_mul_left (a := bl) ?_)
    rw [Nat.mul_succ]; k_extra "o"
  have h4 : k < d + 2 := by
    refine Nat.lt_of_mul_lt_mul_left (a := bl) ?_
    rw [Nat.mul_add]; k_extra "o"
  rcases Nat.lt_or_ge d k with h | h
  · have : k = d + 1 := by k_extra "o"
    subst this
    right
    rw [Nat.mul_succ]; k_extra "o"
  · have : k = d := by k_extra "o"
    subst this
    have : r = 0 := by k_extra "o"
    left
    k_extra "o"
theorem same_block {bl p n : Nat} (hb : 0 < bl) (h1 : n - n % bl ≤ p) (h2 : p ≤ n) : p - p % bl = n - n % bl := by
  have hn := Nat.div_add_mod n bl
  have hp := Nat.div_add_mod p bl
  have hr := Nat.mod_lt p hb
  have hs := Nat.mod_lt n hb
  have e : n / bl = p / bl := by
    have a1 : p / bl ≤ n / bl := Nat.div_le_div_right h2
    have a2 : n / bl < p / bl + 1 := by
      refine Nat.lt_of_mul_lt_mul_left (a := bl) ?_
      rw [Nat.mul_succ]; k_extra "o"
    k_extra "o"
  rw [e] at hn
  k_extra "o"
theorem base_mod {bl q : Nat} (hb : 0 < bl) : (q - q % bl + bl) % bl = 0 := by
  have h := Nat.div_add_mod q bl
  have : q - q % bl + bl = bl * (q / bl + 1) := by rw [Nat.mul_succ]; k_extra "o"
  rw [this, Nat.mul_mod_right]
def nxt (bl p : Nat) : Nat := p + (zeros bl p).length
theorem nxt_small {bl p : Nat} (h : room bl p < 7) : nxt bl p = p + room bl p := by unfold nxt zeros; rw [if_pos h, List.length_replicate]
theorem nxt_big {bl p : Nat} (h : ¬ room bl p < 7) : nxt bl p = p := by unfold nxt zeros; rw [if_neg h]; rfl
theorem room_zero {bl p : Nat} (h : p % bl = 0) : room bl p = bl := by unfold room; rw [h]; rfl
theorem nxt_zero {bl p : Nat} (h8 : 8 ≤ bl) (h : p % bl = 0) : nxt bl p = p := nxt_big (by rw [room_zero h]; k_extra "o")
def RdAt (n bl p : Nat) (x : Pos3) : Prop := x.at_ = p ∧ p ≤ x.bend ∧ x.bend ≤ n ∧ ((x.short = false ∧ x.bend % bl = 0 ∧ x.bend ≤ p + bl) ∨ (x.short = true ∧ x.bend = n ∧ n - n % bl ≤ p))
theorem rdAt_start {n bl : Nat} : RdAt n bl 0 ⟨0, 0, false⟩ := ⟨rfl, Nat.le_refl _, Nat.zero_le _, .inl ⟨rfl, Nat.zero_mod _, Nat.zero_le _⟩⟩
theorem norm_at {n bl p : Nat} {x : Pos3} (h8 : 8 ≤ bl) (R : RdAt n bl p x) :
    (nxt bl p ≤ n ∧ (x.norm n bl).at_ = nxt bl p ∧ nxt bl p ≤ (x.norm n bl).bend ∧ (x.norm n bl).bend ≤ n ∧
      (((x.norm n bl).short = false ∧ (x.norm n bl).bend = nxt bl p - nxt bl p % bl + bl) ∨ ((x.norm n bl).short = true ∧ (x.norm n bl).bend = n ∧ n < nxt bl p - nxt bl p % bl + bl))) ∨
    (n < nxt bl p ∧ (x.norm n bl).at_ = p ∧ (x.norm n bl).bend = n ∧ (x.norm n bl).short = true ∧ n - p < 7) := by
  refine ?whole
  obtain ⟨a, e, sh⟩ := x
  obtain ⟨rfl, h1, h2, h3⟩ := R
  dsimp only at h1 h2 h3 ⊢
  have hb : 0 < bl := by k_extra "o"
  have hlt := Nat.mod_lt a hb
  have hle := Nat.mod_le a bl
  rcases h3 with ⟨rfl, hm, hl⟩ | ⟨rfl, rfl, hl⟩
  · rcases mult_near hb hm h1 hl with ⟨hz, rfl⟩ | he
    · have hq := nxt_zero h8 hz
      rw [hq, hz]
      left
      have en : Pos3.norm n bl ⟨e, e, false⟩ = ⟨e, min n (e + bl), decide (min n (e + bl) - e < bl)⟩ := by unfold Pos3.norm; rw [if_pos ⟨by dsimp only; k_extra "o", rfl⟩]; rfl
      rw [en]
      dsimp only
      refine ⟨h2, rfl, by k_extra "o", Nat.min_le_left _ _, ?_⟩
      by_cases hc : n < e + bl
      · right; exact ⟨decide_eq_true (by k_extra "o"), by k_extra "o", by k_extra "o"⟩
      · left; exact ⟨decide_eq_false (by k_extra "o"), by k_extra "o"⟩
    · by_cases hr : room bl a < 7
      · have hq := nxt_small hr
        have hqe : nxt bl a = e := by rw [hq]; unfold room at hr ⊢; k_extra "o"
        have en : Pos3.norm n bl ⟨a, e, false⟩ = ⟨e, min n (e + bl), decide (min n (e + bl) - e < bl)⟩ := by
          unfold Pos3.norm; rw [if_pos ⟨by dsimp only; unfold room at hr; k_extra "o", rfl⟩]; rfl
        rw [en, hqe, hm]
        left
        dsimp only
        refine ⟨h2, rfl, by k_extra "o", Nat.min_le_left _ _, ?_⟩
        by_cases hc : n < e + bl
        · right; exact ⟨decide_eq_true (by k_extra "o"), by k_extra "o", by k_extra "o"⟩
        · left; exact ⟨decide_eq_false (by k_extra "o"), by k_extra "o"⟩
      · have hq := nxt_big hr
        have en : Pos3.norm n bl ⟨a, e, false⟩ = ⟨a, e, false⟩ := by
          unfold Pos3.norm; rw [if_neg]; rintro ⟨z, -⟩; dsimp only at z; unfold room at hr; k_extra "o"
        rw [en, hq]
        left
        exact ⟨by k_extra "o", rfl, h1, h2, .inl ⟨rfl, he⟩⟩
  · have en : Pos3.norm e bl ⟨a, e, true⟩ = ⟨a, e, true⟩ := by unfold Pos3.norm; rw [if_neg]; rintro ⟨-, z⟩; cases z
    rw [en]
    have hs := same_block hb hl h1
    have hn := Nat.mod_lt e hb
    by_cases hr : room bl a < 7
    · right
      rw [nxt_small hr]
      unfold room at hr ⊢
      exact ⟨by k_extra "o", rfl, rfl, rfl, by k_extra "o"⟩
    · left
      rw [nxt_big hr]
      exact ⟨h1, rfl, h1, h2, .inr ⟨rfl, rfl, by k_extra "o"⟩⟩
  run_tac Mine.Sh.shrink
def Pre (b c : Bs) : Prop := b <+: c ∨ c <+: b
theorem Pre.get {b c : Bs} (h : Pre b c) {i : Nat} (h1 : i < b.length) (h2 : i < c.length) : b.getD i 0 = c.getD i 0 := by
  rw [List.getD_eq_getElem?_getD, List.getD_eq_getElem?_getD]
  rcases h with ⟨t, rfl⟩ | ⟨t, rfl⟩
  · rw [List.getElem?_append_left h1]
  · rw [List.getElem?_append_left h2]
theorem Pre.whole {b c : Bs} (h : Pre b c) (h1 : c.length ≤ b.length) : b.take c.length = c := by
  rcases h with ⟨t, rfl⟩ | ⟨t, rfl⟩
  · rw [List.length_append] at h1 ⊢
    have : t = [] := List.length_eq_zero_iff.mp (by k_extra "o")
    subst this; simp
  · simp
theorem Pre.left {b x y : Bs} (h : Pre b (x ++ y)) : Pre b x := by
  rcases h with ⟨t, e⟩ | ⟨t, rfl⟩
  · by_cases hl : b.length ≤ x.length
    · left
      have : b = x.take b.length := by
        have := congrArg (List.take b.length) e
        rw [List.take_left', List.take_append_of_le_length hl] at this
        · exact this
        · rfl
      rw [this]; exact List.take_prefix _ _
    · right
      have : x = b.take x.length := by
        have := congrArg (List.take x.length) e
        rw [List.take_append_of_le_length (by k_extra "o"), List.take_left'] at this
        · exact this.symm
        · rfl
      rw [this]; exact List.take_prefix _ _
  · right; exact ⟨y ++ t, by rw [List.append_assoc]⟩
theorem Pre.right {b x y : Bs} (h : Pre b (x ++ y)) : Pre (b.drop x.length) y := by
  rcases h with ⟨t, e⟩ | ⟨t, rfl⟩
  · by_cases hl : b.length ≤ x.length
    · left
      rw [List.drop_eq_nil_of_le hl]; exact List.nil_prefix
    · left
      have := congrArg (List.drop x.length) e
      rw [List.drop_append_of_le_length (by k_extra "o"), List.drop_left'] at this
      · exact ⟨t, this⟩
      · rfl
  · right
    rw [List.append_assoc, List.drop_left']
    · exact ⟨t, rfl⟩
    · rfl
theorem drop_getD (b : Bs) (q i : Nat) : (b.drop q).getD i 0 = b.getD (q + i) 0 := by
  rw [List.getD_eq_getElem?_getD, List.getD_eq_getElem?_getD, List.getElem?_drop]
theorem frag_at {b body : Bs} {q : Nat} {check : Int} {k : UInt8} (hP : Pre (b.drop q) (frag check k body)) (hz : body.length < 256) (h7 : q + 7 ≤ b.length) :
    fsize b q = body.length ∧ fkind b q = k.toNat ∧ (q + 7 + body.length ≤ b.length → rd32 b q = ((chk check (cut b (q + 6) (q + 7 + body.length)) : Nat) : Int) ∧ cut b (q + 7) (q + 7 + body.length) = body) := by
  refine ?whole
  have hl := frag_len check k body
  have hd : (b.drop q).length = b.length - q := List.length_drop
  have g : ∀ i, i < 7 → b.getD (q + i) 0 = (frag check k body).getD i 0 := fun i hi => by rw [← drop_getD]; exact hP.get (by k_extra "o") (by k_extra "o")
  have g0 := g 0 (by k_extra "o")
  have g1 := g 1 (by k_extra "o")
  have g2 := g 2 (by k_extra "o")
  have g3 := g 3 (by k_extra "o")
  have g4 := g 4 (by k_extra "o")
  have g5 := g 5 (by k_extra "o")
  have g6 := g 6 (by k_extra "o")
  refine ⟨?_, ?_, fun hw => ?_⟩
  · unfold fsize
    rw [g4, g5]
    show (body.length.toUInt8).toNat + (0 : UInt8).toNat * 256 = body.length
    rw [u8 hz]; rfl
  · unfold fkind
    rw [g6]; rfl
  · have hw' := hP.whole (by k_extra "o")
    rw [hl] at hw'
    have c6 : cut b (q + 6) (q + 7 + body.length) = k :: body := by
      have := congrArg (List.drop 6) hw'
      rw [List.drop_take, List.drop_drop] at this
      unfold cut
      rw [show q + 7 + body.length - (q + 6) = body.length + 7 - 6 by k_extra "o", this]; rfl
    have c7 : cut b (q + 7) (q + 7 + body.length) = body := by
      have := congrArg (List.drop 7) hw'
      rw [List.drop_take, List.drop_drop] at this
      unfold cut
      rw [show q + 7 + body.length - (q + 7) = body.length + 7 - 7 by k_extra "o", this]; rfl
    refine ⟨?_, c7⟩
    rw [c6]
    exact rd32_of (chk_lt _ _) g0 g1 g2 g3
  run_tac Mine.Sh.shrink
theorem frag_good {b body : Bs} {bl p : Nat} {check : Int} {k : UInt8} {x : Pos3} (h8 : 8 ≤ bl) (R : RdAt b.length bl p x) (hP : Pre (b.drop (nxt bl p)) (frag check k body)) (hk : k ≠ 0) (hz : body.length < 256) (hfit : nxt bl p % bl + 7 + body.length ≤ bl) :
    ∀ y, y = x.norm b.length bl → 7 ≤ y.bend - y.at_ → (y.bend - y.at_ < 7 + fsize b y.at_ → y.short = true) ∧ (7 + fsize b y.at_ ≤ y.bend - y.at_ → fkind b y.at_ ≠ 0 ∧ rd32 b y.at_ = ((chk check (cut b (y.at_ + 6) (y.at_ + 7 + fsize b y.at_)) : Nat) : Int)) := by
  refine ?whole
  rintro y rfl h7
  rcases norm_at h8 R with ⟨h1, h2, h3, h4, h5⟩ | ⟨h1, h2, h3, h4, h5⟩
  · rw [h2] at h7 ⊢
    have hle := Nat.mod_le (nxt bl p) bl
    obtain ⟨f1, f2, f3⟩ := frag_at hP hz (by k_extra "o")
    rw [f1, f2]
    refine ⟨fun hl => ?_, fun hl => ⟨fun q => hk ?_, (f3 (by k_extra "o")).1⟩⟩
    · rcases h5 with ⟨h5, h6⟩ | ⟨h5, h6⟩
      · k_extra "o"
      · exact h5
    · exact UInt8.toNat_inj.mp q
  · k_extra "o"
  run_tac Mine.Sh.shrink
def RdOk (n bl p : Nat) (ρ : RdS) : Prop := ∃ x, RdAt n bl p x ∧ ρ.at_ = (x.at_ : Int) ∧ ρ.bend = (x.bend : Int) ∧ ρ.short = x.short
def FragOut (n bl p : Nat) (k : UInt8) (body : Bs) (ρ ρ' : RdS) (kd : Int) (dt : Bs) : Prop :=
  (kd = -1 ∧ dt = [] ∧ n < nxt bl p + 7 + body.length ∧ (p = n → ρ'.torn = ρ.torn)) ∨
  (kd = ((k.toNat : Nat) : Int) ∧ dt = body ∧ nxt bl p + 7 + body.length ≤ n ∧ ρ'.torn = ρ.torn ∧ RdOk n bl (nxt bl p + 7 + body.length) ρ' ∧ ρ'.at_ = ((nxt bl p + 7 + body.length : Nat) : Int))
theorem frag_out {b body : Bs} {bl p : Nat} {check : Int} {k : UInt8} {x : Pos3} {ρ ρ' : RdS} {kd : Int} {dt : Bs} (h8 : 8 ≤ bl) (R : RdAt b.length bl p x) (hP : Pre (b.drop (nxt bl p)) (frag check k body)) (hz : body.length < 256) (hfit : nxt bl p % bl + 7 + body.length ≤ bl)
    {y : Pos3} (hy : y = x.norm b.length bl) (hb : ρ'.bend = (y.bend : Int)) (hs : ρ'.short = y.short)
    (ho : (kd = -1 ∧ dt = [] ∧ ρ'.at_ = (y.bend : Int) ∧ ((y.bend - y.at_ < 7 ∧ y.short = true ∧ ρ'.torn = (ρ.torn || decide (y.at_ < y.bend))) ∨ (7 ≤ y.bend - y.at_ ∧ y.bend - y.at_ < 7 + fsize b y.at_ ∧ ρ'.torn = true))) ∨
        (7 ≤ y.bend - y.at_ ∧ 7 + fsize b y.at_ ≤ y.bend - y.at_ ∧ kd = ((fkind b y.at_ : Nat) : Int) ∧ dt = cut b (y.at_ + 7) (y.at_ + 7 + fsize b y.at_) ∧ ρ'.at_ = ((y.at_ + 7 + fsize b y.at_ : Nat) : Int) ∧ ρ'.torn = ρ.torn)) : FragOut b.length bl p k body ρ ρ' kd dt := by
  refine ?whole
  subst hy
  have hle := Nat.mod_le (nxt bl p) bl
  have hnp : p ≤ nxt bl p := by unfold nxt; k_extra "o"
  have hb0 : 0 < bl := by k_extra "o"
  rcases norm_at h8 R with ⟨h1, h2, h3, h4, h5⟩ | ⟨h1, h2, h3, h4, h5⟩
  · rw [h2] at ho
    rcases ho with ⟨o1, o2, o3, o4⟩ | ⟨o1, o2, o3, o4, o5, o6⟩
    · left
      refine ⟨o1, o2, ?_, fun e => ?_⟩
      · rcases o4 with ⟨q1, q2, -⟩ | ⟨q1, q2, -⟩
        · rcases h5 with ⟨h5, -⟩ | ⟨-, h6, -⟩
          · rw [h5] at q2; cases q2
          · k_extra "o"
        · rw [(frag_at hP hz (by k_extra "o")).1] at q2
          rcases h5 with ⟨-, h6⟩ | ⟨-, h6, -⟩ <;> k_extra "o"
      · rcases o4 with ⟨q1, q2, q3⟩ | ⟨q1, q2, -⟩
        · rw [q3, decide_eq_false (by k_extra "o"), Bool.or_false]
        · k_extra "o"
    · right
      obtain ⟨f1, f2, f3⟩ := frag_at hP hz (show nxt bl p + 7 ≤ b.length by k_extra "o")
      rw [f1] at o2 o4 o5
      rw [f2] at o3
      have hf := f3 (by k_extra "o")
      rw [hf.2] at o4
      refine ⟨o3, o4, by k_extra "o", o6, ⟨⟨nxt bl p + 7 + body.length, (x.norm b.length bl).bend, (x.norm b.length bl).short⟩, ⟨rfl, by dsimp only; k_extra "o", h4, ?_⟩, o5, hb, hs⟩, o5⟩
      dsimp only
      rcases h5 with ⟨h5, h6⟩ | ⟨h5, h6, h7⟩
      · left; exact ⟨h5, by rw [h6]; exact base_mod hb0, by k_extra "o"⟩
      · right
        refine ⟨h5, h6, ?_⟩
        have hlt := Nat.mod_lt b.length hb0
        have e : b.length - b.length % bl = nxt bl p - nxt bl p % bl := by
          have hn := Nat.div_add_mod b.length bl
          have hq := Nat.div_add_mod (nxt bl p) bl
          have hq2 := Nat.mod_lt (nxt bl p) hb0
          have e2 : b.length / bl = nxt bl p / bl := by
            have a1 : nxt bl p / bl ≤ b.length / bl := Nat.div_le_div_right h1
            have a2 : b.length / bl < nxt bl p / bl + 1 := by
              refine Nat.lt_of_mul_lt_mul_left (a := bl) ?_
              rw [Nat.mul_succ]; k_extra "o"
            k_extra "o"
          rw [e2] at hn
          k_extra "o"
        k_extra "o"
  · rcases ho with ⟨o1, o2, o3, o4⟩ | ⟨o1, -⟩
    · left
      refine ⟨o1, o2, by k_extra "o", fun e => ?_⟩
      rcases o4 with ⟨q1, q2, q3⟩ | ⟨q1, -⟩
      · rw [q3, decide_eq_false (by k_extra "o"), Bool.or_false]
      · k_extra "o"
    · k_extra "o"
  run_tac Mine.Sh.shrink
end Mine
end
section
set_option maxRecDepth 100000
namespace Mine
theorem chunks_flat {k : Nat} (hk : k ≠ 0) : ∀ (n : Nat) (r : Bs), r.length ≤ n → (chunks k r).flatten = r
  | 0, r, h => by
    have e : r = [] := List.length_eq_zero_iff.mp (by k_extra "o")
    subst e
    rw [chunks_nil rfl]; rfl
  | n + 1, r, h => by
    by_cases hr : r.length = 0
    · rw [chunks_nil hr, List.length_eq_zero_iff.mp hr]; rfl
    · rw [chunks_cons hk hr, List.flatten_cons, chunks_flat hk n _ (by rw [List.length_drop]; k_extra "o"), List.take_append_drop]
theorem chunks_each {k : Nat} : ∀ (n : Nat) (r : Bs), r.length ≤ n → ∀ c ∈ chunks k r, c.length ≤ k
  | 0, r, h, c, hc => by
    rw [chunks, dif_pos (.inl (List.length_eq_zero_iff.mp (by k_extra "o")))] at hc
    exact nomatch hc
  | n + 1, r, h, c, hc => by
    rw [chunks] at hc
    by_cases hr : r = [] ∨ k = 0
    · rw [dif_pos hr] at hc; exact nomatch hc
    · rw [dif_neg hr] at hc
      have h0 : r.length ≠ 0 := fun e => hr (.inl (List.length_eq_zero_iff.mp e))
      have hk : k ≠ 0 := fun e => hr (.inr e)
      rcases List.mem_cons.mp hc with rfl | hc
      · rw [List.length_take]; k_extra "o"
      · exact chunks_each n (r.drop k) (by rw [List.length_drop]; k_extra "o") c hc
theorem parts_flat {bl ln : Nat} {rec : Bs} (h8 : 8 ≤ bl) : (partsOf bl ln rec).flatten = rec := by
  unfold partsOf
  rw [List.flatten_cons, chunks_flat (by k_extra "o") _ _ (Nat.le_refl _), List.take_append_drop]
theorem parts_pos {bl ln : Nat} {rec : Bs} : 0 < (partsOf bl ln rec).length := by unfold partsOf; rw [List.length_cons]; k_extra "o"
theorem addSt_at {check : Int} {bl ln : Nat} {rec : Bs} (h8 : 8 ≤ bl) : ∀ j, j ≤ (partsOf bl ln rec).length → ∃ a, AddSt check bl ln rec j a (if j = 0 then [] else zeros bl ln ++ fragsTo check (partsOf bl ln rec) j) (decide (j = (partsOf bl ln rec).length))
  | 0, _ => ⟨0, by
    have := parts_pos (bl := bl) (ln := ln) (rec := rec)
    rw [decide_eq_false (by k_extra "o"), if_pos rfl]
    exact AddSt.start _ _ _ _⟩
  | j + 1, h => by
    obtain ⟨a, S⟩ := addSt_at (check := check) (ln := ln) (rec := rec) h8 j (by k_extra "o")
    rw [decide_eq_false (by k_extra "o")] at S
    have key : ∀ up wr' e', AddSt check bl ln rec (j + 1) up wr' e' → e' = decide (up = rec.length) → ∃ a, AddSt check bl ln rec (j + 1) a (if j + 1 = 0 then [] else zeros bl ln ++ fragsTo check (partsOf bl ln rec) (j + 1)) (decide (j + 1 = (partsOf bl ln rec).length)) := by
      intro up wr' e' S' he
      have e1 := S'.wr_eq
      have hd := S'.drop (by k_extra "o")
      have hat := S'.at_le
      rw [e1] at S'
      have e2 : e' = decide (j + 1 = (partsOf bl ln rec).length) := by
        rw [he, Bool.eq_iff_iff, decide_eq_true_iff, decide_eq_true_iff]
        have h1 : (partsOf bl ln rec).drop (j + 1) = [] ↔ up = rec.length := by
          rw [hd, chunks_eq_nil (by k_extra "o"), List.length_drop]; k_extra "o"
        rw [← h1, List.drop_eq_nil_iff]; k_extra "o"
      rw [e2] at S'
      exact ⟨up, S'⟩
    exact key _ _ _ (S.step h8 rfl rfl rfl rfl rfl) rfl
theorem mid_full {check : Int} {bl ln : Nat} {rec : Bs} (h8 : 8 ≤ bl) {j : Nat} (h0 : 0 < j) (h : j < (partsOf bl ln rec).length) : (nxt bl ln + (fragsTo check (partsOf bl ln rec) j).length) % bl = 0 := by
  obtain ⟨a, S⟩ := addSt_at (check := check) (ln := ln) (rec := rec) h8 j (by k_extra "o")
  have := S.full h0 (decide_eq_false (by k_extra "o"))
  rw [if_neg (by k_extra "o"), List.length_append, ← Nat.add_assoc] at this
  exact this
def posOf (check : Int) (bl ln : Nat) (rec : Bs) (j : Nat) : Nat := if j = 0 then ln else nxt bl ln + (fragsTo check (partsOf bl ln rec) j).length
theorem nxt_posOf {check : Int} {bl ln : Nat} {rec : Bs} (h8 : 8 ≤ bl) {j : Nat} (h : j < (partsOf bl ln rec).length) : nxt bl (posOf check bl ln rec j) = nxt bl ln + (fragsTo check (partsOf bl ln rec) j).length := by
  unfold posOf
  by_cases h0 : j = 0
  · rw [if_pos h0, h0]; rfl
  · rw [if_neg h0, nxt_zero h8 (mid_full h8 (by k_extra "o") h)]
theorem posOf_succ {check : Int} {bl ln : Nat} {rec : Bs} (h8 : 8 ≤ bl) {j : Nat} (h : j < (partsOf bl ln rec).length) : nxt bl (posOf check bl ln rec j) + 7 + ((partsOf bl ln rec).getD j []).length = posOf check bl ln rec (j + 1) := by
  rw [nxt_posOf h8 h]
  unfold posOf
  rw [if_neg (by k_extra "o"), frags_succ, List.length_append]
  unfold fragOf
  rw [frag_len]; k_extra "o"
theorem posOf_end {check : Int} {bl ln : Nat} {rec : Bs} : posOf check bl ln rec (partsOf bl ln rec).length = ln + (laid check bl ln rec).length := by
  have := parts_pos (bl := bl) (ln := ln) (rec := rec)
  unfold posOf laid
  rw [if_neg (by k_extra "o"), List.length_append]
  unfold nxt; k_extra "o"
theorem posOf_le {check : Int} {bl ln : Nat} {rec : Bs} (h8 : 8 ≤ bl) {j : Nat} (h : j < (partsOf bl ln rec).length) : posOf check bl ln rec (j + 1) ≤ ln + (laid check bl ln rec).length := by
  rw [← posOf_end]
  obtain ⟨t, e⟩ := frags_prefix check (partsOf bl ln rec) (j + 1) ((partsOf bl ln rec).length - (j + 1))
  rw [show j + 1 + ((partsOf bl ln rec).length - (j + 1)) = (partsOf bl ln rec).length by k_extra "o"] at e
  unfold posOf
  rw [if_neg (by k_extra "o"), if_neg (by k_extra "o"), e, List.length_append]; k_extra "o"
theorem part_fit {check : Int} {bl ln : Nat} {rec : Bs} (h8 : 8 ≤ bl) {j : Nat} (h : j < (partsOf bl ln rec).length) : nxt bl (posOf check bl ln rec j) % bl + 7 + ((partsOf bl ln rec).getD j []).length ≤ bl := by
  refine ?whole
  have hb : 0 < bl := by k_extra "o"
  by_cases h0 : j = 0
  · subst h0
    have e : (partsOf bl ln rec).getD 0 [] = rec.take (cap bl ln) := rfl
    have hl : (rec.take (cap bl ln)).length ≤ cap bl ln := by rw [List.length_take]; k_extra "o"
    rw [e]
    have hc := cap_add bl ln h8
    have hm := Nat.mod_lt ln hb
    show nxt bl ln % bl + 7 + _ ≤ bl
    by_cases hr : room bl ln < 7
    · rw [nxt_small hr, room_mod bl ln hb]
      rw [if_pos hr] at hc
      k_extra "o"
    · rw [nxt_big hr]
      rw [if_neg hr] at hc
      unfold room at hc
      k_extra "o"
  · rw [nxt_posOf h8 h, mid_full h8 (by k_extra "o") h]
    have hc : ((partsOf bl ln rec).getD j []).length ≤ bl - 7 := by
      obtain ⟨i, rfl⟩ : ∃ i, j = i + 1 := ⟨j - 1, by k_extra "o"⟩
      unfold partsOf at h ⊢
      rw [List.length_cons] at h
      rw [List.getD_eq_getElem?_getD, List.getElem?_cons_succ, List.getElem?_eq_getElem (by k_extra "o")]
      exact chunks_each _ _ (Nat.le_refl _) _ (List.getElem_mem (by k_extra "o"))
    k_extra "o"
  run_tac Mine.Sh.shrink
theorem frag_pre {check : Int} {bl ln : Nat} {rec b : Bs} (h8 : 8 ≤ bl) (hP : Pre (b.drop ln) (laid check bl ln rec)) {j : Nat} (h : j < (partsOf bl ln rec).length) : Pre (b.drop (nxt bl (posOf check bl ln rec j))) (frag check (kindOf (partsOf bl ln rec).length j).toNat.toUInt8 ((partsOf bl ln rec).getD j [])) := by
  rw [nxt_posOf h8 h]
  have h1 := hP.right
  rw [List.drop_drop] at h1
  obtain ⟨t, e⟩ := frags_prefix check (partsOf bl ln rec) (j + 1) ((partsOf bl ln rec).length - (j + 1))
  rw [show j + 1 + ((partsOf bl ln rec).length - (j + 1)) = (partsOf bl ln rec).length by k_extra "o", frags_succ, List.append_assoc] at e
  rw [e] at h1
  have h2 := h1.right.left
  rw [List.drop_drop] at h2
  exact h2
theorem kindU (m j : Nat) : ((kindOf m j).toNat.toUInt8 : UInt8) ≠ 0 ∧ ((((kindOf m j).toNat.toUInt8).toNat : Nat) : Int) = kindOf m j := by
  have h := kindOf_in m j
  generalize kindOf m j = k at h
  have hk : k = 1 ∨ k = 2 ∨ k = 3 ∨ k = 4 := by k_extra "o"
  rcases hk with rfl | rfl | rfl | rfl <;> exact ⟨by decide, rfl⟩
theorem parts_take {ps : List Bs} {j : Nat} (h : j < ps.length) : (ps.take (j + 1)).flatten = (ps.take j).flatten ++ ps.getD j [] := by
  rw [List.take_succ_eq_append_getElem h, List.flatten_append, List.getD_eq_getElem?_getD, List.getElem?_eq_getElem h]
  simp
def Log (check : Int) (bl : Nat) : Nat → List Bs → Bs
  | _, [] => []
  | p, r :: rs => laid check bl p r ++ Log check bl (p + (laid check bl p r).length) rs
theorem log_append (check : Int) (bl : Nat) : ∀ (as bs : List Bs) (p : Nat), Log check bl p (as ++ bs) = Log check bl p as ++ Log check bl (p + (Log check bl p as).length) bs
  | [], bs, p => rfl
  | a :: as, bs, p => by
    show laid check bl p a ++ Log check bl _ (as ++ bs) = (laid check bl p a ++ Log check bl _ as) ++ _
    rw [log_append check bl as bs, List.append_assoc]
    congr 2
    show _ = Log check bl (p + (laid check bl p a ++ Log check bl _ as).length) bs
    rw [List.length_append, Nat.add_assoc]
theorem log_snoc (check : Int) (bl : Nat) (as : List Bs) (r : Bs) : Log check bl 0 (as ++ [r]) = Log check bl 0 as ++ laid check bl (Log check bl 0 as).length r := by
  rw [log_append, Nat.zero_add]
  show _ ++ (laid check bl _ r ++ []) = _
  rw [List.append_nil]
theorem laid_pos {check : Int} {bl ln : Nat} {rec : Bs} : 7 ≤ (laid check bl ln rec).length := by
  have hp := parts_pos (bl := bl) (ln := ln) (rec := rec)
  obtain ⟨t, e⟩ := frags_prefix check (partsOf bl ln rec) 1 ((partsOf bl ln rec).length - 1)
  rw [show 1 + ((partsOf bl ln rec).length - 1) = (partsOf bl ln rec).length by k_extra "o"] at e
  unfold laid
  rw [e, List.length_append, List.length_append, frags_succ, List.length_append]
  unfold fragOf
  rw [frag_len]; k_extra "o"
end Mine
namespace Mine
theorem posOf_gt {check : Int} {bl ln : Nat} {rec : Bs} {j : Nat} (h : 0 < j) : ln + 7 ≤ posOf check bl ln rec j := by
  obtain ⟨t, e⟩ := frags_prefix check (partsOf bl ln rec) 1 (j - 1)
  rw [show 1 + (j - 1) = j by k_extra "o"] at e
  unfold posOf
  rw [if_neg (by k_extra "o"), e, List.length_append, frags_succ, List.length_append]
  unfold fragOf nxt
  rw [frag_len]; k_extra "o"
theorem parts_take_len {bl ln : Nat} {rec : Bs} (h8 : 8 ≤ bl) (j : Nat) : (((partsOf bl ln rec).take j).flatten).length ≤ rec.length := by
  have h := parts_flat (ln := ln) (rec := rec) h8
  rw [← List.take_append_drop j (partsOf bl ln rec), List.flatten_append] at h
  have := congrArg List.length h
  rw [List.length_append] at this
  k_extra "o"
theorem rdOk_le {n bl p : Nat} {ρ : RdS} (h : RdOk n bl p ρ) : p ≤ n := by
  obtain ⟨x, ⟨_, h2, h3, _⟩, _⟩ := h
  k_extra "o"
end Mine
end
section
example : True := by (k_with "mine until frag" => first | (repeat' ((fail_if_success (with_reducible show wpAny _ _ (call (Value.ref 283) _ _) _ _ _)); (first | (k_unfold; (try dsimp only)) | walk1 | (dsimp only; walk1) | fail "no step"))) | fail "no"); trivial
namespace Mine
section
variable {w : World} {A₀ A : Around} {s : Shared} {base h₀ : Heap} {outer : List Env} {L : Addr} {m : Str → Option Value} {env : Env} {full rest : List (Addr × Obj)} {R : Result → Shared → Prop}
  {p : Program} {loose : List Str} {mean : ExcName → Option Value} {mg mb : Str → Option Value} {r rx : Addr} {ρ : RdS} {b : Bs}
set_option maxRecDepth 100000
set_option maxHeartbeats 1000000
theorem fragment_F {bl q : Nat} {block check : Int} {k : UInt8} {body : Bs} (C : Cx (hd.heap_39 w.params) A₀ A base h₀ outer env L p loose mean mg mb 4) (F : Fr h₀ L s.heap m) (N : News h₀ L s.heap full)
    (Tk : Takes [(r, instObj 293 rx), (rx, rdO w b block check ρ)] full rest) (D : (full.map (·.1)).Nodup)
    (hbl : block = (bl : Int)) (h8 : 8 ≤ bl) (h41 : bl ≤ 41) (hc : check = 1 ∨ check = 2) (hz : b.length ≤ 1000000) (ok : RdOk b.length bl q ρ)
    (hP : Pre (b.drop (nxt bl q)) (frag check k body)) (hk0 : k ≠ 0) (hlen : body.length < 256) (hfit : nxt bl q % bl + 7 + body.length ≤ bl)
    (hk : ∀ h' tk ρ' tp kd dt u1 u2, FragOut b.length bl q k body ρ ρ' kd dt → ρ'.rs = ρ.rs → ρ'.good = ρ.good →
      Fr h₀ L h' m → BackF h₀ L h' full [(r, instObj 293 rx), (rx, rdO w b block check ρ)] [(r, instObj 293 rx), (rx, rdO w b block check ρ')] [(tp, { cls := .type "tuple", data := .seq #[.int kd u1, .bytes dt.toArray u2] })] →
      (tp :: full.map (·.1)).Nodup → R (.ok (.ret (.ref tp))) { s with heap := h', toks := tk }) :
    codeAny (model Challenge.rw_xm0852_01.row.prog w) A (.call (.ref 283) ⟨[.ref r], []⟩) R s := by
  refine ?whole
  obtain ⟨x, Rx, e1, e2, e3⟩ := ok
  exact fragment_C C F N Tk D hbl h8 h41 hc hz e1 e2 e3 (by rw [Rx.1]; exact Rx.2.1) Rx.2.2.1 (frag_good h8 Rx hP hk0 hlen hfit)
    fun h' tk ρ' tp kd dt u1 u2 y hy hrs hgo hbe hsh ho F' B' Df => hk h' tk ρ' tp kd dt u1 u2 (frag_out h8 Rx hP hlen hfit hy hbe hsh ho) hrs hgo F' B' Df
  run_tac Mine.Sh.shrink
theorem rread_C {bl q : Nat} {block check : Int} {rec : Bs} (C : Cx (hd.heap_39 w.params) A₀ A base h₀ outer env L p loose mean mg mb 5) (F : Fr h₀ L s.heap m) (N : News h₀ L s.heap full)
    (Tk : Takes [(r, instObj 293 rx), (rx, rdO w b block check ρ)] full rest) (D : (full.map (·.1)).Nodup)
    (hbl : block = (bl : Int)) (h8 : 8 ≤ bl) (h41 : bl ≤ 41) (hc : check = 1 ∨ check = 2) (hz : b.length ≤ 1000000) (ok : RdOk b.length bl q ρ)
    (hP : Pre (b.drop q) (laid check bl q rec)) (hr : rec.length ≤ 100)
    (hk : ∀ h' tk ρ' t, q + (laid check bl q rec).length ≤ b.length → RdOk b.length bl (q + (laid check bl q rec).length) ρ' → ρ'.rs = ρ.rs → ρ'.torn = ρ.torn → ρ'.good = ((q + (laid check bl q rec).length : Nat) : Int) →
      Fr h₀ L h' m → Back h₀ L h' full [(r, instObj 293 rx), (rx, rdO w b block check ρ)] [(r, instObj 293 rx), (rx, rdO w b block check ρ')] →
      R (.ok (.ret (.bytes rec.toArray t))) { s with heap := h', toks := tk })
    (hn : ∀ h' tk ρ', b.length < q + (laid check bl q rec).length → (q = b.length → ρ'.torn = ρ.torn) → ρ'.rs = ρ.rs → ρ'.good = ρ.good →
      Fr h₀ L h' m → Back h₀ L h' full [(r, instObj 293 rx), (rx, rdO w b block check ρ)] [(r, instObj 293 rx), (rx, rdO w b block check ρ')] →
      R (.ok (.ret .none)) { s with heap := h', toks := tk }) :
    codeG (model Challenge.rw_xm0852_01.row.prog w) A (.call (.ref 290) ⟨[.ref r], []⟩) R s := by
  refine ?whole
  k_extra "mine Dc"
  k_extra "mine enterG"
  refine g_cons_any ?_
  k_extra "mine steps"
  refine g_cons (g_assign_name (g_call_name ?_))
  k_extra "mine steps"
  refine g_callWith_B (by intro a; exact Value.noConfusion) rfl (wpG_of_any ?_)
  k_extra "mine steps"
  refine call_ba0 (by k_asm) (by k_asm) ?_
  intro pa0 h' F' N' l1
  k_lt l1
  k_extra "mine steps"
  have hps := parts_pos (bl := bl) (ln := q) (rec := rec)
  have Dp : ([pa0, r, rx] : List Addr).Nodup := by k_extra "mine D1"
  rename Fr _ _ _ _ => lF
  rename News _ _ _ [_, _, _] => lN
  refine g_cons ?_
  refine' while_JG (fun z m l => ∃ j ρ' pa, z = (partsOf bl q rec).length - j ∧ j < (partsOf bl q rec).length ∧ l = [(pa, baO (List.toArray (((partsOf bl q rec).take j).flatten))), (r, instObj 293 rx), (rx, rdO w b block check ρ')] ∧ ([pa, r, rx] : List Addr).Nodup ∧
    RdOk b.length bl (posOf check bl q rec j) ρ' ∧ ρ'.rs = ρ.rs ∧ ρ'.good = ρ.good ∧ ρ'.torn = ρ.torn ∧
    m (Str.ofString "self") = some (.ref r) ∧ m (Str.ofString "begun") = some (.bool (decide (0 < j))) ∧ m (Str.ofString "parts") = some (.ref pa)) ⟨0, ρ, pa0, rfl, hps, rfl, Dp, ok, rfl, rfl, rfl, rfl, rfl, rfl⟩ lF lN ?turn
  case turn =>
    clear lF lN
    rintro z m1 l1 h tk ⟨j, ρ1, pa, rfl, hj, rfl, Dj, ok1, hrs1, hgo1, hto1, e1, e2, e3⟩ F' N'
    replace F' := fr_hasL (.cons e1 (.cons e2 (.cons e3 .nil))) F'
    dsimp only [frL] at F'
    try dsimp only
    k_extra "mine steps"
    refine g_cons_any ?_
    k_extra "mine until frag"
    try dsimp only
    refine wpAny_call ?_
    refine' fragment_F (q := posOf check bl q rec j) (k := (kindOf (partsOf bl q rec).length j).toNat.toUInt8) (body := (partsOf bl q rec).getD j []) ?C ?F ?N ?Tk ?D hbl h8 h41 hc hz ok1 (frag_pre h8 hP hj) (kindU _ _).1 ?hlen (part_fit h8 hj) ?hk
    case C => k_extra "mine cx"
    case F => k_asm
    case N => k_asm
    case Tk => k_extra "mine takes"
    case D => k_extra "mine D"
    case hlen =>
      have := parts_le (bl := bl) (ln := q) (rec := rec) j
      k_extra "o"
    case hk =>
      intro h' tk' ρ2 tp kd dt u1 u2 Ho hrs2 hgo2 F' N' Df
      replace N' := N'.get (by k_extra "mine puts")
      dsimp only [List.cons_append, List.nil_append] at N'
      simp only [List.map_cons, List.map_nil] at Df
      try dsimp only
      have hq1 := posOf_succ (check := check) (ln := q) (rec := rec) h8 hj
      unfold FragOut at Ho
      rw [hq1] at Ho
      rcases Ho with ⟨rfl, rfl, ho3, ho4⟩ | ⟨hkd, rfl, ho3, ho4, ho5, ho6⟩
      · k_extra "mine steps"
        try dsimp only
        refine g_cons_any ?_
        have hle := posOf_le (check := check) (ln := q) (rec := rec) h8 hj
        by_cases hj0 : 0 < j
        · rename Fr _ _ _ _ => F9
          rw [decide_eq_true hj0] at F9
          k_extra "mine steps"
          dsimp only [JEnd]
          k_extra "mine leave"
          exact hn _ _ { ρ2 with torn := true } (by k_extra "o") (fun e => by exfalso; have h1 := rdOk_le ok1; have h2 := posOf_gt (check := check) (bl := bl) (ln := q) (rec := rec) hj0; k_extra "o") (hrs2.trans hrs1) (hgo2.trans hgo1) (by assumption) (by k_extra "mine done")
        · rename Fr _ _ _ _ => F9
          rw [decide_eq_false hj0] at F9
          k_extra "mine steps"
          dsimp only [JEnd]
          k_extra "mine leave"
          obtain rfl : j = 0 := by k_extra "o"
          exact hn _ _ ρ2 (by k_extra "o") (fun e => (ho4 e).trans hto1) (hrs2.trans hrs1) (hgo2.trans hgo1) (by assumption) (by k_extra "mine done")
      · rw [(kindU _ _).2] at hkd
        have hko : kindOf (partsOf bl q rec).length j = if (partsOf bl q rec).length = 1 then 1 else if j = 0 then 2 else if j + 1 = (partsOf bl q rec).length then 4 else 3 := rfl
        have hsz1 := parts_take_len (ln := q) (rec := rec) h8 j
        have hsz2 := parts_le (bl := bl) (ln := q) (rec := rec) j
        have htk := parts_take hj
        have hz9 : (List.toArray (((partsOf bl q rec).take (j + 1)).flatten)).size ≤ 16777216 := by
          have := parts_take_len (ln := q) (rec := rec) h8 (j + 1)
          rw [List.size_toArray]; k_extra "o"
        by_cases hm1 : (partsOf bl q rec).length = 1
        · rw [hko, if_pos hm1] at hkd
          obtain rfl : j = 0 := by k_extra "o"
          subst hkd
          have e0 : (partsOf bl q rec).getD 0 [] = rec := by
            have h1 := parts_flat (ln := q) (rec := rec) h8
            rw [← List.take_length (l := partsOf bl q rec), hm1, htk] at h1
            exact h1
          have e1' : posOf check bl q rec (0 + 1) = q + (laid check bl q rec).length := by rw [← posOf_end, hm1]
          rename Fr _ _ _ _ => F9
          rw [decide_eq_false (Nat.lt_irrefl 0)] at F9
          k_extra "mine steps"
          try dsimp only
          refine g_cons_any ?_
          k_extra "mine steps"
          try dsimp only
          refine g_cons (g_if_any ?_)
          k_extra "mine steps"
          try dsimp only
          refine g_cons_any ?_
          k_extra "mine steps"
          try dsimp only
          refine g_cons_any ?_
          k_extra "mine steps"
          dsimp only [JEnd]
          k_extra "mine leave"
          rw [e0]
          rw [e1'] at ho3 ho5 ho6
          exact hk _ _ { ρ2 with good := ρ2.at_, u9 := ρ2.u3 } _ ho3 ho5 (hrs2.trans hrs1) (ho4.trans hto1) ho6 (by assumption) (by k_extra "mine done")
        · by_cases hj0 : j = 0
          · rw [hko, if_neg hm1, if_pos hj0] at hkd
            subst hj0
            subst hkd
            rename Fr _ _ _ _ => F9
            rw [decide_eq_false (Nat.lt_irrefl 0)] at F9
            k_extra "mine steps"
            try dsimp only
            refine g_cons_any ?_
            k_extra "mine steps"
            try dsimp only
            refine g_cons (g_if_any ?_)
            k_extra "mine steps"
            try dsimp only
            refine g_cons_any ?_
            k_extra "mine steps"
            try dsimp only
            refine g_cons_any ?_
            k_extra "mine steps"
            try dsimp only
            refine g_cons (g_assign_name (g_call_name ?_))
            k_extra "mine steps"
            refine g_callWith_B (by intro a; exact Value.noConfusion) rfl (wpG_of_any ?_)
            k_extra "mine steps"
            refine call_ba_bytes (by k_asm) (by k_asm) (by rw [List.size_toArray]; k_extra "o") ?_
            intro pa1 h' F' N' l1
            k_lt l1
            k_extra "mine steps"
            try dsimp only
            refine g_cons_any ?_
            k_extra "mine steps"
            try dsimp only
            repeat (first | refine g_nil ?_ | dsimp only)
            rename News _ _ _ _ => N9
            have e9 : (partsOf bl q rec).getD 0 [] = ((partsOf bl q rec).take (0 + 1)).flatten := by rw [htk]; rfl
            rw [e9] at N9
            have D9 : ([pa1, r, rx] : List Addr).Nodup := by k_extra "mine D1"
            refine' JEnd.next (l' := [(pa1, _), (r, _), (rx, _)]) (by assumption) (newsSub N9 (by k_extra "mine takes")) ⟨_, ?lt9, 0 + 1, ρ2, pa1, rfl, ?l9, rfl, D9, ho5, hrs2.trans hrs1, hgo2.trans hgo1, ho4.trans hto1, rfl, rfl, rfl⟩
            case lt9 => k_extra "o"
            case l9 => k_extra "o"
          · by_cases hjl : j + 1 = (partsOf bl q rec).length
            · rw [hko, if_neg hm1, if_neg hj0, if_pos hjl] at hkd
              subst hkd
              rename Fr _ _ _ _ => F9
              rw [decide_eq_true (show 0 < j by k_extra "o")] at F9
              k_extra "mine steps"
              try dsimp only
              refine g_cons_any ?_
              k_extra "mine steps"
              try dsimp only
              refine g_cons (g_if_any ?_)
              k_extra "mine steps"
              try dsimp only
              refine g_cons (g_if_any ?_)
              k_extra "mine steps"
              try dsimp only
              refine g_cons (g_if_any ?_)
              k_extra "mine steps"
              try dsimp only
              refine g_cons (g_expr (g_call_attr ?_))
              k_extra "mine steps"
              refine g_callWith_B (by intro a; exact Value.noConfusion) rfl (wpG_of_any ?_)
              k_extra "mine steps"
              refine' call_extend (b := List.toArray ((List.take j (partsOf bl q rec)).flatten)) (c := List.toArray ((partsOf bl q rec).getD j [])) ?F9 ?N9 ?U9 (by rw [List.size_toArray, List.size_toArray]; k_extra "o") ?_
              case F9 => k_asm
              case N9 => k_asm
              case U9 => k_upd
              intro h' F' N'
              try dsimp only
              rw [List.append_toArray, ← htk] at N'
              refine g_cons_any ?_
              k_extra "mine steps"
              try dsimp only
              dsimp only [JEnd]
              k_extra "mine leave"
              have e0 : ((partsOf bl q rec).take (j + 1)).flatten = rec := by rw [hjl, List.take_length]; exact parts_flat h8
              have e1' : posOf check bl q rec (j + 1) = q + (laid check bl q rec).length := by rw [← posOf_end, hjl]
              rw [e0]
              rw [e1'] at ho3 ho5 ho6
              exact hk _ _ { ρ2 with good := ρ2.at_, u9 := ρ2.u3 } _ ho3 ho5 (hrs2.trans hrs1) (ho4.trans hto1) ho6 (by assumption) (by k_extra "mine done")
            · rw [hko, if_neg hm1, if_neg hj0, if_neg hjl] at hkd
              subst hkd
              rename Fr _ _ _ _ => F9
              rw [decide_eq_true (show 0 < j by k_extra "o")] at F9
              k_extra "mine steps"
              try dsimp only
              refine g_cons_any ?_
              k_extra "mine steps"
              try dsimp only
              refine g_cons (g_if_any ?_)
              k_extra "mine steps"
              try dsimp only
              refine g_cons (g_if_any ?_)
              k_extra "mine steps"
              try dsimp only
              refine g_cons (g_if_any ?_)
              k_extra "mine steps"
              try dsimp only
              refine g_cons (g_expr (g_call_attr ?_))
              k_extra "mine steps"
              refine g_callWith_B (by intro a; exact Value.noConfusion) rfl (wpG_of_any ?_)
              k_extra "mine steps"
              refine' call_extend (b := List.toArray ((List.take j (partsOf bl q rec)).flatten)) (c := List.toArray ((partsOf bl q rec).getD j [])) ?F9 ?N9 ?U9 (by rw [List.size_toArray, List.size_toArray]; k_extra "o") ?_
              case F9 => k_asm
              case N9 => k_asm
              case U9 => k_upd
              intro h' F' N'
              try dsimp only
              rw [List.append_toArray, ← htk] at N'
              refine g_cons_any ?_
              k_extra "mine steps"
              try dsimp only
              repeat (first | refine g_nil ?_ | dsimp only)
              refine' JEnd.next (l' := [(pa, _), (r, _), (rx, _)]) (by assumption) (newsSub N' (by k_extra "mine takes")) ⟨_, ?lt8, j + 1, ρ2, pa, rfl, ?l8, rfl, Dj, ho5, hrs2.trans hrs1, hgo2.trans hgo1, ho4.trans hto1, rfl, ?bg8, rfl⟩
              case lt8 => k_extra "o"
              case l8 => k_extra "o"
              case bg8 => rw [decide_eq_true (show 0 < j + 1 by k_extra "o")]; rfl
  run_tac Mine.Sh.shrink
end
end Mine
end
section
example : True := by (k_with "call type:bytes" => first | ((k_here; (try dsimp only); (with_reducible show wpAny _ _ (call (Value.type "bytes") [Value.bytes _ _]) _ _ _); (with_unfolding_all refine' Mine.call_by_bytes ?_); intro _ _; (try dsimp only))) | fail "no"); trivial
namespace Mine
def LogSt (check : Int) (bl : Nat) (recs : List Bs) (n : Nat) (pre : List Bs) (vr : Value) (ρ : RdS) (z : Nat) : Prop :=
  (∃ r suf t, recs = pre ++ r :: suf ∧ vr = .bytes r.toArray t ∧ RdOk n bl (Log check bl 0 (pre ++ [r])).length ρ ∧ ρ.good = (((Log check bl 0 (pre ++ [r])).length : Nat) : Int) ∧ ρ.torn = false ∧ z = suf.length + 1) ∨
  (∃ suf, recs = pre ++ suf ∧ vr = .none ∧ ρ.good = (((Log check bl 0 pre).length : Nat) : Int) ∧ (Log check bl 0 pre).length ≤ n ∧ (∀ r suf', suf = r :: suf' → n < (Log check bl 0 (pre ++ [r])).length) ∧ (n = (Log check bl 0 pre).length → ρ.torn = false) ∧ z = 0)
section
variable {w : World} {A₀ A : Around} {s : Shared} {base h₀ : Heap} {outer : List Env} {L : Addr} {m : Str → Option Value} {env : Env} {full rest : List (Addr × Obj)} {R : Result → Shared → Prop}
  {p : Program} {loose : List Str} {mean : ExcName → Option Value} {mg mb : Str → Option Value} {r rx : Addr} {ρ : RdS} {b : Bs} {recs pre suf : List Bs}
set_option maxRecDepth 100000
set_option maxHeartbeats 1000000
theorem read_L {bl : Nat} {block check : Int} (C : Cx (hd.heap_39 w.params) A₀ A base h₀ outer env L p loose mean mg mb 5) (F : Fr h₀ L s.heap m) (N : News h₀ L s.heap full)
    (Tk : Takes [(r, instObj 293 rx), (rx, rdO w b block check ρ)] full rest) (D : (full.map (·.1)).Nodup)
    (hbl : block = (bl : Int)) (h8 : 8 ≤ bl) (h41 : bl ≤ 41) (hc : check = 1 ∨ check = 2) (hz : b.length ≤ 1000000) (hb : b <+: Log check bl 0 recs) (hlen : ∀ x ∈ recs, x.length ≤ 100) (hrec : recs = pre ++ suf)
    (ok : RdOk b.length bl (Log check bl 0 pre).length ρ) (hg : ρ.good = (((Log check bl 0 pre).length : Nat) : Int)) (ht : ρ.torn = false)
    (hk : ∀ h' tk ρ' vr z, LogSt check bl recs b.length pre vr ρ' z → z ≤ suf.length → ρ'.rs = ρ.rs →
      Fr h₀ L h' m → Back h₀ L h' full [(r, instObj 293 rx), (rx, rdO w b block check ρ)] [(r, instObj 293 rx), (rx, rdO w b block check ρ')] →
      R (.ok (.ret vr)) { s with heap := h', toks := tk }) :
    codeG (model Challenge.rw_xm0852_01.row.prog w) A (.call (.ref 290) ⟨[.ref r], []⟩) R s := by
  refine ?whole
  have hbl2 := hb.length_le
  have hle := rdOk_le ok
  cases suf with
  | nil =>
    rw [List.append_nil] at hrec
    subst hrec
    refine rread_C (rec := []) C F N Tk D hbl h8 h41 hc hz ok (.inl (by rw [List.drop_eq_nil_of_le hbl2]; exact List.nil_prefix)) (Nat.zero_le _) ?_ ?_
    · intro h' tk ρ' t hl
      exfalso
      have := laid_pos (check := check) (bl := bl) (ln := (Log check bl 0 recs).length) (rec := [])
      k_extra "o"
    · intro h' tk ρ' hl ht' hrs hgo F' B'
      exact hk h' tk ρ' .none 0 (.inr ⟨[], by simp, rfl, hgo.trans hg, hle, fun r s q => (nomatch q), fun q => (ht' q.symm).trans ht, rfl⟩) (Nat.zero_le _) hrs F' B'
  | cons x suf =>
    have e := log_snoc check bl pre x
    have hP : Pre (b.drop (Log check bl 0 pre).length) (laid check bl (Log check bl 0 pre).length x) := by
      have h1 : Pre b (Log check bl 0 pre ++ (laid check bl (Log check bl 0 pre).length x ++ Log check bl ((Log check bl 0 pre).length + (laid check bl (Log check bl 0 pre).length x).length) suf)) := by
        rw [hrec, log_append, Nat.zero_add] at hb
        exact .inl hb
      exact h1.right.left
    have el : (Log check bl 0 (pre ++ [x])).length = (Log check bl 0 pre).length + (laid check bl (Log check bl 0 pre).length x).length := by rw [e, List.length_append]
    refine rread_C (rec := x) C F N Tk D hbl h8 h41 hc hz ok hP (hlen x (by rw [hrec]; simp)) ?_ ?_
    · intro h' tk ρ' t hl ok' hrs ht' hgo F' B'
      rw [← el] at ok' hgo
      exact hk h' tk ρ' _ _ (.inl ⟨x, suf, t, hrec, rfl, ok', hgo, ht'.trans ht, rfl⟩) (by rw [List.length_cons]; k_extra "o") hrs F' B'
    · intro h' tk ρ' hl ht' hrs hgo F' B'
      rw [← el] at hl
      exact hk h' tk ρ' .none 0 (.inr ⟨x :: suf, hrec, rfl, hgo.trans hg, hle, fun r s q => by cases q; exact hl, fun q => (ht' q.symm).trans ht, rfl⟩) (Nat.zero_le _) hrs F' B'
  run_tac Mine.Sh.shrink
theorem rinit_C {x dx : Addr} {bl : Nat} {block check : Int} {t u v : Tok} (C : Cx (hd.heap_39 w.params) A₀ A base h₀ outer env L p loose mean mg mb 2) (F : Fr h₀ L s.heap m) (N : News h₀ L s.heap full)
    (Tk : Takes [(x, instObj 293 dx), (dx, dictOf [] 0)] full rest) (D : (full.map (·.1)).Nodup)
    (hbl : block = (bl : Int)) (h8 : 8 ≤ bl) (h41 : bl ≤ 41) (hc : check = 1 ∨ check = 2)
    (hk : ∀ h' tk ρ, RdOk b.length bl 0 ρ → ρ.good = 0 → ρ.torn = false → Fr h₀ L h' m → BackF h₀ L h' full [(x, instObj 293 dx), (dx, dictOf [] 0)] [(x, instObj 293 dx), (dx, rdO w b block check ρ)] [(ρ.rs, listOf #[] 0)] → (ρ.rs :: full.map (·.1)).Nodup → R (.ok (.ret .none)) { s with heap := h', toks := tk }) :
    codeAny (model Challenge.rw_xm0852_01.row.prog w) A (.call (.ref 262) ⟨[.ref x, .bytes b.toArray t, .int block u, .int check v], []⟩) R s := by
  refine ?whole
  have h8i : 8 ≤ block := by k_extra "o"
  have h41i : block ≤ 41 := by k_extra "o"
  k_extra "mine Dc"
  k_extra "mine enter"
  k_extra "mine steps"
  exact hk _ _ ⟨0, 0, false, false, 0, _, _, _, _, _, _, _, _, _, _, _, _, _, _, _, _, _, _, _, _⟩ ⟨⟨0, 0, false⟩, rdAt_start, rfl, rfl, rfl⟩ rfl rfl (by assumption) (by k_extra "mine done") (by k_extra "mine fresh")
  run_tac Mine.Sh.shrink
theorem new_reader {E : Value → Shared → Prop} {Q : Value → Shared → Prop} {bl : Nat} {block check : Int} {t u v : Tok} (C : Cx (hd.heap_39 w.params) A₀ A base h₀ outer env L p loose mean mg mb 4) (F : Fr h₀ L s.heap m) (N : News h₀ L s.heap full) (D : (full.map (·.1)).Nodup)
    (hbl : block = (bl : Int)) (h8 : 8 ≤ bl) (h41 : bl ≤ 41) (hc : check = 1 ∨ check = 2)
    (hk : ∀ h' tk x dx ρ, RdOk b.length bl 0 ρ → ρ.good = 0 → ρ.torn = false → Fr h₀ L h' m → News h₀ L h' ((ρ.rs, listOf #[] 0) :: (x, instObj 293 dx) :: (dx, rdO w b block check ρ) :: full) → (ρ.rs :: x :: dx :: full.map (·.1)).Nodup → Q (.ref x) { s with heap := h', toks := tk }) :
    wpAny (model Challenge.rw_xm0852_01.row.prog w) A (call (.ref 293) [.bytes b.toArray t, .int block u, .int check v]) Q E s := by
  refine ?whole
  have CB := C.B
  have CX := C.X
  have CT := C.T
  obtain ⟨a1, a2, a3, a4, a5⟩ := A
  obtain rfl : a3 = some (env :: outer) := C.hA
  obtain rfl : a1 = none := C.hh
  have hroom := C.room
  have hunits := C.units
  dsimp only at hroom hunits
  refine' call_cls (fI := 262) F C.X N ?k4 ?k5 ?k6 ?_
  case k4 => k_is
  case k5 => k_is
  case k6 => k_is
  intro x dx h' F' N' l1 l2
  refine rinit_C (A₀ := A₀) (base := base) (outer := outer) (env := env) (p := p) (loose := loose) (mean := mean) (mg := mg) (mb := mb) ?C F' N' (.cons .head (.cons .head .nil)) (nodup_new2 D l1 l2) hbl h8 h41 hc ?_
  · exact ⟨CB, CX, CT, rfl, C.hf, C.hk, rfl, by k_room, by k_units⟩
  · intro h'' tk ρ r1 r2 r3 F'' B'' D''
    exact ⟨rfl, hk h'' tk x dx ρ r1 r2 r3 F'' (B''.get (.cons .head (.cons (.tail .head) .nil))) D''⟩
  run_tac Mine.Sh.shrink
end
end Mine
example : True := by (k_with "cr" => first | (((show wpAny _ _ (call (Value.ref 293) _ _) _ _ _); (k_dflt refine' Mine.new_reader ?Cₖ69 ?Fₖ69 ?Nₖ69 ?Dₖ69 ?hblₖ69 ?h8ₖ69 ?h41ₖ69 ?hcₖ69 ?_; (case Fₖ69 => k_asm); (case Nₖ69 => k_asm); (case Cₖ69 => k_extra "mine cx"); (case Dₖ69 => k_extra "mine D"); (case hblₖ69 => assumption); (case h8ₖ69 => assumption); (case h41ₖ69 => assumption); (case hcₖ69 => assumption); skip); intro h'ₖ tk'ₖ x'ₖ d'ₖ ρ'ₖ ok'ₖ gd'ₖ to'ₖ F'ₖ N'ₖ D'ₖ; (simp only [List.map_cons, List.map_nil] at D'ₖ); (try dsimp only); (try k_sweep))) | fail "no"); trivial
namespace Mine
section
variable {w : World} {A₀ A : Around} {s : Shared} {base h₀ : Heap} {outer : List Env} {L : Addr} {m : Str → Option Value} {env : Env} {full rest : List (Addr × Obj)} {R : Result → Shared → Prop}
  {p : Program} {loose : List Str} {mean : ExcName → Option Value} {mg mb : Str → Option Value} {r rx : Addr} {ρ : RdS} {b : Bs} {recs pre suf : List Bs}
set_option maxRecDepth 100000
set_option maxHeartbeats 1000000
theorem read_all_C {bl : Nat} {block check : Int} {t u v : Tok} (C : Cx (hd.heap_39 w.params) A₀ A base h₀ outer env L p loose mean mg mb 6) (F : Fr h₀ L s.heap m) (N : News h₀ L s.heap full) (D : (full.map (·.1)).Nodup)
    (hbl : block = (bl : Int)) (h8 : 8 ≤ bl) (h41 : bl ≤ 41) (hc : check = 1 ∨ check = 2) (hz : b.length ≤ 1000000) (hb : b = Log check bl 0 recs) (hlen : ∀ x ∈ recs, x.length ≤ 100) (hn : recs.length ≤ 100)
    (hk : ∀ h' tk tp ls vs zz r rx ρ', BytesAre vs recs → ρ'.good = (b.length : Int) → ρ'.torn = false →
      Fr h₀ L h' m → BackF h₀ L h' full [] [] [(tp, { cls := .type "tuple", data := .seq #[.ref ls, .ref r] }), (ls, listOf vs.toArray zz), (ρ'.rs, listOf #[] 0), (r, instObj 293 rx), (rx, rdO w b block check ρ')] →
      (tp :: ls :: ρ'.rs :: r :: rx :: full.map (·.1)).Nodup → R (.ok (.ret (.ref tp))) { s with heap := h', toks := tk }) :
    codeG (model Challenge.rw_xm0852_01.row.prog w) A (.call (.ref 304) ⟨[.bytes b.toArray t, .int block u, .int check v], []⟩) R s := by
  refine ?whole
  have Tk := takes0 (full := full)
  have h8i : 8 ≤ block := by k_extra "o"
  have h41i : block ≤ 41 := by k_extra "o"
  k_extra "mine enterG"
  refine g_cons_any ?_
  k_extra "mine steps"
  refine g_cons_any ?_
  k_extra "mine steps"
  refine g_cons (g_assign_name (g_call_attr ?_))
  k_extra "mine steps"
  refine g_callWith_K (K := hd.heap_39 w.params) (by k_is) rfl ?_
  refine g_args_nil ?_
  refine ⟨by k_in, ?_⟩
  try dsimp only
  refine wpG_call ?_
  rename RdOk _ _ _ _ => ok0
  rename RdS.good _ = _ => gd0
  rename RdS.torn _ = _ => to0
  refine' read_L (recs := recs) (pre := []) (suf := recs) ?C ?F ?N ?Tk ?D hbl h8 h41 hc hz (by rw [← hb]; exact List.prefix_refl _) hlen rfl ok0 gd0 to0 ?hk
  case C => k_extra "mine cx"
  case F => k_asm
  case N => k_asm
  case Tk => k_extra "mine takes"
  case D => k_extra "mine D"
  case hk =>
    intro h' tk ρ1 vr z LS hzl hrs F' N'
    replace N' := N'.get (by k_extra "mine puts")
    try dsimp only
    k_extra "mine steps"
    try dsimp only
    rename Fr _ _ _ _ => lF
    rename News _ _ _ [_, _, _, _] => lN
    rw [← hrs] at lN
    refine g_cons ?_
    refine' while_JG (fun z m l => ∃ pre vr ρ' vs zz ls r rx, LogSt check bl recs b.length pre vr ρ' z ∧ l = [(ls, listOf (List.toArray vs) zz), (ρ'.rs, listOf #[] 0), (r, instObj 293 rx), (rx, rdO w b block check ρ')] ∧ ([ls, ρ'.rs, r, rx] : List Addr).Nodup ∧ BytesAre vs pre ∧
      m (Str.ofString "reader") = some (.ref r) ∧ m (Str.ofString "records") = some (.ref ls) ∧ m (Str.ofString "record") = some vr) ⟨[], vr, ρ1, [], 0, _, _, _, LS, rfl, ?nd9, BytesAre.nil, rfl, rfl, rfl⟩ lF lN ?turn
    case nd9 => rw [hrs]; k_extra "mine D1"
    case turn =>
      clear lF lN LS
      rintro z m1 l1 h tk ⟨pre, vr, ρ2, vs, zz, ls, r, rx, LS, rfl, D2, hvs, e1, e2, e3⟩ F' N'
      replace F' := fr_hasL (.cons e1 (.cons e2 (.cons e3 .nil))) F'
      dsimp only [frL] at F'
      try dsimp only
      rcases LS with ⟨x, suf, tx, hrec, rfl, ok, hgo, hto, rfl⟩ | ⟨suf, hrec, rfl, hgo, hle, hsf, hto, rfl⟩
      · k_extra "mine steps"
        have hvl : vs.length ≤ 1000 := by
          have h1 := congrArg List.length hrec
          rw [List.length_append, List.length_cons] at h1
          have h2 := hvs.len
          k_extra "o"
        refine g_cons_any ?_
        k_extra "mine steps"
        try dsimp only
        refine g_cons (g_assign_name (g_call_attr ?_))
        k_extra "mine steps"
        refine g_callWith_K (K := hd.heap_39 w.params) (by k_is) rfl ?_
        refine g_args_nil ?_
        refine ⟨by k_in, ?_⟩
        try dsimp only
        refine wpG_call ?_
        refine' read_L (recs := recs) (pre := pre ++ [x]) (suf := suf) ?C1 ?F1 ?N1 ?Tk1 ?D1 hbl h8 h41 hc hz (by rw [← hb]; exact List.prefix_refl _) hlen (by rw [hrec]; simp) ok hgo hto ?hk1
        case C1 => k_extra "mine cx"
        case F1 => k_asm
        case N1 => k_asm
        case Tk1 => k_extra "mine takes"
        case D1 => k_extra "mine D"
        case hk1 =>
          intro h' tk ρ3 vr z LS hzl hrs3 F' N'
          replace N' := N'.get (by k_extra "mine puts")
          try dsimp only
          k_extra "mine steps"
          try dsimp only
          rename News _ _ _ [_, _, _, _] => N9
          rw [← hrs3] at N9 D2
          refine g_nil ?_
          refine' JEnd.next (by assumption) N9 ⟨z, ?lt9, _, vr, ρ3, _, _, _, _, _, LS, rfl, D2, hvs.push, rfl, rfl, rfl⟩
          case lt9 => k_extra "o"
      · k_extra "mine steps"
        have hsn : suf = [] := by
          cases suf with
          | nil => rfl
          | cons x suf' =>
            exfalso
            have h1 := hsf x suf' rfl
            rw [hb, hrec, show pre ++ x :: suf' = (pre ++ [x]) ++ suf' by simp, log_append, List.length_append] at h1
            k_extra "o"
        subst hsn
        rw [List.append_nil] at hrec
        subst hrec
        refine g_cons_any ?_
        k_extra "mine steps"
        have hbn : b.length = (Log check bl 0 recs).length := by rw [hb]
        exact hk _ _ _ _ _ _ _ _ ρ2 hvs (by rw [hgo, hbn]) (hto hbn) (by assumption) (by k_extra "mine done") (by k_extra "mine freshL")
  run_tac Mine.Sh.shrink
theorem read_prefix_C {bl : Nat} {block check : Int} {t u v : Tok} (C : Cx (hd.heap_39 w.params) A₀ A base h₀ outer env L p loose mean mg mb 6) (F : Fr h₀ L s.heap m) (N : News h₀ L s.heap full) (D : (full.map (·.1)).Nodup)
    (hbl : block = (bl : Int)) (h8 : 8 ≤ bl) (h41 : bl ≤ 41) (hc : check = 1 ∨ check = 2) (hz : b.length ≤ 1000000) (hb : b <+: Log check bl 0 recs) (hlen : ∀ x ∈ recs, x.length ≤ 100) (hn : recs.length ≤ 100)
    (hk : ∀ h' tk tp ls vs zz tg pre suf, recs = pre ++ suf → (Log check bl 0 pre).length ≤ b.length → (∀ r suf', suf = r :: suf' → b.length < (Log check bl 0 (pre ++ [r])).length) → BytesAre vs pre →
      Fr h₀ L h' m → BackF h₀ L h' full [] [] [(tp, { cls := .type "tuple", data := .seq #[.ref ls, .int (((Log check bl 0 pre).length : Nat) : Int) tg] }), (ls, listOf vs.toArray zz)] →
      (tp :: ls :: full.map (·.1)).Nodup → R (.ok (.ret (.ref tp))) { s with heap := h', toks := tk }) :
    codeG (model Challenge.rw_xm0852_01.row.prog w) A (.call (.ref 311) ⟨[.bytes b.toArray t, .int block u, .int check v], []⟩) R s := by
  refine ?whole
  have Tk := takes0 (full := full)
  have h8i : 8 ≤ block := by k_extra "o"
  have h41i : block ≤ 41 := by k_extra "o"
  k_extra "mine enterG"
  refine g_cons_any ?_
  k_extra "mine steps"
  refine g_cons_any ?_
  k_extra "mine steps"
  refine g_cons_any ?_
  k_extra "mine steps"
  refine g_cons (g_assign_name (g_call_attr ?_))
  k_extra "mine steps"
  refine g_callWith_K (K := hd.heap_39 w.params) (by k_is) rfl ?_
  refine g_args_nil ?_
  refine ⟨by k_in, ?_⟩
  try dsimp only
  refine wpG_call ?_
  rename RdOk _ _ _ _ => ok0
  rename RdS.good _ = _ => gd0
  rename RdS.torn _ = _ => to0
  refine' read_L (recs := recs) (pre := []) (suf := recs) ?C ?F ?N ?Tk ?D hbl h8 h41 hc hz hb hlen rfl ok0 gd0 to0 ?hk
  case C => k_extra "mine cx"
  case F => k_asm
  case N => k_asm
  case Tk => k_extra "mine takes"
  case D => k_extra "mine D"
  case hk =>
    intro h' tk ρ1 vr z LS hzl hrs F' N'
    replace N' := N'.get (by k_extra "mine puts")
    try dsimp only
    k_extra "mine steps"
    try dsimp only
    rename Fr _ _ _ _ => lF
    rename News _ _ _ [_, _, _, _] => lN
    rw [← hrs] at lN
    refine g_cons ?_
    refine' while_JG (fun z m l => ∃ pre vr ρ' vs zz ls r rx tg, LogSt check bl recs b.length pre vr ρ' z ∧ l = [(ls, listOf (List.toArray vs) zz), (ρ'.rs, listOf #[] 0), (r, instObj 293 rx), (rx, rdO w b block check ρ')] ∧ ([ls, ρ'.rs, r, rx] : List Addr).Nodup ∧ BytesAre vs pre ∧
      m (Str.ofString "reader") = some (.ref r) ∧ m (Str.ofString "records") = some (.ref ls) ∧ m (Str.ofString "record") = some vr ∧ m (Str.ofString "good") = some (.int (((Log check bl 0 pre).length : Nat) : Int) tg)) ⟨[], vr, ρ1, [], 0, _, _, _, _, LS, rfl, ?nd9, BytesAre.nil, rfl, rfl, rfl, rfl⟩ lF lN ?turn
    case nd9 => rw [hrs]; k_extra "mine D1"
    case turn =>
      clear lF lN LS
      rintro z m1 l1 h tk ⟨pre, vr, ρ2, vs, zz, ls, r, rx, tg, LS, rfl, D2, hvs, e1, e2, e3, e4⟩ F' N'
      replace F' := fr_hasL (.cons e1 (.cons e2 (.cons e3 (.cons e4 .nil)))) F'
      dsimp only [frL] at F'
      try dsimp only
      rcases LS with ⟨x, suf, tx, hrec, rfl, ok, hgo, hto, rfl⟩ | ⟨suf, hrec, rfl, hgo, hle, hsf, hto, rfl⟩
      · k_extra "mine steps"
        have hvl : vs.length ≤ 1000 := by
          have h1 := congrArg List.length hrec
          rw [List.length_append, List.length_cons] at h1
          have h2 := hvs.len
          k_extra "o"
        refine g_cons_any ?_
        k_extra "mine steps"
        try dsimp only
        refine g_cons_any ?_
        k_extra "mine steps"
        try dsimp only
        rename Fr _ _ _ _ => F9
        rw [hgo] at F9
        refine g_cons (g_assign_name (g_call_attr ?_))
        k_extra "mine steps"
        refine g_callWith_K (K := hd.heap_39 w.params) (by k_is) rfl ?_
        refine g_args_nil ?_
        refine ⟨by k_in, ?_⟩
        try dsimp only
        refine wpG_call ?_
        refine' read_L (recs := recs) (pre := pre ++ [x]) (suf := suf) ?C1 ?F1 ?N1 ?Tk1 ?D1 hbl h8 h41 hc hz hb hlen (by rw [hrec]; simp) ok hgo hto ?hk1
        case C1 => k_extra "mine cx"
        case F1 => k_asm
        case N1 => k_asm
        case Tk1 => k_extra "mine takes"
        case D1 => k_extra "mine D"
        case hk1 =>
          intro h' tk ρ3 vr z LS hzl hrs3 F' N'
          replace N' := N'.get (by k_extra "mine puts")
          try dsimp only
          k_extra "mine steps"
          try dsimp only
          rename News _ _ _ [_, _, _, _] => N9
          rw [← hrs3] at N9 D2
          refine g_nil ?_
          refine' JEnd.next (by assumption) N9 ⟨z, ?lt9, _, vr, ρ3, _, _, _, _, _, _, LS, rfl, D2, hvs.push, rfl, rfl, rfl, rfl⟩
          case lt9 => k_extra "o"
      · k_extra "mine steps"
        refine g_cons_any ?_
        k_extra "mine steps"
        exact hk _ _ _ _ _ _ _ pre suf hrec hle hsf hvs (by assumption) (by k_extra "mine done") (by k_extra "mine freshL")
  run_tac Mine.Sh.shrink
end
end Mine
end
section
example : True := by (k_with "cr" => first | (((show wpAny _ _ (call (Value.ref 241) _ _) _ _ _); (refine wpAny_call ?_); (k_dflt refine' Mine.wsync_bad_C ?Cₖ99 ?Fₖ99 ?Nₖ99 ?Tkₖ99 ?Dₖ99 ?haₖ99 ?hcₖ99 ?_; (case Fₖ99 => k_asm); (case Nₖ99 => k_asm); (case Cₖ99 => k_extra "mine cx"); (case Tkₖ99 => k_extra "mine takes"); (case Dₖ99 => k_extra "mine D"); (case haₖ99 => (first | assumption | rfl)); (case hcₖ99 => assumption); skip); intro h'ₖ tk'ₖ e'ₖ Fl'ₖ; (try dsimp only))) | fail "no"); trivial
namespace Mine
section
variable {w : World} {A₀ A : Around} {s : Shared} {base h₀ : Heap} {L : Addr} {m : Str → Option Value} {env : Env} {full rest : List (Addr × Obj)} {R : Result → Shared → Prop}
  {p : Program} {loose : List Str} {mean : ExcName → Option Value} {mg mb : Str → Option Value} {d dx f fx n nx wr wx : Addr} {σ : DiskS} {φ : FileS} {ν : NodeS} {ω : WrS} {b rec : Bs}
set_option maxRecDepth 100000
set_option maxHeartbeats 1000000
theorem refused_C {t : Tok} {ln bl : Nat} (C : Cx (hd.heap_39 w.params) A₀ A base h₀ [] env L p loose mean mg mb 8) (XB : (hd.heap_39 w.params).In base) (TB : Top p loose mean mg mb base) (F : Fr h₀ L s.heap m) (N : News h₀ L s.heap full)
    (Tk : Takes [(wr, instObj 244 wx), (wx, wrO w ω), (ω.file, instObj 426 fx), (fx, fileO w φ), (φ.disk, instObj 587 dx), (dx, diskO w σ), (φ.node, instObj 342 nx), (nx, nodeO w ν), (ν.ba, baO b.toArray)] full rest) (D : (full.map (·.1)).Nodup)
    (ha : σ.alive = true) (hcl : φ.closed = true) (hc : ω.check = 1 ∨ ω.check = 2) (hln : ω.length = (ln : Int)) (hbl : ω.block = (bl : Int)) (h8 : 8 ≤ bl) (h41 : bl ≤ 41) (hr : rec.length ≤ 100) (hz : b.length ≤ 1000000)
    (hk : ∀ h' tk t left' sp' u0' u1' u3', (σ.left < 0 → left' = σ.left) → Fr h₀ L h' m → Back h₀ L h' full [(wr, instObj 244 wx), (wx, wrO w ω), (ω.file, instObj 426 fx), (fx, fileO w φ), (φ.disk, instObj 587 dx), (dx, diskO w σ), (φ.node, instObj 342 nx), (nx, nodeO w ν), (ν.ba, baO b.toArray)] [(wr, instObj 244 wx), (wx, wrO w { ω with u3 := u3' }), (ω.file, instObj 426 fx), (fx, fileO w φ), (φ.disk, instObj 587 dx), (dx, diskO w { σ with left := left', spent := sp', u0 := u0', u1 := u1' }), (φ.node, instObj 342 nx), (nx, nodeO w ν), (ν.ba, baO b.toArray)] → R (.ok (.ret (.int 2 t))) { s with heap := h', toks := tk }) :
    codeG (model Challenge.rw_xm0852_01.row.prog w) A (.call (.ref 624) ⟨[.ref wr, .bytes rec.toArray t], []⟩) R s := by
  refine ?whole
  k_extra "mine Dc"
  k_extra "mine enterT"
  refine g_cons_any ?_
  k_extra "mine steps"
  refine g_cons (g_Try ?_)
  refine g_cons ?_
  refine g_expr (g_call_attr ?_)
  k_extra "mine steps"
  refine g_callWith_K (K := hd.heap_39 w.params) (by k_is) rfl ?_
  refine g_args_any ?_
  k_extra "mine steps"
  refine g_args_nil ?_
  refine ⟨by k_in, ?_⟩
  try dsimp only
  refine wpG_call ?_
  refine' add_C (ω := ω) (σ := σ) (φ := φ) (ν := ν) (b := b) (rec := rec) ?C ?F ?N ?Tk ?D ha hc hln hbl h8 h41 hr hz ?hk ?hB ?hS
  case C => k_extra "mine cx"
  case F => k_asm
  case N => k_asm
  case Tk => k_extra "mine takes"
  case D => k_extra "mine D"
  case hk => intro q; exact absurd (hcl.symm.trans q) (by simp)
  case hS => intro q; exact absurd (hcl.symm.trans q) (by simp)
  case hB =>
    intro _ h' tk e left' sp' u0' u1' u3' hl' Fl
    try dsimp only
    obtain ⟨G, t1, vs1, FG1, hsm1, R1⟩ := Fl
    have R2 := R1 _ (by k_extra "mine puts")
    refine caught_SO0 R2 FG1 (by assumption) hsm1 XB TB (by assumption) KtsTurn.refl (by k_is) (by first | exact rfl | decide +kernel) ?_
    intro h9 g9 n9 T9 F' _ _ N' B9 X9 P9 D9
    try dsimp only
    k_extra "mine steps"
    try dsimp only
    refine g_cons (g_Try ?_)
    refine g_cons_any ?_
    k_extra "mine steps"
    rename Flies _ _ _ _ _ _ _ _ _ _ _ => Fl2
    obtain ⟨G2, t2, vs2, FG2, hsm2, R3⟩ := Fl2
    have R4 := R3 _ .nil
    refine caught_SO0 R4 FG2 B9 hsm2 XB TB D9 T9 (by k_is) (by first | exact rfl | decide +kernel) ?_
    intro h10 g10 n10 T10 F' _ _ N' B10 X10 P10 D10
    try dsimp only
    k_extra "mine steps"
    try dsimp only
    refine g_cons_any ?_
    k_extra "mine steps"
    try dsimp only
    refine ⟨g10, _, _, _, T10, by assumption, by assumption, fun FF NN NR => ?_⟩
    exact hk _ _ _ _ _ _ _ _ hl' FF (back Tk D (newsSub NN (by k_extra "mine takes")) NR (by rfl))
  run_tac Mine.Sh.shrink
end
end Mine
end
section
example : True := by (k_with "cr" => first | (((show wpAny _ _ (call (Value.ref 241) _ _) _ _ _); (refine wpAny_call ?_); (k_dflt refine' Mine.wsync_short_C ?Cₖ100 ?Fₖ100 ?Nₖ100 ?Tkₖ100 ?Dₖ100 ?haₖ100 ?hcₖ100 ?hlₖ100 ?_; (case Fₖ100 => k_asm); (case Nₖ100 => k_asm); (case Cₖ100 => k_extra "mine cx"); (case Tkₖ100 => k_extra "mine takes"); (case Dₖ100 => k_extra "mine D"); (case haₖ100 => (first | assumption | rfl)); (case hcₖ100 => assumption); (case hlₖ100 => (first | rfl | assumption)); skip); intro h'ₖ tk'ₖ e'ₖ u0'ₖ u1'ₖ Fl'ₖ; (try dsimp only))) | fail "no"); trivial
namespace Mine
section
variable {w : World} {A₀ A : Around} {s : Shared} {base h₀ : Heap} {L : Addr} {m : Str → Option Value} {env : Env} {full rest : List (Addr × Obj)} {R : Result → Shared → Prop}
  {p : Program} {loose : List Str} {mean : ExcName → Option Value} {mg mb : Str → Option Value} {d dx f fx n nx wr wx : Addr} {σ : DiskS} {φ : FileS} {ν : NodeS} {ω : WrS} {b rec : Bs}
set_option maxRecDepth 100000
set_option maxHeartbeats 1000000
theorem dies_C {t : Tok} {ln bl : Nat} (C : Cx (hd.heap_39 w.params) A₀ A base h₀ [] env L p loose mean mg mb 8) (XB : (hd.heap_39 w.params).In base) (TB : Top p loose mean mg mb base) (F : Fr h₀ L s.heap m) (N : News h₀ L s.heap full)
    (Tk : Takes [(wr, instObj 244 wx), (wx, wrO w ω), (ω.file, instObj 426 fx), (fx, fileO w φ), (φ.disk, instObj 587 dx), (dx, diskO w σ), (φ.node, instObj 342 nx), (nx, nodeO w ν), (ν.ba, baO b.toArray)] full rest) (D : (full.map (·.1)).Nodup)
    (ha : σ.alive = true) (hcl : φ.closed = false) (hb0 : 0 ≤ σ.left) (hb1 : σ.left ≤ ((laid ω.check bl ln rec).length : Int)) (hc : ω.check = 1 ∨ ω.check = 2) (hln : ω.length = (ln : Int)) (hbl : ω.block = (bl : Int)) (h8 : 8 ≤ bl) (h41 : bl ≤ 41) (hr : rec.length ≤ 100) (hz : b.length ≤ 1000000)
    (hk : ∀ h' tk len' left' sp' u0' u1' u3', Fr h₀ L h' m → Back h₀ L h' full [(wr, instObj 244 wx), (wx, wrO w ω), (ω.file, instObj 426 fx), (fx, fileO w φ), (φ.disk, instObj 587 dx), (dx, diskO w σ), (φ.node, instObj 342 nx), (nx, nodeO w ν), (ν.ba, baO b.toArray)] [(wr, instObj 244 wx), (wx, wrO w { ω with length := len', u3 := u3' }), (ω.file, instObj 426 fx), (fx, fileO w φ), (φ.disk, instObj 587 dx), (dx, diskO w { σ with left := left', alive := false, spent := sp', u0 := u0', u1 := u1' }), (φ.node, instObj 342 nx), (nx, nodeO w ν), (ν.ba, baO (b ++ (laid ω.check bl ln rec).take σ.left.toNat).toArray)] → R (.ok (.ret (.bool (decide (σ.left = ((laid ω.check bl ln rec).length : Int)))))) { s with heap := h', toks := tk }) :
    codeG (model Challenge.rw_xm0852_01.row.prog w) A (.call (.ref 631) ⟨[.ref wr, .bytes rec.toArray t], []⟩) R s := by
  refine ?whole
  k_extra "mine Dc"
  k_extra "mine enterT"
  refine g_cons_any ?_
  k_extra "mine steps"
  refine g_cons (g_Try ?_)
  refine g_cons ?_
  refine g_expr (g_call_attr ?_)
  k_extra "mine steps"
  refine g_callWith_K (K := hd.heap_39 w.params) (by k_is) rfl ?_
  refine g_args_any ?_
  k_extra "mine steps"
  refine g_args_nil ?_
  refine ⟨by k_in, ?_⟩
  try dsimp only
  refine wpG_call ?_
  refine' add_C (ω := ω) (σ := σ) (φ := φ) (ν := ν) (b := b) (rec := rec) ?C ?F ?N ?Tk ?D ha hc hln hbl h8 h41 hr hz ?hk ?hB ?hS
  case C => k_extra "mine cx"
  case F => k_asm
  case N => k_asm
  case Tk => k_extra "mine takes"
  case D => k_extra "mine D"
  case hB => intro q; exact absurd (hcl.symm.trans q) (by simp)
  case hk =>
    intro _ hle h' tk left' sp' u0' u1' u3' hl1 hl2 F' N'
    have hl0 : left' = 0 := by have := hl2 hb0; k_extra "o"
    subst hl0
    replace N' := N'.get (by k_extra "mine puts")
    try dsimp only
    refine g_cons_any ?_
    k_extra "mine steps"
    try dsimp only
    refine g_cons_any ?_
    k_extra "mine steps"
    rename Flies _ _ _ _ _ _ _ _ _ _ _ => Fl2
    obtain ⟨G2, t2, vs2, FG2, hsm2, R3⟩ := Fl2
    have R4 := R3 _ (by k_extra "mine puts")
    refine caught_SO0 R4 FG2 (by assumption) hsm2 XB TB (by assumption) KtsTurn.refl (by k_is) (by first | exact rfl | decide +kernel) ?_
    intro h10 g10 n10 T10 F' _ _ N' B10 X10 P10 D10
    try dsimp only
    k_extra "mine steps"
    try dsimp only
    refine ⟨g10, _, _, _, T10, by assumption, by assumption, fun FF NN NR => ?_⟩
    have e1 : (laid ω.check bl ln rec).take σ.left.toNat = laid ω.check bl ln rec := List.take_of_length_le (by k_extra "o")
    rw [e1, decide_eq_true (show σ.left = _ by k_extra "o")] at hk
    exact hk _ _ _ _ _ _ _ _ FF (back Tk D (newsSub NN (by k_extra "mine takes")) NR (by rfl))
  case hS =>
    intro _ _ hlt h' tk e le' sp' len' u0' u1' u3' Fl
    try dsimp only
    obtain ⟨G, t1, vs1, FG1, hsm1, R1⟩ := Fl
    have R2 := R1 _ (by k_extra "mine puts")
    refine caught_SO0 R2 FG1 (by assumption) hsm1 XB TB (by assumption) KtsTurn.refl (by k_is) (by first | exact rfl | decide +kernel) ?_
    intro h9 g9 n9 T9 F' _ _ N' B9 X9 P9 D9
    try dsimp only
    k_extra "mine steps"
    try dsimp only
    refine ⟨g9, _, _, _, T9, by assumption, by assumption, fun FF NN NR => ?_⟩
    rw [decide_eq_false (show ¬ σ.left = _ by k_extra "o")] at hk
    exact hk _ _ _ _ _ _ _ _ FF (back Tk D (newsSub NN (by k_extra "mine takes")) NR (by rfl))
  run_tac Mine.Sh.shrink
end
end Mine
end
section
namespace Mine
def recN (y most length : Int) : Int := if 150 < length then (y.fmod (most + 1)).fmod 8 else y.fmod (most + 1)
def recB (y most length : Int) : Bs := ((rangeKs 0 (recN y most length - 0).toNat).map fun k' => (y.fdiv 31 + k' * (1 + y.fmod 5)).fmod 256).map fun n => n.toNat.toUInt8
section
variable {w : World} {A₀ A : Around} {s : Shared} {base h₀ : Heap} {outer : List Env} {L : Addr} {m : Str → Option Value} {env : Env} {full : List (Addr × Obj)} {R : Result → Shared → Prop}
  {p : Program} {loose : List Str} {mean : ExcName → Option Value} {mg mb : Str → Option Value}
set_option maxRecDepth 100000
set_option maxHeartbeats 400000
theorem record_C {y most length : Int} {t u v : Tok} (C : Cx (hd.heap_39 w.params) A₀ A base h₀ outer env L p loose mean mg mb 2) (F : Fr h₀ L s.heap m) (N : News h₀ L s.heap full)
    (hy : 0 ≤ y) (hm : 0 ≤ most) (hm2 : most ≤ 30) (hl : 0 ≤ length)
    (hk : ∀ h' tk t, Fr h₀ L h' m → News h₀ L h' full → R (.ok (.ret (.bytes (recB y most length).toArray t))) { s with heap := h', toks := tk }) :
    codeAny (model Challenge.rw_xm0852_01.row.prog w) A (.call (.ref 617) ⟨[.int y t, .int most u, .int length v], []⟩) R s := by
  refine ?whole
  have Tk := takes0 (full := full)
  have hne : most + 1 ≠ 0 := by k_extra "o"
  k_extra "mine enterC"
  have hs0 : 0 ≤ y.fmod (most + 1) := by rw [Int.fmod_eq_emod_of_nonneg _ (by k_extra "o")]; exact Int.emod_nonneg _ (by k_extra "o")
  have hs1 : y.fmod (most + 1) < most + 1 := by rw [Int.fmod_eq_emod_of_nonneg _ (by k_extra "o")]; exact Int.emod_lt_of_pos _ (by k_extra "o")
  k_extra "mine until if"
  k_extra "mine steps"
  · have e : recN y most length = (y.fmod (most + 1)).fmod 8 := by unfold recN; rw [if_pos (by k_extra "o")]
    unfold recB at hk
    rw [e] at hk
    exact hk _ _ _ (by assumption) (by k_extra "mine tails")
  · have e : recN y most length = y.fmod (most + 1) := by unfold recN; rw [if_neg (by k_extra "o")]
    unfold recB at hk
    rw [e] at hk
    exact hk _ _ _ (by assumption) (by k_extra "mine tails")
  run_tac Mine.Sh.shrink
end
end Mine
end
section
set_option maxRecDepth 100000
namespace Mine
theorem Cx.le {K : Frag} {A₀ A : Around} {base h₀ : Heap} {outer : List Env} {env : Env} {L : Addr} {p : Program} {loose : List Str} {mean : ExcName → Option Value} {mg mb : Str → Option Value} {d d' : Nat} (C : Cx K A₀ A base h₀ outer env L p loose mean mg mb d) (h : d' ≤ d) :
    Cx K A₀ A base h₀ outer env L p loose mean mg mb d' := ⟨C.B, C.X, C.T, C.hA, C.hf, C.hk, C.hh, by have := C.room; k_extra "o", by have := C.units; k_extra "o"⟩
def pr2 (wv : Nat) (a b : Value) : Array Value := if wv = 0 then #[a, b] else #[b, a]
theorem pr2_get {wv : Nat} {a b : Value} (h : wv < 2) : (pr2 wv a b)[wv]? = some a := by
  have : wv = 0 ∨ wv = 1 := by k_extra "o"
  rcases this with rfl | rfl <;> rfl
theorem pr2_set {wv : Nat} {a b x : Value} (h : wv < 2) : (pr2 wv a b).setIfInBounds wv x = pr2 wv x b := by
  have : wv = 0 ∨ wv = 1 := by k_extra "o"
  rcases this with rfl | rfl <;> rfl
theorem pr2_size {wv : Nat} {a b : Value} : (pr2 wv a b).size = 2 := by unfold pr2; split <;> rfl
theorem pr2_swap {wv wv' : Nat} {a b : Value} (h : wv < 2) (h' : wv' < 2) (hn : wv ≠ wv') : pr2 wv a b = pr2 wv' b a := by
  have : (wv = 0 ∧ wv' = 1) ∨ (wv = 1 ∧ wv' = 0) := by k_extra "o"
  rcases this with ⟨rfl, rfl⟩ | ⟨rfl, rfl⟩ <;> rfl
section
variable {prog : Program} {w : World} {A : Around} {E : Value → Shared → Prop} {s : Shared} {value slice : PySem.Expr} {h₀ : Heap} {L D : Addr} {m : PySem.Str → Option Value} {news news' : List (Addr × Obj)}
theorem item_pair {wv n : Nat} {a b : Value} {k : Int} {u : Tok} {Q : Value → Shared → Prop} (N : News h₀ L s.heap news) (hm : (D, listOf (pr2 wv a b) n) ∈ news) (hk : k = (wv : Int)) (hw : wv < 2) (h : Q a s)
    (hs : subscripted slice false (.ref D) (.int k u) = operate [.ref D, .int k u] (getItem (.ref D) (.int k u)) := by with_unfolding_all rfl) (hg : ∀ r, letTemporaryGo value (.ref D) r = pure () := by intro _; with_unfolding_all rfl) :
    wpAny (model prog w) A (subscriptTail value slice (.ref D) (.int k u)) Q E s :=
  PyProof.Rows.item_list (PySem.IsL.isList (n := n) (N _ hm).1) (by k_extra "o") (by k_extra "o") (by rw [hk, Int.toNat_natCast]; exact pr2_get hw) h hs hg
theorem getItem_pair {wv n : Nat} {a b : Value} {k : Int} {u : Tok} {Q : Value → Shared → Prop} (N : News h₀ L s.heap news) (hm : (D, listOf (pr2 wv a b) n) ∈ news) (hk : k = (wv : Int)) (hw : wv < 2) (h : Q a s) :
    wpAny (model prog w) A (getItem (.ref D) (.int k u)) Q E s :=
  wpAny_getItem_list (PySem.IsL.isList (n := n) (N _ hm).1) (by k_extra "o") (by k_extra "o") (by rw [hk, Int.toNat_natCast]; exact pr2_get hw) h
theorem set_pair {wv n : Nat} {a b x : Value} {k : Int} {t : Tok} {Q : Unit → Shared → Prop} (F : Fr h₀ L s.heap m) (N : News h₀ L s.heap news) (U : Upd D (listOf (pr2 wv a b) n) (listOf (pr2 wv x b) n) news news') (hk : k = (wv : Int)) (hw : wv < 2)
    (h : ∀ h', Fr h₀ L h' m → News h₀ L h' news' → Q () { s with heap := h' }) : wpAny (model prog w) A (setItem (.ref D) (.int k t) x) Q E s := by
  refine ?whole
  obtain ⟨pre, post, rfl, rfl, a1, b1⟩ := U.split
  have z := N (D, listOf (pr2 wv a b) n) (List.mem_append.mpr (.inr (.head _)))
  refine ki_setAt z.1 (by k_extra "o") (by k_extra "o") (by rw [pr2_size]; k_extra "o") (h _ (F.change (Heap.SameBut.update ..) z.2.1 z.2.2) (ki_turn _ N a1 b1 ?_ ?_))
  · rw [hk, Int.toNat_natCast]; exact pr2_set hw
  · rw [pr2_size, pr2_size]; rfl
  run_tac Mine.Sh.shrink
end
theorem lawLit {K : Frag} {f : Addr} {G : Prop} {name qual : Str} {params : Arguments} {body : List Stmt} {scope : Scope} {dV kV doc pm cdv ct oc : Value} {an od : Option Addr} {osl : Array (Option Value)}
    {name' qual' : Str} {params' : Arguments} {body' : List Stmt} {scope' : Scope} {dV' kV' doc' pm' cdv' ct' oc' : Value} {an' od' : Option Addr} {osl' : Array (Option Value)}
    (ho : K.lookup f = some ⟨oc, od, .func (fnOf name qual params body scope dV kV doc pm an cdv ct), osl⟩) (ho' : K.lookup f = some ⟨oc', od', .func (fnOf name' qual' params' body' scope' dV' kV' doc' pm' an' cdv' ct'), osl'⟩)
    (h : body = body' → scope = scope' → G) : G := by
  rw [ho] at ho'
  injection ho' with e
  injection e with _ _ e _
  injection e with e
  unfold fnOf at e
  injection e with _ _ _ e1 e2
  injection e1 with e1
  exact h e1 e2
end Mine
end
section
set_option maxRecDepth 100000
namespace Mine
def nth : List Stmt → Nat → Stmt
  | [], _ => .Pass default
  | a :: _, 0 => a
  | _ :: r, k + 1 => nth r k
def asFor : Stmt → List Stmt
  | .For _ _ b _ _ => b
  | _ => []
def asIf1 : Stmt → List Stmt
  | .If _ b _ _ => b
  | _ => []
def asIf2 : Stmt → List Stmt
  | .If _ _ o _ => o
  | _ => []
def turnB (b : List Stmt) : List Stmt := asFor (nth b 15)
def br6 (b : List Stmt) : List Stmt := asIf1 (nth (turnB b) 5)
def br4 (b : List Stmt) : List Stmt := asIf1 (nth (asIf2 (nth (turnB b) 5)) 0)
def brE (b : List Stmt) : List Stmt := asIf2 (nth (asIf2 (nth (turnB b) 5)) 0)
structure T5 where
  t0 : Tok
  t1 : Tok
  t2 : Tok
  t3 : Tok
  u1 : Tok
structure T7 where
  t0 : Tok
  t1 : Tok
  t2 : Tok
  t3 : Tok
  u1 : Tok
  u2 : Tok
  u3 : Tok
structure LS where
  nl : Addr
  vsn : List Value
  zn : Nat
  ns : List Int
  cx : Addr
  oc : Obj
  d : Addr
  dx : Addr
  σ : DiskS
  q : Nat
  kno : Obj
  pro : Obj
  ndo : Obj
  k : Int
  kt : Tok
  kt2 : Tok
  nkv : List (Int × Value)
  n : Addr
  nx : Addr
  ν : NodeS
  wl : Addr
  wz : Nat
  wv : Nat
  wa : Addr
  wax : Addr
  fa : Addr
  fax : Addr
  xa : Int
  wat : T7
  fat : T5
  wb : Addr
  wbx : Addr
  fb : Addr
  fbx : Addr
  xb : Int
  wbt : T7
  fbt : T5
  al : Addr
  az : Nat
  xat : Tok
  xbt : Tok
  rl : Addr
  vr : List Value
  rz : Nat
  recs : List Bs
  el : Addr
  ve : List Value
  ez : Nat
  data : Bs
  safe : Nat
  bl : Nat
  check : Int
  most : Int
  tb : Tok
  tc : Tok
  tm : Tok
  td : Tok
  ts : Tok
def endsI (check : Int) (bl : Nat) (recs : List Bs) : List Int := (List.range recs.length).map fun i => (((Log check bl 0 (recs.take (i + 1))).length : Nat) : Int)
def LS.led (w : World) (S : LS) : List (Addr × Obj) := [
  (S.nl, listOf S.vsn.toArray S.zn), (S.cx, S.oc),
  (S.d, instObj 587 S.dx), (S.dx, diskO w S.σ), (S.σ.jn, listOf #[] S.q), (S.σ.kn, S.kno), (S.σ.pr, S.pro), (S.σ.nd, S.ndo),
  (S.n, instObj 342 S.nx), (S.nx, nodeO w S.ν), (S.ν.ba, baO S.data.toArray),
  (S.wl, listOf (pr2 S.wv (.ref S.wa) (.ref S.wb)) S.wz),
  (S.wa, instObj 244 S.wax), (S.wax, wrO w ⟨S.fa, (S.bl : Int), S.check, S.xa, S.wat.t0, S.wat.t1, S.wat.t2, S.wat.t3, S.wat.u1, S.wat.u2, S.wat.u3⟩), (S.fa, instObj 426 S.fax), (S.fax, fileO w ⟨S.d, S.n, false, S.fat.t0, S.fat.t1, S.fat.t2, S.fat.t3, S.fat.u1⟩),
  (S.wb, instObj 244 S.wbx), (S.wbx, wrO w ⟨S.fb, (S.bl : Int), S.check, S.xb, S.wbt.t0, S.wbt.t1, S.wbt.t2, S.wbt.t3, S.wbt.u1, S.wbt.u2, S.wbt.u3⟩), (S.fb, instObj 426 S.fbx), (S.fbx, fileO w ⟨S.d, S.n, false, S.fbt.t0, S.fbt.t1, S.fbt.t2, S.fbt.t3, S.fbt.u1⟩),
  (S.al, listOf (pr2 S.wv (.int S.xa S.xat) (.int S.xb S.xbt)) S.az),
  (S.rl, listOf S.vr.toArray S.rz), (S.el, listOf S.ve.toArray S.ez)]
def LS.names (S : LS) : List (Str × Value) := [
  (Str.ofString "nums", .ref S.nl), (Str.ofString "block", .int (S.bl : Int) S.tb), (Str.ofString "check", .int S.check S.tc), (Str.ofString "most", .int S.most S.tm),
  (Str.ofString "disk", .ref S.d), (Str.ofString "writers", .ref S.wl), (Str.ofString "at", .ref S.al), (Str.ofString "data", .bytes S.data.toArray S.td), (Str.ofString "safe", .int (S.safe : Int) S.ts),
  (Str.ofString "records", .ref S.rl), (Str.ofString "ends", .ref S.el)]
structure LS.Ok (w : World) (S : LS) (i : Nat) : Prop where
  hns : IntsAre S.vsn S.ns
  ns1 : 1 ≤ S.ns.length
  ns2 : S.ns.length ≤ 10
  ns0 : ∀ x ∈ S.ns, 0 ≤ x
  hc : S.check = 1 ∨ S.check = 2
  h8 : 8 ≤ S.bl
  h41 : S.bl ≤ 41
  m0 : 0 ≤ S.most
  m30 : S.most ≤ 30
  al : S.σ.alive = true
  lf : S.σ.left < 0
  kn : S.kno.IsDictOf (strKind Challenge.rw_xm0852_01.row.prog w) [("j", .int S.k S.kt)]
  pr : S.pro.IsDictOf (strKind Challenge.rw_xm0852_01.row.prog w) [("j", .int S.k S.kt2)]
  nd : S.ndo.IsDictOf (intKind Challenge.rw_xm0852_01.row.prog w) S.nkv
  nv : valueAt S.nkv S.k = some (.ref S.n)
  lkn : (S.σ.kn == sysModules) = false
  lpr : (S.σ.pr == sysModules) = false
  lnd : (S.σ.nd == sysModules) = false
  kept : S.ν.kept = (S.safe : Int)
  wv2 : S.wv < 2
  xa0 : 0 ≤ S.xa
  xb0 : 0 ≤ S.xb
  dat : S.data = Log S.check S.bl 0 S.recs
  rl : ∀ r ∈ S.recs, r.length ≤ 30
  rn : S.recs.length ≤ i
  dl : S.data.length ≤ 20000 * i
  vr : BytesAre S.vr S.recs
  ve : IntsAre S.ve (endsI S.check S.bl S.recs)
  sf : S.safe ≤ S.data.length
  i9 : i ≤ 20
  cell : ∃ v, S.oc.data = .cell v
def LS.fix (S : LS) : Nat × Addr := (S.wv, S.cx)
def LPost (w : World) (S : LS) (i : Nat) (own : List (Addr × Obj)) (ex : List (Str × Value)) (m : Str → Option Value) (l : List (Addr × Obj)) : Prop :=
  ∃ S' : LS, S'.Ok w i ∧ S'.fix = S.fix ∧ l = S'.led w ++ own ∧ ((S'.led w ++ own).map (·.1)).Nodup ∧ Has m (S'.names ++ ex)
theorem LPost.next {w : World} {S S' : LS} {i : Nat} {own : List (Addr × Obj)} {ex : List (Str × Value)} {h₀ h' : Heap} {L : Addr} {big rest : List (Addr × Obj)} {m' : Str → Option Value} {s : Shared} {tk : Nat} {Q : Flow → Shared → Prop}
    (F : Fr h₀ L h' m') (N : News h₀ L h' big) (D : (big.map (·.1)).Nodup) (T : Takes (S'.led w ++ own) big rest) (H : Has m' (S'.names ++ ex)) (e : S'.fix = S.fix) (ok : S'.Ok w i) : JNext h₀ L (LPost w S i own ex) s Q .next { s with heap := h', toks := tk } :=
  JNext.next F (T.left N) ⟨S', ok, e, rfl, T.nodupL D, H⟩
def LPostP (w : World) (S : LS) (i : Nat) (own : List (Addr × Obj)) (P : LS → List (Str × Value) → Prop) (m : Str → Option Value) (l : List (Addr × Obj)) : Prop :=
  ∃ (S' : LS) (ex : List (Str × Value)), S'.Ok w i ∧ S'.fix = S.fix ∧ P S' ex ∧ l = S'.led w ++ own ∧ ((S'.led w ++ own).map (·.1)).Nodup ∧ Has m (S'.names ++ ex)
theorem LPostP.next {w : World} {S S' : LS} {i : Nat} {own : List (Addr × Obj)} {P : LS → List (Str × Value) → Prop} {ex : List (Str × Value)} {h₀ h' : Heap} {L : Addr} {big rest : List (Addr × Obj)} {m' : Str → Option Value} {s : Shared} {tk : Nat} {Q : Flow → Shared → Prop}
    (F : Fr h₀ L h' m') (N : News h₀ L h' big) (D : (big.map (·.1)).Nodup) (T : Takes (S'.led w ++ own) big rest) (H : Has m' (S'.names ++ ex)) (e : S'.fix = S.fix) (ok : S'.Ok w i) (p : P S' ex) : JNext h₀ L (LPostP w S i own P) s Q .next { s with heap := h', toks := tk } :=
  JNext.next F (T.left N) ⟨S', ex, ok, e, p, rfl, T.nodupL D, H⟩
theorem jnextS {h₀ h : Heap} {L : Addr} {K : (Str → Option Value) → List (Addr × Obj) → Prop} {s s₂ : Shared} {tk : Nat} {Q : Flow → Shared → Prop} {f : Flow} (j : JNext h₀ L K { s with heap := h, toks := tk } (fun f s => Q f s) f s₂) : JNext h₀ L K s Q f s₂ := by
  cases f <;> exact j
theorem wpG_J {h₀ h : Heap} {L : Addr} {K : (Str → Option Value) → List (Addr × Obj) → Prop} {M : Model} {A : Around} {E : Value → Shared → Prop} {t : Sem Flow} {s : Shared} {tk : Nat} {Q : Flow → Shared → Prop}
    (j : wpG M A t (JNext h₀ L K { s with heap := h, toks := tk } Q) E { s with heap := h, toks := tk }) : wpG M A t (JNext h₀ L K s Q) E { s with heap := h, toks := tk } :=
  wpG_mono j (fun _ _ x => jnextS x) fun _ _ x => x
theorem LS.Ok.succ {w : World} {S : LS} {i : Nat} (ok : S.Ok w i) (h : i + 1 ≤ 20) : S.Ok w (i + 1) :=
  { ok with rn := by have := ok.rn; k_extra "o", dl := by have := ok.dl; k_extra "o", i9 := h }
theorem wpG_succ {w : World} {S : LS} {i : Nat} {own : List (Addr × Obj)} {ex : List (Str × Value)} {h₀ : Heap} {L : Addr} {M : Model} {A : Around} {E : Value → Shared → Prop} {t : Sem Flow} {s s' : Shared} {Q : Flow → Shared → Prop}
    (e : i + 1 ≤ 20) (j : wpG M A t (JNext h₀ L (LPost w S i own ex) s Q) E s') : wpG M A t (JNext h₀ L (LPost w S (i + 1) own ex) s Q) E s' :=
  wpG_mono j (fun f s₂ x => by
    cases f with
    | next => obtain ⟨h', tk, m', l', e', F, N, S', ok, hf, r⟩ := x; exact ⟨h', tk, m', l', e', F, N, S', ok.succ e, hf, r⟩
    | brk => exact x
    | cont => exact x
    | ret v => exact x) fun _ _ x => x
theorem wpG_last {M : Model} {A : Around} {E : Value → Shared → Prop} {t : Sem Flow} {s : Shared} {env : Env} {Q : Flow → Shared → Prop} (j : wpG M A t Q E s) : wpG M A t (fun f s' => match f with | .next => wpG M A (execs [] env) Q E s' | f => Q f s') E s :=
  wpG_mono j (fun f s₂ x => by
    cases f with
    | next => exact g_nil x
    | brk => exact x
    | cont => exact x
    | ret v => exact x) fun _ _ x => x
theorem draw_nonneg {ns : List Int} (h : ∀ x ∈ ns, 0 ≤ x) (k : Nat) : 0 ≤ draw ns k := by
  unfold draw
  have h1 : 0 ≤ ns.getD ((k : Int).fmod (ns.length : Int)).toNat 0 := by
    rw [List.getD_eq_getElem?_getD]
    cases e : ns[((k : Int).fmod (ns.length : Int)).toNat]? with
    | none => exact Int.le_refl 0
    | some a => exact h a (List.mem_of_getElem? e)
  have h2 : 0 ≤ (k : Int).fdiv (ns.length : Int) := by rw [Int.fdiv_eq_ediv_of_nonneg _ (by k_extra "o")]; exact Int.ediv_nonneg (by k_extra "o") (by k_extra "o")
  k_extra "o"
theorem wpG_K {K K' : (Str → Option Value) → List (Addr × Obj) → Prop} {h₀ : Heap} {L : Addr} {M : Model} {A : Around} {E : Value → Shared → Prop} {t : Sem Flow} {s s' : Shared} {Q : Flow → Shared → Prop}
    (e : ∀ m l, K m l → K' m l) (j : wpG M A t (JNext h₀ L K s Q) E s') : wpG M A t (JNext h₀ L K' s Q) E s' :=
  wpG_mono j (fun f s₂ x => by
    cases f with
    | next => obtain ⟨h', tk, m', l', e', F, N, k⟩ := x; exact ⟨h', tk, m', l', e', F, N, e _ _ k⟩
    | brk => exact x
    | cont => exact x
    | ret v => exact x) fun _ _ x => x
theorem wpG_fix {w : World} {S S2 : LS} {i : Nat} {own : List (Addr × Obj)} {ex : List (Str × Value)} {h₀ : Heap} {L : Addr} {M : Model} {A : Around} {E : Value → Shared → Prop} {t : Sem Flow} {s s' : Shared} {Q : Flow → Shared → Prop}
    (e : S2.fix = S.fix) (j : wpG M A t (JNext h₀ L (LPost w S2 i own ex) s Q) E s') : wpG M A t (JNext h₀ L (LPost w S i own ex) s Q) E s' :=
  wpG_mono j (fun f s₂ x => by
    cases f with
    | next => obtain ⟨h', tk, m', l', e', F, N, S', ok, hf, r⟩ := x; exact ⟨h', tk, m', l', e', F, N, S', ok, hf.trans e, r⟩
    | brk => exact x
    | cont => exact x
    | ret v => exact x) fun _ _ x => x
theorem decF {a b : Int} (h : (decide (a = b) != (a == b)) = true) : False := by
  by_cases q : a = b <;> simp [q] at h
theorem bneF {l : List UInt8} (h : (l != l) = true) : False := by simp at h
theorem fendT {h₀ h' : Heap} {L : Addr} {K : (Str → Option Value) → List (Addr × Obj) → Prop} {own l' big rest : List (Addr × Obj)} {s : Shared} {tk : Nat} {m' : Str → Option Value} {Q : Flow → Shared → Prop}
    (F : Fr h₀ L h' m') (N : News h₀ L h' big) (D : (big.map (·.1)).Nodup) (T : Takes (l' ++ own) big rest) (k : K m' l') : FEnd h₀ L K own s Q .next { s with heap := h', toks := tk } :=
  FEnd.next F (T.left N) (T.nodupL D) k
theorem closeS {h₀ h : Heap} {L : Addr} {big rest led' : List (Addr × Obj)} (N : News h₀ L h big) (D : (big.map (·.1)).Nodup) (T : Takes led' big rest) : News h₀ L h led' ∧ (led'.map (·.1)).Nodup := ⟨T.left N, T.nodupL D⟩
end Mine
end
section
set_option maxRecDepth 100000
namespace Mine
theorem log_mono (check : Int) (bl : Nat) (recs : List Bs) {i j : Nat} (h : i ≤ j) : (Log check bl 0 (recs.take i)).length ≤ (Log check bl 0 (recs.take j)).length := by
  have e : recs.take j = recs.take i ++ (recs.take j).drop i := by
    conv => lhs; rw [← List.take_append_drop i (recs.take j)]
    rw [List.take_take, Nat.min_eq_left h]
  rw [e, log_append, List.length_append]; k_extra "o"
theorem endsI_len (check : Int) (bl : Nat) (recs : List Bs) : (endsI check bl recs).length = recs.length := by
  unfold endsI; rw [List.length_map, List.length_range]
theorem endsI_get {check : Int} {bl : Nat} {recs : List Bs} {i : Nat} {a : Int} (h : (endsI check bl recs)[i]? = some a) : i < recs.length ∧ a = (((Log check bl 0 (recs.take (i + 1))).length : Nat) : Int) := by
  unfold endsI at h
  rw [List.getElem?_map] at h
  cases hr : (List.range recs.length)[i]? with
  | none => rw [hr] at h; cases h
  | some k =>
    rw [hr] at h
    obtain ⟨hk, e⟩ := List.getElem?_eq_some_iff.mp hr
    rw [List.getElem_range] at e
    rw [List.length_range] at hk
    subst e
    exact ⟨hk, (Option.some.inj h).symm⟩
theorem endsI_snoc (check : Int) (bl : Nat) (recs : List Bs) (r : Bs) : endsI check bl (recs ++ [r]) = endsI check bl recs ++ [(((Log check bl 0 (recs ++ [r])).length : Nat) : Int)] := by
  unfold endsI
  rw [List.length_append, List.length_singleton, List.range_succ, List.map_append]
  congr 1
  · apply List.map_congr_left
    intro i hi
    rw [List.mem_range] at hi
    rw [List.take_append_of_le_length (by k_extra "o")]
  · rw [List.map_singleton, List.take_of_length_le (by rw [List.length_append, List.length_singleton]; exact Nat.le_refl _)]
theorem endsI_take {check : Int} {bl : Nat} (pre suf : List Bs) : (endsI check bl (pre ++ suf)).take pre.length = endsI check bl pre := by
  unfold endsI
  rw [← List.map_take, List.take_range, List.length_append, Nat.min_eq_left (by k_extra "o")]
  apply List.map_congr_left
  intro i hi
  rw [List.mem_range] at hi
  rw [List.take_append_of_le_length (by k_extra "o")]
theorem filter_prefix {p : Int → Bool} : ∀ {l : List Int} {k : Nat}, k ≤ l.length → (∀ i a, l[i]? = some a → (p a = true ↔ i < k)) → l.filter p = l.take k
  | [], k, hk, _ => by simp
  | x :: r, 0, _, h => by
    rw [List.take_zero, List.filter_eq_nil_iff]
    intro a ha
    obtain ⟨i, hi⟩ := List.mem_iff_getElem?.mp ha
    intro q
    have := (h i a hi).mp q
    k_extra "o"
  | x :: r, k + 1, hk, h => by
    have hx : p x = true := (h 0 x rfl).mpr (by k_extra "o")
    rw [List.filter_cons_of_pos hx, List.take_succ_cons]
    congr 1
    refine filter_prefix (by rw [List.length_cons] at hk; k_extra "o") fun i a hi => ?_
    have := h (i + 1) a (by rw [List.getElem?_cons_succ]; exact hi)
    rw [this]; k_extra "o"
theorem whole_count {check : Int} {bl : Nat} {recs pre suf : List Bs} {t : Nat} (hr : recs = pre ++ suf) (h1 : (Log check bl 0 pre).length ≤ t) (h2 : ∀ r suf', suf = r :: suf' → t < (Log check bl 0 (pre ++ [r])).length) :
    (endsI check bl recs).filter (fun a => decide (a ≤ (t : Int))) = endsI check bl pre := by
  refine ?whole
  have hl : pre.length ≤ (endsI check bl recs).length := by rw [endsI_len, hr, List.length_append]; k_extra "o"
  rw [filter_prefix (k := pre.length) hl, hr, endsI_take]
  intro i a ha
  obtain ⟨hi, rfl⟩ := endsI_get ha
  rw [decide_eq_true_iff]
  have hp : recs.take pre.length = pre := by rw [hr, List.take_left']; rfl
  constructor
  · intro hle
    rcases Nat.lt_or_ge i pre.length with q | q
    · exact q
    · exfalso
      cases suf with
      | nil => rw [hr, List.append_nil] at hi; k_extra "o"
      | cons r s =>
        have h3 := h2 r s rfl
        have h4 : recs.take (pre.length + 1) = pre ++ [r] := by
          rw [hr, show pre ++ r :: s = (pre ++ [r]) ++ s by simp, List.take_left']
          simp
        have h5 := log_mono check bl recs (show pre.length + 1 ≤ i + 1 by k_extra "o")
        rw [h4] at h5
        k_extra "o"
  · intro q
    have h5 := log_mono check bl recs (show i + 1 ≤ pre.length by k_extra "o")
    rw [hp] at h5
    k_extra "o"
  run_tac Mine.Sh.shrink
theorem whole_max {check : Int} {bl : Nat} {pre : List Bs} {M : Int} (hm : M ∈ [0] ++ endsI check bl pre) (hb : ∀ a ∈ [0] ++ endsI check bl pre, a ≤ M) : M = (((Log check bl 0 pre).length : Nat) : Int) := by
  have key : ∀ a ∈ [0] ++ endsI check bl pre, a ≤ (((Log check bl 0 pre).length : Nat) : Int) := by
    intro a ha
    rcases List.mem_append.mp ha with h | h
    · rw [List.mem_singleton.mp h]; k_extra "o"
    · obtain ⟨i, hi⟩ := List.mem_iff_getElem?.mp h
      obtain ⟨hi, rfl⟩ := endsI_get hi
      have := log_mono check bl pre (show i + 1 ≤ pre.length by k_extra "o")
      rw [List.take_length] at this
      k_extra "o"
  have h1 := key M hm
  have h2 : (((Log check bl 0 pre).length : Nat) : Int) ∈ [0] ++ endsI check bl pre := by
    cases hp : pre.length with
    | zero =>
      rw [List.length_eq_zero_iff.mp hp]
      simp [Log]
    | succ k =>
      refine List.mem_append_right _ ?_
      unfold endsI
      refine List.mem_map.mpr ⟨k, List.mem_range.mpr (by k_extra "o"), ?_⟩
      rw [show k + 1 = pre.length by k_extra "o", List.take_length]
  have h3 := hb _ h2
  k_extra "o"
theorem log_cut {check : Int} {bl : Nat} {recs pre suf : List Bs} {tn : Bs} (hr : recs = pre ++ suf) (h1 : (Log check bl 0 pre).length ≤ tn.length) (hp : tn <+: Log check bl 0 recs) : tn.take (Log check bl 0 pre).length = Log check bl 0 pre := by
  rw [hr, log_append] at hp
  obtain ⟨t, e⟩ := hp
  have := congrArg (List.take (Log check bl 0 pre).length) e
  rw [List.take_append_of_le_length h1, List.take_left'] at this
  · exact this
  · rfl
end Mine
end
section
example : True := by (k_with "cr" => first | (((show wpAny _ _ (call (Value.ref 241) _ _) _ _ _); (refine wpAny_call ?_); (k_dflt refine' Mine.wsync_C ?Cₖ98 ?Fₖ98 ?Nₖ98 ?Tkₖ98 ?Dₖ98 ?hknₖ98 ?haₖ98 ?hcₖ98 ?hlₖ98 ?hzₖ98 ?_; (case Fₖ98 => k_asm); (case Nₖ98 => k_asm); (case Cₖ98 => k_extra "mine cx"); (case Tkₖ98 => k_extra "mine takes"); (case Dₖ98 => k_extra "mine D"); (case hknₖ98 => assumption); (case haₖ98 => (first | assumption | rfl)); (case hcₖ98 => (first | rfl | assumption)); (case hlₖ98 => assumption); (case hzₖ98 => (first | assumption | k_extra "o")); skip); intro h'ₖ tk'ₖ jn'ₖ q'ₖ left'ₖ sp'ₖ u0'ₖ u1'ₖ u2'ₖ F'ₖ N'ₖ Df0ₖ hlf'ₖ; (replace N'ₖ := N'ₖ.get (by k_extra "mine puts")); (try dsimp only [List.cons_append, List.nil_append] at N'ₖ); (try simp only [List.map_cons, List.map_nil] at Df0ₖ); (try dsimp only); (try k_sweep))) | fail "no"); trivial
example : True := by (k_with "mine cx" => first | (exact Mine.Cx.le (d := 20) (by assumption) (by decide)) | fail "no"); trivial
example : True := by (k_with "subscriptTail" => first | ((k_here; (try dsimp only); (with_reducible show wpAny _ _ (subscriptTail _ _ (Value.ref _) (Value.int _ _)) _ _ _); (with_unfolding_all refine' Mine.item_pair ?Nₖ75 ?hmₖ75 ?hkₖ75 ?hwₖ75 ?_; (case Nₖ75 => k_asm); (case hmₖ75 => k_mem); (case hkₖ75 => first | assumption | rfl); (case hwₖ75 => assumption)); (try dsimp only))) | fail "no"); trivial
example : True := by (k_with "setItem ref int" => first | ((k_here; (try dsimp only); (with_reducible show wpAny _ _ (setItem (Value.ref _) (Value.int _ _) _) _ _ _); k_dflt (refine' Mine.set_pair ?Fₖ76 ?Nₖ76 ?Uₖ76 ?hkₖ76 ?hwₖ76 ?_; (case Fₖ76 => k_asm); (case Nₖ76 => k_asm); (case Uₖ76 => k_upd); (case hkₖ76 => first | assumption | rfl); (case hwₖ76 => assumption)); intro h'ₖ F'ₖ N'ₖ; (try dsimp only at N'ₖ))) | fail "no"); trivial
example : True := by (k_with "mine led" => first | (first | ((dsimp only [Mine.LS.led, List.cons_append, List.nil_append]); k_extra "mine takes") | ((dsimp only [Mine.LS.led, Mine.wrO, Mine.fileO, Mine.nodeO, Mine.diskO, List.cons_append, List.nil_append, List.size_toArray]); k_extra "mine takes")) | fail "no"); trivial
example : True := by (k_with "mine has" => first | (((dsimp only [Mine.LS.names, List.cons_append, List.nil_append]); (repeat' (first | exact Mine.Has.nil | refine Mine.Has.cons (by rfl) ?_)))) | fail "no"); trivial
namespace Mine
section
variable {w : World} {A₀ A : Around} {s : Shared} {base h₀ : Heap} {L : Addr} {m : Str → Option Value} {own : List (Addr × Obj)} {E : Value → Shared → Prop} {Q : Flow → Shared → Prop}
  {p : Program} {loose : List Str} {mean : ExcName → Option Value} {mg mb : Str → Option Value} {S : LS} {i : Nat} {I fl : Addr} {oI : Obj}
  {name qual : Str} {params : Arguments} {body : List Stmt} {scope : Scope} {dV kV doc pm cdv cd ct oc : Value} {an od : Option Addr} {osl : Array (Option Value)}
set_option maxRecDepth 100000
set_option maxHeartbeats 1000000
theorem law_sync {u : Tok} (ho : (hd.heap_39 w.params).lookup 636 = some ⟨oc, od, .func (fnOf name qual params body scope dV kV doc pm an cdv ct), osl⟩)
    (C : Cx (hd.heap_39 w.params) A₀ A base h₀ [] (envOfC qual scope L fl cd) L p loose mean mg mb 20) (F : Fr h₀ L s.heap m) (ok : S.Ok w i) (N : News h₀ L s.heap (S.led w ++ [(I, oI)])) (D : ((S.led w ++ [(I, oI)]).map (·.1)).Nodup)
    (H : Has m (S.names ++ [(Str.ofString "who", .int (S.wv : Int) u)])) :
    wpG (model Challenge.rw_xm0852_01.row.prog w) A (execs (br4 body) (envOfC qual scope L fl cd)) (JNext h₀ L (LPost w S i [(I, oI)] [(Str.ofString "who", .int (S.wv : Int) u)]) s Q) E s := by
  refine ?whole
  refine' lawLit ho ?h2 ?_
  case h2 => k_is
  intro e1 e2
  subst e1
  subst e2
  clear ho
  have XB := C.B
  have XX := C.X
  have XT := C.T
  obtain ⟨a1, a2, a3, a4, a5⟩ := A
  obtain rfl : a3 = some [_] := C.hA
  obtain rfl : a1 = none := C.hh
  dsimp only [br4, turnB, nth, asFor, asIf1, asIf2]
  dsimp only [LS.led, List.cons_append, List.nil_append] at N D
  replace F := fr_hasL H F
  dsimp only [frL, LS.names, List.cons_append, List.nil_append] at F
  simp only [List.map_cons, List.map_nil] at D
  have hsz : (List.toArray S.data).size ≤ 16777216 := by have h1 := ok.dl; have h2 := ok.i9; rw [List.size_toArray]; k_extra "o"
  have hkn := ok.kn
  have hal := ok.al
  have hlf := ok.lf
  have hw2 := ok.wv2
  refine g_cons_any ?_
  k_extra "mine steps"
  refine g_cons_any ?_
  k_extra "mine steps"
  refine g_nil ?_
  refine' LPost.next (S' := { S with σ := { S.σ with left := _, spent := _, u0 := _, u1 := _, jn := _ }, q := _, ν := { S.ν with kept := _, u2 := _ }, safe := S.data.length, ts := _ }) ?F9 ?N9 ?D9 ?T9 ?H9 rfl ?ok9
  case F9 => assumption
  case N9 => assumption
  case D9 => k_extra "mine D"
  case T9 => k_extra "mine led"
  case H9 => k_extra "mine has"
  case ok9 => exact { ok with lf := by dsimp only; k_extra "o", kept := by dsimp only; rw [List.size_toArray], sf := Nat.le_refl _ }
  run_tac Mine.Sh.shrink
end
end Mine
end
section
example : True := by (k_with "cr" => first | (((show wpAny _ _ (call (Value.ref 244) _ _) _ _ _); (k_dflt refine' Mine.new_writer ?Cₖ70 ?Fₖ70 ?Nₖ70 ?Dₖ70 ?h8ₖ70 ?h41ₖ70 ?hcₖ70 ?hlₖ70 ?_; (case Fₖ70 => k_asm); (case Nₖ70 => k_asm); (case Cₖ70 => k_extra "mine cx"); (case Dₖ70 => k_extra "mine D"); (case h8ₖ70 => first | assumption | k_extra "o"); (case h41ₖ70 => first | assumption | k_extra "o"); (case hcₖ70 => assumption); (case hlₖ70 => first | assumption | k_extra "o"); skip); intro h'ₖ tk'ₖ x'ₖ d'ₖ a0'ₖ a1'ₖ a2'ₖ a3'ₖ F'ₖ N'ₖ l1ₖ l2ₖ; (try k_lt l1ₖ); (try k_lt2 l2ₖ); (try dsimp only); (try k_sweep))) | fail "no"); trivial
namespace Mine
section
variable {w : World} {A₀ A : Around} {s : Shared} {base h₀ : Heap} {L : Addr} {m : Str → Option Value} {own : List (Addr × Obj)} {E : Value → Shared → Prop} {Q : Flow → Shared → Prop}
  {p : Program} {loose : List Str} {mean : ExcName → Option Value} {mg mb : Str → Option Value} {S : LS} {i : Nat} {I fl : Addr} {oI : Obj}
  {name qual : Str} {params : Arguments} {body : List Stmt} {scope : Scope} {dV kV doc pm cdv cd ct oc : Value} {an od : Option Addr} {osl : Array (Option Value)}
set_option maxRecDepth 100000
set_option maxHeartbeats 4000000
theorem law_new {u v : Tok} {y : Int} (ho : (hd.heap_39 w.params).lookup 636 = some ⟨oc, od, .func (fnOf name qual params body scope dV kV doc pm an cdv ct), osl⟩)
    (C : Cx (hd.heap_39 w.params) A₀ A base h₀ [] (envOfC qual scope L fl cd) L p loose mean mg mb 20) (F : Fr h₀ L s.heap m) (ok : S.Ok w i) (N : News h₀ L s.heap (S.led w ++ [(I, oI)])) (D : ((S.led w ++ [(I, oI)]).map (·.1)).Nodup)
    (H : Has m (S.names ++ [(Str.ofString "who", .int (S.wv : Int) u), (Str.ofString "y", .int y v)])) :
    wpG (model Challenge.rw_xm0852_01.row.prog w) A (execs (br6 body) (envOfC qual scope L fl cd)) (JNext h₀ L (LPost w S i [(I, oI)] [(Str.ofString "who", .int (S.wv : Int) u)]) s Q) E s := by
  refine ?whole
  refine' lawLit ho ?h2 ?_
  case h2 => k_is
  intro e1 e2
  subst e1
  subst e2
  clear ho
  have XB := C.B
  have XX := C.X
  have XT := C.T
  obtain ⟨a1, a2, a3, a4, a5⟩ := A
  obtain rfl : a3 = some [_] := C.hA
  obtain rfl : a1 = none := C.hh
  dsimp only [br6, turnB, nth, asFor, asIf1, asIf2]
  dsimp only [LS.led, List.cons_append, List.nil_append] at N D
  replace F := fr_hasL H F
  dsimp only [frL, LS.names, List.cons_append, List.nil_append] at F
  simp only [List.map_cons, List.map_nil] at D
  have hw2 := ok.wv2
  have hc := ok.hc
  have h8 := ok.h8
  have h41 := ok.h41
  have hy0 : 0 ≤ y.fmod 1000 := by rw [Int.fmod_eq_emod_of_nonneg _ (by decide)]; exact Int.emod_nonneg _ (by decide)
  refine g_cons_any ?_
  k_extra "mine steps"
  refine g_cons_any ?_
  k_extra "mine steps"
  refine g_nil ?_
  refine' LPost.next (S' := { S with wa := _, wax := _, wat := ⟨_, _, _, _, _, _, _⟩, xa := y.fmod 1000, xat := _ }) ?F9 ?N9 ?D9 ?T9 ?H9 rfl ?ok9
  case F9 => assumption
  case N9 => assumption
  case D9 => k_extra "mine D"
  case T9 => k_extra "mine led"
  case H9 => k_extra "mine has"
  case ok9 => exact { ok with xa0 := hy0 }
  run_tac Mine.Sh.shrink
end
end Mine
end
section
example : True := by (k_with "cr" => first | (((show wpAny _ _ (call (Value.ref 423) _ _) _ _ _); (refine wpAny_call ?_); (k_dflt refine' Mine.length_C ?Cₖ66 ?Fₖ66 ?Nₖ66 ?Tkₖ66 ?Dₖ66 ?haₖ66 ?hcₖ66 ?hzₖ66 ?_; (case Fₖ66 => k_asm); (case Nₖ66 => k_asm); (case Cₖ66 => k_extra "mine cx"); (case Tkₖ66 => k_extra "mine takes"); (case Dₖ66 => k_extra "mine D"); (case haₖ66 => (first | assumption | rfl)); (case hcₖ66 => (first | rfl | assumption)); (case hzₖ66 => assumption); skip); intro h'ₖ tk'ₖ t'ₖ F'ₖ N'ₖ ; (replace N'ₖ := N'ₖ.get (by k_extra "mine puts")); (try dsimp only [List.cons_append, List.nil_append] at N'ₖ); (try dsimp only); (try k_sweep))) | fail "no"); trivial
example : True := by (k_with "cr" => first | (((show wpAny _ _ (call (Value.ref 514) _ _) _ _ _); (refine wpAny_call ?_); (k_dflt refine' Mine.append_to_C ?Cₖ33 ?Fₖ33 ?Nₖ33 ?Tkₖ33 ?Dₖ33 ?hprₖ33 ?hndₖ33 ?hnvₖ33 ?lopₖ33 ?lonₖ33 ?haₖ33 ?_; (case Fₖ33 => k_asm); (case Nₖ33 => k_asm); (case Cₖ33 => k_extra "mine cx"); (case Tkₖ33 => k_extra "mine takes"); (case Dₖ33 => k_extra "mine D"); (case hprₖ33 => assumption); (case hndₖ33 => assumption); (case hnvₖ33 => assumption); (case lopₖ33 => assumption); (case lonₖ33 => assumption); (case haₖ33 => (first | assumption | rfl)); skip); intro h'ₖ tk'ₖ f'ₖ fx'ₖ a0ₖ a1ₖ a2ₖ a3ₖ a4ₖ F'ₖ N'ₖ Df0ₖ ; (replace N'ₖ := N'ₖ.get (by k_extra "mine puts")); (try dsimp only [List.cons_append, List.nil_append] at N'ₖ); (try simp only [List.map_cons, List.map_nil] at Df0ₖ); (try dsimp only); (try k_sweep))) | fail "no"); trivial
example : True := by (k_with "cr" => first | (((show wpAny _ _ (call (Value.ref 549) _ _) _ _ _); (refine wpAny_call ?_); (k_dflt refine' Mine.size_C ?Cₖ84 ?Fₖ84 ?Nₖ84 ?Tkₖ84 ?Dₖ84 ?hprₖ84 ?hndₖ84 ?hnvₖ84 ?lopₖ84 ?lonₖ84 ?haₖ84 ?hzₖ84 ?_; (case Fₖ84 => k_asm); (case Nₖ84 => k_asm); (case Cₖ84 => k_extra "mine cx"); (case Tkₖ84 => k_extra "mine takes"); (case Dₖ84 => k_extra "mine D"); (case hprₖ84 => assumption); (case hndₖ84 => assumption); (case hnvₖ84 => assumption); (case lopₖ84 => assumption); (case lonₖ84 => assumption); (case haₖ84 => (first | assumption | rfl)); (case hzₖ84 => assumption); skip); intro h'ₖ tk'ₖ t'ₖ F'ₖ N'ₖ ; (replace N'ₖ := N'ₖ.get (by k_extra "mine puts")); (try dsimp only [List.cons_append, List.nil_append] at N'ₖ); (try dsimp only); (try k_sweep))) | fail "no"); trivial
namespace Mine
section
variable {w : World} {A₀ A : Around} {s : Shared} {base h₀ : Heap} {L : Addr} {m : Str → Option Value} {own : List (Addr × Obj)} {E : Value → Shared → Prop} {Q : Flow → Shared → Prop}
  {p : Program} {loose : List Str} {mean : ExcName → Option Value} {mg mb : Str → Option Value} {S : LS} {i : Nat} {I fl : Addr} {oI : Obj}
  {name qual : Str} {params : Arguments} {body : List Stmt} {scope : Scope} {dV kV doc pm cdv cd ct oc : Value} {an od : Option Addr} {osl : Array (Option Value)}
set_option maxRecDepth 100000
set_option maxHeartbeats 4000000
theorem law_len {u v t : Tok} {y act : Int} (ho : (hd.heap_39 w.params).lookup 636 = some ⟨oc, od, .func (fnOf name qual params body scope dV kV doc pm an cdv ct), osl⟩)
    (C : Cx (hd.heap_39 w.params) A₀ A base h₀ [] (envOfC qual scope L fl cd) L p loose mean mg mb 20) (F : Fr h₀ L s.heap m) (ok : S.Ok w i) (N : News h₀ L s.heap (S.led w ++ [(I, oI)])) (D : ((S.led w ++ [(I, oI)]).map (·.1)).Nodup)
    (H : Has m (S.names ++ [(Str.ofString "who", .int (S.wv : Int) u), (Str.ofString "y", .int y v), (Str.ofString "act", .int act t)])) (hy : 0 ≤ y) :
    wpG (model Challenge.rw_xm0852_01.row.prog w) A (exec (nth (brE body) 0) (envOfC qual scope L fl cd)) (JNext h₀ L (LPostP w S i [(I, oI)] fun S' ex => S'.xa = (S'.data.length : Int) ∧ ex = [(Str.ofString "who", .int (S.wv : Int) u), (Str.ofString "y", .int y v), (Str.ofString "act", .int act t)]) s Q) E s := by
  refine ?whole
  refine' lawLit ho ?h2 ?_
  case h2 => k_is
  intro e1 e2
  subst e1
  subst e2
  clear ho
  have XB := C.B
  have XX := C.X
  have XT := C.T
  obtain ⟨a1, a2, a3, a4, a5⟩ := A
  obtain rfl : a3 = some [_] := C.hA
  obtain rfl : a1 = none := C.hh
  dsimp only [brE, turnB, nth, asFor, asIf1, asIf2]
  dsimp only [LS.led, List.cons_append, List.nil_append] at N D
  replace F := fr_hasL H F
  dsimp only [frL, LS.names, List.cons_append, List.nil_append] at F
  simp only [List.map_cons, List.map_nil] at D
  have hsz : (List.toArray S.data).size ≤ 16777216 := by have h1 := ok.dl; have h2 := ok.i9; rw [List.size_toArray]; k_extra "o"
  have hsl : S.data.length ≤ 16777216 := by rw [List.size_toArray] at hsz; exact hsz
  have hw2 := ok.wv2
  have hc := ok.hc
  have h8 := ok.h8
  have h41 := ok.h41
  have hal := ok.al
  have hpr := ok.pr
  have hnd := ok.nd
  have hnv := ok.nv
  have lpr := ok.lpr
  have lnd := ok.lnd
  refine g_if_any ?_
  k_extra "mine steps"
  · refine g_cons_any ?_
    k_extra "mine steps"
    try dsimp only
    refine g_cons_any ?_
    k_extra "mine steps"
    all_goals try dsimp only
    · refine g_nil ?_
      refine' LPostP.next (S' := { S with wat := { S.wat with u3 := _ }, xa := (S.data.length : Int), xat := _ }) ?F1 ?N1 ?D1 ?T1 ?H1 rfl ?ok1 ⟨rfl, rfl⟩
      case F1 => assumption
      case N1 => assumption
      case D1 => k_extra "mine D"
      case T1 => k_extra "mine led"
      case H1 => k_extra "mine has"
      case ok1 => exact { ok with xa0 := by dsimp only; k_extra "o" }
    · refine g_nil ?_
      refine' LPostP.next (S' := { S with wa := _, wax := _, wat := ⟨_, _, _, _, _, _, _⟩, xa := (S.data.length : Int), xat := _ }) ?F2 ?N2 ?D2 ?T2 ?H2 rfl ?ok2 ⟨rfl, rfl⟩
      case F2 => assumption
      case N2 => assumption
      case D2 => k_extra "mine D"
      case T2 => k_extra "mine led"
      case H2 => k_extra "mine has"
      case ok2 => exact { ok with xa0 := by dsimp only; k_extra "o" }
    · refine g_nil ?_
      refine' LPostP.next (S' := { S with wa := _, wax := _, wat := ⟨_, _, _, _, _, _, _⟩, fa := _, fax := _, fat := ⟨_, _, _, _, _⟩, xa := (S.data.length : Int), xat := _ }) ?F3 ?N3 ?D3 ?T3 ?H3 rfl ?ok3 ⟨rfl, rfl⟩
      case F3 => assumption
      case N3 => assumption
      case D3 => k_extra "mine D"
      case T3 => k_extra "mine led"
      case H3 => k_extra "mine has"
      case ok3 => exact { ok with xa0 := by dsimp only; k_extra "o" }
  · refine g_nil ?_
    refine' LPostP.next (S' := S) ?F4 ?N4 ?D4 ?T4 ?H4 rfl ?ok4 ⟨?e4, rfl⟩
    case F4 => assumption
    case N4 => assumption
    case D4 => k_extra "mine D"
    case T4 => k_extra "mine led"
    case H4 => k_extra "mine has"
    case ok4 => exact ok
    case e4 => k_extra "o"
  run_tac Mine.Sh.shrink
end
end Mine
end
section
example : True := by (k_with "cr" => first | (((show wpAny _ _ (call (Value.ref 416) _ _) _ _ _); (refine wpAny_call ?_); (k_dflt refine' Mine.close_C ?Cₖ52 ?Fₖ52 ?Nₖ52 ?Tkₖ52 ?Dₖ52 ?haₖ52 ?hcₖ52 ?_; (case Fₖ52 => k_asm); (case Nₖ52 => k_asm); (case Cₖ52 => k_extra "mine cx"); (case Tkₖ52 => k_extra "mine takes"); (case Dₖ52 => k_extra "mine D"); (case haₖ52 => (first | assumption | rfl)); (case hcₖ52 => (first | rfl | assumption)); skip); intro h'ₖ tk'ₖ F'ₖ N'ₖ ; (replace N'ₖ := N'ₖ.get (by k_extra "mine puts")); (try dsimp only [List.cons_append, List.nil_append] at N'ₖ); (try dsimp only); (try k_sweep))) | fail "no"); trivial
example : True := by (k_with "cr" => first | (((show wpAny _ _ (call (Value.ref 542) _ _) _ _ _); (refine wpAny_call ?_); (k_dflt refine' Mine.read_C ?Cₖ78 ?Fₖ78 ?Nₖ78 ?Tkₖ78 ?Dₖ78 ?hprₖ78 ?hndₖ78 ?hnvₖ78 ?lopₖ78 ?lonₖ78 ?haₖ78 ?hzₖ78 ?_; (case Fₖ78 => k_asm); (case Nₖ78 => k_asm); (case Cₖ78 => k_extra "mine cx"); (case Tkₖ78 => k_extra "mine takes"); (case Dₖ78 => k_extra "mine D"); (case hprₖ78 => assumption); (case hndₖ78 => assumption); (case hnvₖ78 => assumption); (case lopₖ78 => assumption); (case lonₖ78 => assumption); (case haₖ78 => (first | assumption | rfl)); (case hzₖ78 => assumption); skip); intro h'ₖ tk'ₖ t'ₖ F'ₖ N'ₖ ; (replace N'ₖ := N'ₖ.get (by k_extra "mine puts")); (try dsimp only [List.cons_append, List.nil_append] at N'ₖ); (try dsimp only); (try k_sweep))) | fail "no"); trivial
example : True := by (k_with "cr" => first | (((show wpAny _ _ (call (Value.ref 617) _ _) _ _ _); (refine wpAny_call ?_); (k_dflt refine' Mine.record_C ?Cₖ81 ?Fₖ81 ?Nₖ81 ?hyₖ81 ?hmₖ81 ?hm2ₖ81 ?hlₖ81 ?_; (case Fₖ81 => k_asm); (case Nₖ81 => k_asm); (case Cₖ81 => k_extra "mine cx"); (case hyₖ81 => assumption); (case hmₖ81 => assumption); (case hm2ₖ81 => assumption); (case hlₖ81 => (first | assumption | k_extra "o")); skip); intro h'ₖ tk'ₖ t'ₖ F'ₖ N'ₖ; (try dsimp only); (try k_sweep))) | fail "no"); trivial
namespace Mine
theorem rangeKs_len : ∀ (n : Nat) (a : Int), (rangeKs a n).length = n
  | 0, _ => rfl
  | n + 1, a => by simp [rangeKs]
theorem recB_len {y most length : Int} (hm : 0 ≤ most) : ((recB y most length).length : Int) ≤ most := by
  unfold recB
  rw [List.length_map, List.length_map, rangeKs_len]
  have h1 : recN y most length ≤ most := by
    unfold recN
    have h0 : 0 ≤ y.fmod (most + 1) := by rw [Int.fmod_eq_emod_of_nonneg _ (by k_extra "o")]; exact Int.emod_nonneg _ (by k_extra "o")
    have h2 : y.fmod (most + 1) < most + 1 := by rw [Int.fmod_eq_emod_of_nonneg _ (by k_extra "o")]; exact Int.emod_lt_of_pos _ (by k_extra "o")
    split
    · rw [Int.fmod_eq_emod_of_nonneg _ (by k_extra "o")]
      have := Int.emod_lt_of_pos (y.fmod (most + 1)) (b := 8) (by k_extra "o")
      have h3 : (y.fmod (most + 1)) % 8 ≤ y.fmod (most + 1) := by k_extra "o"
      k_extra "o"
    · k_extra "o"
  k_extra "o"
end Mine
namespace Mine
def LS.ledC (w : World) (S : LS) : List (Addr × Obj) := [
  (S.nl, listOf S.vsn.toArray S.zn), (S.cx, S.oc),
  (S.d, instObj 587 S.dx), (S.dx, diskO w S.σ), (S.σ.jn, listOf #[] S.q), (S.σ.kn, S.kno), (S.σ.pr, S.pro), (S.σ.nd, S.ndo),
  (S.n, instObj 342 S.nx), (S.nx, nodeO w S.ν), (S.ν.ba, baO S.data.toArray),
  (S.wl, listOf (pr2 S.wv (.ref S.wa) (.ref S.wb)) S.wz),
  (S.wa, instObj 244 S.wax), (S.wax, wrO w ⟨S.fa, (S.bl : Int), S.check, S.xa, S.wat.t0, S.wat.t1, S.wat.t2, S.wat.t3, S.wat.u1, S.wat.u2, S.wat.u3⟩), (S.fa, instObj 426 S.fax), (S.fax, fileO w ⟨S.d, S.n, true, S.fat.t0, S.fat.t1, S.fat.t2, S.fat.t3, S.fat.u1⟩),
  (S.wb, instObj 244 S.wbx), (S.wbx, wrO w ⟨S.fb, (S.bl : Int), S.check, S.xb, S.wbt.t0, S.wbt.t1, S.wbt.t2, S.wbt.t3, S.wbt.u1, S.wbt.u2, S.wbt.u3⟩), (S.fb, instObj 426 S.fbx), (S.fbx, fileO w ⟨S.d, S.n, false, S.fbt.t0, S.fbt.t1, S.fbt.t2, S.fbt.t3, S.fbt.u1⟩),
  (S.al, listOf (pr2 S.wv (.int S.xa S.xat) (.int S.xb S.xbt)) S.az),
  (S.rl, listOf S.vr.toArray S.rz), (S.el, listOf S.ve.toArray S.ez)]
end Mine
example : True := by (k_with "mine ledC" => first | (first | ((dsimp only [Mine.LS.ledC, List.cons_append, List.nil_append]); k_extra "mine takes") | ((dsimp only [Mine.LS.ledC, Mine.wrO, Mine.fileO, Mine.nodeO, Mine.diskO, List.cons_append, List.nil_append, List.size_toArray]); k_extra "mine takes")) | fail "no"); trivial
namespace Mine
section
variable {w : World} {A₀ A : Around} {s : Shared} {base h₀ : Heap} {L : Addr} {m : Str → Option Value} {own : List (Addr × Obj)} {E : Value → Shared → Prop} {Q : Flow → Shared → Prop}
  {p : Program} {loose : List Str} {mean : ExcName → Option Value} {mg mb : Str → Option Value} {S : LS} {i : Nat} {I fl : Addr} {oI : Obj}
  {name qual : Str} {params : Arguments} {body : List Stmt} {scope : Scope} {dV kV doc pm cdv cd ct oc : Value} {an od : Option Addr} {osl : Array (Option Value)}
set_option maxRecDepth 100000
set_option maxHeartbeats 4000000
theorem law_refuse_body {u v t tr : Tok} {y act : Int} {rec : Bs} (ho : (hd.heap_39 w.params).lookup 636 = some ⟨oc, od, .func (fnOf name qual params body scope dV kV doc pm an cdv ct), osl⟩)
    (C : Cx (hd.heap_39 w.params) A₀ A base h₀ [] (envOfC qual scope L fl cd) L p loose mean mg mb 20) (XB0 : (hd.heap_39 w.params).In base) (TB0 : Top p loose mean mg mb base) (F : Fr h₀ L s.heap m) (ok : S.Ok w i) (N : News h₀ L s.heap (S.led w ++ [(I, oI)])) (D : ((S.led w ++ [(I, oI)]).map (·.1)).Nodup)
    (hx : S.xa = (S.data.length : Int)) (hy : 0 ≤ y) (hr : rec.length ≤ 30)
    (H : Has m (S.names ++ [(Str.ofString "who", .int (S.wv : Int) u), (Str.ofString "y", .int y v), (Str.ofString "act", .int act t), (Str.ofString "record", .bytes rec.toArray tr)]))
    (hE : PassesOwn (model Challenge.rw_xm0852_01.row.prog w) A (envOfC qual scope L fl cd) E) :
    wpG (model Challenge.rw_xm0852_01.row.prog w) A (execs (asIf1 (nth (brE body) 2)) (envOfC qual scope L fl cd)) (JNext h₀ L (LPostP w S i [(I, oI)] fun S' ex => S'.xa = (S'.data.length : Int) ∧ ∃ (rec : Bs) (tr : Tok), rec.length ≤ 30 ∧ ex = [(Str.ofString "who", .int (S.wv : Int) u), (Str.ofString "y", .int y v), (Str.ofString "act", .int act t), (Str.ofString "record", .bytes rec.toArray tr)]) s Q) E s := by
  refine ?whole
  refine' lawLit ho ?h2 ?_
  case h2 => k_is
  intro e1 e2
  subst e1
  subst e2
  clear ho
  have XB := C.B
  have XX := C.X
  have XT := C.T
  obtain ⟨a1, a2, a3, a4, a5⟩ := A
  obtain rfl : a3 = some [_] := C.hA
  obtain rfl : a1 = none := C.hh
  dsimp only [brE, turnB, nth, asFor, asIf1, asIf2]
  dsimp only [LS.led, List.cons_append, List.nil_append] at N D
  replace F := fr_hasL H F
  dsimp only [frL, LS.names, List.cons_append, List.nil_append] at F
  simp only [List.map_cons, List.map_nil] at D
  have hsz : (List.toArray S.data).size ≤ 16777216 := by have h1 := ok.dl; have h2 := ok.i9; rw [List.size_toArray]; k_extra "o"
  have hsl : S.data.length ≤ 16777216 := by rw [List.size_toArray] at hsz; exact hsz
  have hw2 := ok.wv2
  have hc := ok.hc
  have h8 := ok.h8
  have h41 := ok.h41
  have hal := ok.al
  have hlf := ok.lf
  have hpr := ok.pr
  have hnd := ok.nd
  have hnv := ok.nv
  have lpr := ok.lpr
  have lnd := ok.lnd
  have m0 := ok.m0
  have m30 := ok.m30
  refine g_cons_any ?_
  k_extra "mine steps"
  try dsimp only
  refine g_cons (g_For ?_)
  k_extra "mine iter"
  have hb0 : 0 ≤ (y.fdiv 3).fmod 2 := by rw [Int.fmod_eq_emod_of_nonneg _ (by decide)]; exact Int.emod_nonneg _ (by decide)
  have hb1 : (y.fdiv 3).fmod 2 < 2 := by rw [Int.fmod_eq_emod_of_nonneg _ (by decide)]; exact Int.emod_lt_of_pos _ (by decide)
  obtain ⟨nn, hnn⟩ : ∃ nn : Nat, 1 + (y.fdiv 3).fmod 2 = (nn : Int) := ⟨(1 + (y.fdiv 3).fmod 2).toNat, by k_extra "o"⟩
  rename IsRange _ _ _ _ _ _ _ _ => rgX
  rw [hnn] at rgX
  rename Fr _ _ _ _ => lF
  rename News _ _ _ _ => lN
  refine' range_JG (n := nn) (fun k m l => ∃ S1 : LS, S1.Ok w i ∧ S1.xa = (S1.data.length : Int) ∧ S1.fix = S.fix ∧ l = S1.ledC w ++ [(I, oI)] ∧ Has m (S1.names ++ [(Str.ofString "who", .int (S.wv : Int) u), (Str.ofString "y", .int y v), (Str.ofString "act", .int act t), (Str.ofString "record", .bytes rec.toArray tr)])) (by rfl) (by rfl) (by rfl) rgX (small_one (by k_extra "o") (by k_extra "o") (by k_extra "o") (by k_extra "o")) (rangeSize_nat _ _) lF lN ?D0 ⟨S, ok, hx, rfl, rfl, ?H0⟩ ?turn ?done hE
  case D0 => k_extra "mine D"
  case H0 => k_extra "mine has"
  case turn =>
    clear lF lN rgX
    rintro k m1 l1 tt h tk I2 oI2 hk ⟨S1, ok1, hx1, hf1, rfl, H1⟩ D1 F' N'
    have hw1 : S1.wv = S.wv := congrArg Prod.fst hf1
    rw [← hw1] at H1
    replace F' := fr_hasX H1 F'
    dsimp only [LS.ledC, List.cons_append, List.nil_append] at N' D1
    dsimp only [frL, LS.names, List.cons_append, List.nil_append] at F'
    simp only [List.map_cons, List.map_nil] at D1
    have hw2 := ok1.wv2
    have hal := ok1.al
    have hlf := ok1.lf
    have hpr := ok1.pr
    have hnd := ok1.nd
    have hnv := ok1.nv
    have lpr := ok1.lpr
    have lnd := ok1.lnd
    have hsz : (List.toArray S1.data).size ≤ 16777216 := by have h1 := ok1.dl; have h2 := ok1.i9; rw [List.size_toArray]; k_extra "o"
    have hkb : ((0 : Int) + (k : Nat) * 1) = (k : Int) := by k_extra "o"
    rw [hkb] at F'
    have hk2 : k < 2 := by k_extra "o"
    refine g_cons (g_if (g_isTrue_compare ?_))
    refine g_call_name ?_
    k_extra "mine steps"
    refine g_callWith_K (K := hd.heap_39 w.params) (by k_is) rfl ?_
    refine g_args_any ?_
    k_extra "mine steps"
    refine g_args_any ?_
    k_extra "mine steps"
    refine g_args_nil ?_
    refine ⟨by k_in, ?_⟩
    try dsimp only
    refine wpG_call ?_
    refine' refused_C (ln := S1.data.length) (bl := S1.bl) (b := S1.data) ?C ?XB ?TB ?F ?N ?Tk ?D hal ?hcl ?hc ?hln ?hbl ok1.h8 ok1.h41 ?hr ?hz ?hk
    case C => k_extra "mine cx"
    case XB => exact XB0
    case TB => exact TB0
    case F => k_asm
    case N => k_asm
    case Tk => k_extra "mine takes"
    case D => k_extra "mine D"
    case hcl => rfl
    case hc => exact ok1.hc
    case hln => exact hx1
    case hbl => rfl
    case hr => rw [List.length_append, List.length_replicate]; k_extra "o"
    case hz => have h1 := ok1.dl; have h2 := ok1.i9; k_extra "o"
    case hk =>
      intro h' tk' tt2 left' sp' u0' u1' u3' hlf' F' N'
      replace N' := N'.get (by k_extra "mine puts")
      try dsimp only
      k_extra "mine steps"
      try dsimp only
      refine g_nil ?_
      try dsimp only
      refine g_cons_any ?_
      k_extra "mine steps"
      · rename (_ : Int) ≠ _ => hne
        exact absurd rfl hne
      · exact (bneF (by assumption)).elim
      try dsimp only
      refine g_nil ?_
      refine' fendT (l' := LS.ledC w { S1 with σ := { S1.σ with left := _, spent := _, u0 := _, u1 := _ }, wat := { S1.wat with u3 := _ } } ++ [(I, oI)]) ?F5 ?N5 ?D5 ?T5 ⟨_, ?ok5, ?hx5, ?hw5, rfl, ?H5⟩
      case F5 => assumption
      case N5 => assumption
      case D5 => k_extra "mine D"
      case T5 => k_extra "mine ledC"
      case ok5 => exact { ok1 with lf := by dsimp only; k_extra "o" }
      case hx5 => exact hx1
      case hw5 => exact hf1
      case H5 => rw [← hw1]; k_extra "mine has"
  case done =>
    clear lF lN rgX
    rintro m1 l1 h tk ⟨S1, ok1, hx1, hf1, rfl, H1⟩ D1 F' N'
    have hw1 : S1.wv = S.wv := congrArg Prod.fst hf1
    rw [← hw1] at H1
    replace F' := fr_hasL H1 F'
    dsimp only [LS.ledC, List.cons_append, List.nil_append] at N' D1
    dsimp only [frL, LS.names, List.cons_append, List.nil_append] at F'
    simp only [List.map_cons, List.map_nil] at D1
    have hw2 := ok1.wv2
    have hal := ok1.al
    have hlf := ok1.lf
    have hpr := ok1.pr
    have hnd := ok1.nd
    have hnv := ok1.nv
    have lpr := ok1.lpr
    have lnd := ok1.lnd
    have m0 := ok1.m0
    have m30 := ok1.m30
    have hsl : S1.data.length ≤ 16777216 := by have h1 := ok1.dl; have h2 := ok1.i9; k_extra "o"
    have hy5 : 0 ≤ y.fdiv 5 := by rw [Int.fdiv_eq_ediv_of_nonneg _ (by decide)]; k_extra "o"
    refine g_cons_any ?_
    k_extra "mine steps"
    refine g_cons_any ?_
    k_extra "mine steps"
    all_goals try dsimp only
    · refine g_nil ?_
      refine' LPostP.next (S' := { S1 with fa := _, fax := _, fat := ⟨_, _, _, _, _⟩ }) ?F6 ?N6 ?D6 ?T6 ?H6 ?w6 ?ok6 ⟨?x6, _, _, ?r6, rfl⟩
      case F6 => assumption
      case N6 => assumption
      case D6 => k_extra "mine D"
      case T6 => k_extra "mine led"
      case H6 => rw [← hw1]; k_extra "mine has"
      case x6 => exact hx1
      case w6 => exact hf1
      case ok6 => exact { ok1 with }
      case r6 => have h3 := recB_len (y := y.fdiv 5) (length := (S1.data.length : Int)) m0; k_extra "o"
    · refine g_nil ?_
      refine' LPostP.next (S' := { S1 with fa := _, fax := _, fat := ⟨_, _, _, _, _⟩ }) ?F7 ?N7 ?D7 ?T7 ?H7 ?w7 ?ok7 ⟨?x7, _, _, ?r7, rfl⟩
      case F7 => assumption
      case N7 => assumption
      case D7 => k_extra "mine D"
      case T7 => k_extra "mine led"
      case H7 => rw [← hw1]; k_extra "mine has"
      case x7 => exact hx1
      case r7 => exact hr
      case w7 => exact hf1
      case ok7 => exact { ok1 with }
  run_tac Mine.Sh.shrink
theorem law_refuse {u v t tr : Tok} {y act : Int} {rec : Bs} (ho : (hd.heap_39 w.params).lookup 636 = some ⟨oc, od, .func (fnOf name qual params body scope dV kV doc pm an cdv ct), osl⟩)
    (C : Cx (hd.heap_39 w.params) A₀ A base h₀ [] (envOfC qual scope L fl cd) L p loose mean mg mb 20) (XB0 : (hd.heap_39 w.params).In base) (TB0 : Top p loose mean mg mb base) (F : Fr h₀ L s.heap m) (ok : S.Ok w i) (N : News h₀ L s.heap (S.led w ++ [(I, oI)])) (D : ((S.led w ++ [(I, oI)]).map (·.1)).Nodup)
    (hx : S.xa = (S.data.length : Int)) (hy : 0 ≤ y) (hr : rec.length ≤ 30)
    (H : Has m (S.names ++ [(Str.ofString "who", .int (S.wv : Int) u), (Str.ofString "y", .int y v), (Str.ofString "act", .int act t), (Str.ofString "record", .bytes rec.toArray tr)]))
    (hE : PassesOwn (model Challenge.rw_xm0852_01.row.prog w) A (envOfC qual scope L fl cd) E) :
    wpG (model Challenge.rw_xm0852_01.row.prog w) A (exec (nth (brE body) 2) (envOfC qual scope L fl cd)) (JNext h₀ L (LPostP w S i [(I, oI)] fun S' ex => S'.xa = (S'.data.length : Int) ∧ ∃ (rec : Bs) (tr : Tok), rec.length ≤ 30 ∧ ex = [(Str.ofString "who", .int (S.wv : Int) u), (Str.ofString "y", .int y v), (Str.ofString "act", .int act t), (Str.ofString "record", .bytes rec.toArray tr)]) s Q) E s := by
  refine ?whole
  refine' lawLit ho ?h2 ?_
  case h2 => k_is
  intro e1 e2
  subst e1
  subst e2
  have XB := C.B
  have XX := C.X
  have XT := C.T
  obtain ⟨a1, a2, a3, a4, a5⟩ := A
  obtain rfl : a3 = some [_] := C.hA
  obtain rfl : a1 = none := C.hh
  dsimp only [brE, turnB, nth, asFor, asIf1, asIf2]
  have F0 := fr_hasL H F
  dsimp only [frL, LS.names, List.cons_append, List.nil_append] at F0
  clear F
  refine g_if_any ?_
  k_extra "mine steps"
  · refine wpG_J (law_refuse_body (u := u) (v := v) (t := t) (tr := tr) (y := y) (act := act) (rec := rec) ho C XB0 TB0 (by assumption) ok (by assumption) D hx hy hr ?H hE)
    case H => k_extra "mine has"
  · refine wpG_J (law_refuse_body (u := u) (v := v) (t := t) (tr := tr) (y := y) (act := act) (rec := rec) ho C XB0 TB0 (by assumption) ok (by assumption) D hx hy hr ?H2 hE)
    case H2 => k_extra "mine has"
  · refine g_nil ?_
    refine' LPostP.next (S' := S) ?F4 ?N4 D ?T4 ?H4 rfl ok ⟨hx, _, _, hr, rfl⟩
    case F4 => assumption
    case N4 => assumption
    case T4 => k_extra "mine led"
    case H4 => k_extra "mine has"
  run_tac Mine.Sh.shrink
end
end Mine
end
section
example : True := by (k_with "cr" => first | (((show wpAny _ _ (call (Value.ref 409) _ _) _ _ _); (refine wpAny_call ?_); (k_dflt refine' Mine.sync1_C ?Cₖ87 ?Fₖ87 ?Nₖ87 ?Tkₖ87 ?Dₖ87 ?hknₖ87 ?hkzₖ87 ?hnumₖ87 ?haₖ87 ?hcₖ87 ?hlₖ87 ?hzₖ87 ?_; (case Fₖ87 => k_asm); (case Nₖ87 => k_asm); (case Cₖ87 => k_extra "mine cx"); (case Tkₖ87 => k_extra "mine takes"); (case Dₖ87 => k_extra "mine D"); (case hknₖ87 => assumption); (case hkzₖ87 => (first | assumption | exact Nat.le_of_ble_eq_true rfl)); (case hnumₖ87 => rfl); (case haₖ87 => (first | assumption | rfl)); (case hcₖ87 => (first | rfl | assumption)); (case hlₖ87 => (first | assumption | k_extra "o")); (case hzₖ87 => (first | assumption | k_extra "o")); skip); intro h'ₖ tk'ₖ jn'ₖ q'ₖ kno'ₖ left'ₖ sp'ₖ u0'ₖ u1'ₖ u2'ₖ F'ₖ N'ₖ Df0ₖ hkno'ₖ hlf'ₖ; (replace N'ₖ := N'ₖ.get (by k_extra "mine puts")); (try dsimp only [List.cons_append, List.nil_append] at N'ₖ); (try simp only [List.map_cons, List.map_nil] at Df0ₖ); (try dsimp only); (try k_sweep))) | fail "no"); trivial
example : True := by (k_with "subscriptTail" => first | ((k_here; (try dsimp only); (with_reducible show wpAny _ _ (subscriptTail _ (Expr.Slice none (some _) none _) (Value.ref _) (Value.ref _)) _ _ _); (with_reducible rename Fr _ _ _ _ => F'ₖ); (with_reducible rename News _ _ _ _ => N'ₖ); (k_dflt refine' Mine.slice_vsU (s := ⟨_, _, _, _, _⟩) F'ₖ N'ₖ ?hmₖ85 ?hyₖ85 ?hzₖ85 ?_); (case hmₖ85 => k_mem); (case hyₖ85 => rfl); (case hzₖ85 => first | assumption | k_extra "o"); intro _ _ F'ₖ N'ₖ l1ₖ; (try dsimp only); k_lt l1ₖ)) | fail "no"); trivial
example : True := by (k_with "compareOp NotEq ref ref" => first | ((k_here; (try dsimp only); (with_reducible show wpAny _ _ (compareOp CmpOp.NotEq (Value.ref _) (Value.ref _)) _ _ _); (k_dflt first | (refine' Mine.cmp_row ?Nₖ53 ?m1ₖ53 ?m2ₖ53 ?m3ₖ53 ?m4ₖ53 ?huₖ53 ?_; (case Nₖ53 => k_asm); (case m1ₖ53 => k_mem); (case m2ₖ53 => k_mem); (case m3ₖ53 => k_mem); (case m4ₖ53 => k_mem); (case huₖ53 => (try dsimp only); k_extra "o")) | (refine' Mine.cmp_bsk ?Nₖ53 ?m1ₖ53 ?m2ₖ53 ?m3ₖ53 ?m4ₖ53 ?hvₖ53 ?hwₖ53 ?huₖ53 ?_; (case Nₖ53 => k_asm); (case m1ₖ53 => k_mem); (case m2ₖ53 => k_mem); (case m3ₖ53 => k_mem); (case m4ₖ53 => k_mem); (case hvₖ53 => assumption); (case hwₖ53 => assumption); (case huₖ53 => (try dsimp only); k_extra "o")) | (refine' Mine.cmp_bs ?Nₖ53 ?m1ₖ53 ?m2ₖ53 ?hvₖ53 ?hwₖ53 ?huₖ53 ?_; (case Nₖ53 => k_asm); (case m1ₖ53 => k_mem); (case m2ₖ53 => k_mem); (case hvₖ53 => assumption); (case hwₖ53 => assumption); (case huₖ53 => (try dsimp only); k_extra "o"))); (try dsimp only))) | fail "no"); trivial
example : True := by (k_with "mine until comp" => first | (repeat' ((fail_if_success (with_reducible show wpAny _ _ (eval (Expr.ListComp _ _ _ _) _) _ _ _)); (first | (k_unfold; (try dsimp only)) | walk1 | (dsimp only; walk1) | fail "no step"))) | fail "no"); trivial
namespace Mine
section
variable {w : World} {A₀ A : Around} {s : Shared} {base h₀ : Heap} {L : Addr} {m : Str → Option Value} {own : List (Addr × Obj)} {E : Value → Shared → Prop} {Q : Flow → Shared → Prop}
  {p : Program} {loose : List Str} {mean : ExcName → Option Value} {mg mb : Str → Option Value} {S : LS} {i : Nat} {I fl : Addr} {oI : Obj}
  {name qual : Str} {params : Arguments} {body : List Stmt} {scope : Scope} {dV kV doc pm cdv cd ct oc : Value} {an od : Option Addr} {osl : Array (Option Value)}
set_option maxRecDepth 100000
set_option maxHeartbeats 4000000
theorem law_power2 {u tp : Tok} {recs : List Bs} {pd : Bs} {rr : Int} {vr1 ve1 : List Value} {rz1 ez1 cl : Nat} {dd ddx nn nnx : Addr} {σ2 : DiskS} {ν2 : NodeS} {ndo2 kno2 pro2 : Obj} (ho : (hd.heap_39 w.params).lookup 636 = some ⟨oc, od, .func (fnOf name qual params body scope dV kV doc pm an cdv ct), osl⟩)
    (C : Cx (hd.heap_39 w.params) A₀ A base h₀ [] (envOfC qual scope L fl cd) L p loose mean mg mb 20) (F : Fr h₀ L s.heap m) (ok : S.Ok w i) (hi9 : i + 1 ≤ 20) (hcx : S.cx = L + 1)
    (N : News h₀ L s.heap [(dd, instObj 587 ddx), (ddx, diskO w σ2), (σ2.jn, listOf #[] 0), (σ2.kn, kno2), (σ2.pr, pro2), (σ2.nd, ndo2), (nn, instObj 342 nnx), (nnx, nodeO w ν2), (ν2.ba, baO (pd.take cl).toArray), (S.nl, listOf S.vsn.toArray S.zn), (S.cx, S.oc), (S.rl, listOf vr1.toArray rz1), (S.el, listOf ve1.toArray ez1), (I, oI)])
    (D : ([dd, ddx, σ2.jn, σ2.kn, σ2.pr, σ2.nd, nn, nnx, ν2.ba, S.nl, S.cx, S.rl, S.el, I] : List Addr).Nodup)
    (CF : CutFacts w pd (S.safe : Int) rr nn σ2 ν2 ndo2 kno2 pro2 cl)
    (hvr : BytesAre vr1 recs) (hve : IntsAre ve1 (endsI S.check S.bl recs)) (hpd : pd <+: Log S.check S.bl 0 recs) (hpl : pd.length ≤ 1000000) (hrl : ∀ r ∈ recs, r.length ≤ 30) (hrn : recs.length ≤ i + 1) (hlog : (Log S.check S.bl 0 recs).length ≤ 20000 * (i + 1))
    (H : Has m [(Str.ofString "disk", .ref dd), (Str.ofString "paid", .bytes pd.toArray tp), (Str.ofString "nums", .ref S.nl), (Str.ofString "block", .int (S.bl : Int) S.tb), (Str.ofString "check", .int S.check S.tc), (Str.ofString "most", .int S.most S.tm), (Str.ofString "safe", .int (S.safe : Int) S.ts), (Str.ofString "records", .ref S.rl), (Str.ofString "ends", .ref S.el), (Str.ofString "who", .int (S.wv : Int) u)])
    (hE : PassesOwn (model Challenge.rw_xm0852_01.row.prog w) A (envOfC qual scope L fl cd) E) :
    wpG (model Challenge.rw_xm0852_01.row.prog w) A (execs ((asIf1 (nth (brE body) 6)).drop 6) (envOfC qual scope L fl cd)) (JNext h₀ L (LPost w S (i + 1) [(I, oI)] [(Str.ofString "who", .int (S.wv : Int) u)]) s Q) E s := by
  refine ?whole
  refine' lawLit ho ?h2 ?_
  case h2 => k_is
  intro e1 e2
  subst e1
  subst e2
  clear ho
  have XB := C.B
  have XX := C.X
  have XT := C.T
  obtain ⟨a1, a2, a3, a4, a5⟩ := A
  obtain rfl : a3 = some [_] := C.hA
  obtain rfl : a1 = none := C.hh
  have hu9 := C.units
  dsimp only at hu9
  dsimp only [brE, turnB, nth, asFor, asIf1, asIf2, List.drop]
  replace F := fr_hasL H F
  dsimp only [frL, List.cons_append, List.nil_append] at F
  obtain ⟨v0, hcell⟩ := ok.cell
  rw [hcx] at N D
  have hw2 := ok.wv2
  have hc := ok.hc
  have h8 := ok.h8
  have h41 := ok.h41
  obtain ⟨lf2, al2, md2, nu2, kp2, lo2, hi2, zr2, nd2, ⟨tkn, kn2⟩, ⟨tpr, pr2'⟩, lnd2, lkn2, lpr2⟩ := CF
  have nv2 : valueAt [((1 : Int), Value.ref nn)] 1 = some (.ref nn) := rfl
  have htl : (pd.take cl).length = cl := by rw [List.length_take]; k_extra "o"
  have htp : pd.take (pd.take cl).length = pd.take cl := by rw [htl]
  have htn : pd.take cl <+: Log S.check S.bl 0 recs := (List.take_prefix _ _).trans hpd
  generalize htg : pd.take cl = tn at N htl htp htn
  have hts : (List.toArray tn).size ≤ 16777216 := by rw [List.size_toArray]; k_extra "o"
  refine g_cons_any ?_
  k_extra "mine steps"
  try dsimp only
  refine g_cons_any ?_
  k_extra "mine steps"
  · rename ((_ : List UInt8) != _) = true => hb
    rw [Int.toNat_natCast, htp] at hb
    exact (bneF hb).elim
  try dsimp only
  refine g_cons_any ?_
  k_extra "mine until comp"
  have hvl : ve1.length ≤ 100 := by
    have h1 := hve.length
    unfold endsI at h1
    rw [List.length_map, List.length_range] at h1
    k_extra "o"
  have hrl9 : vr1.length ≤ 1000 := by rw [hvr.len]; k_extra "o"
  refine LCt.ListComp_T (F₀ := by k_asm) (by with_unfolding_all rfl) (by decide) (by rfl) (by decide) (by rfl) ?_
  k_extra "mine steps"
  refine LCt.CompSrcT.ledger (by rfl) (by k_asm) (by k_asm) (by k_mem) (by rw [sizeLine_eq, List.size_toArray]; k_extra "o") ?_
  intro g'
  rw [List.size_toArray]
  refine rest_T (fun i ys => IntsAre ys (((endsI S.check S.bl recs).take i).filter (fun a => decide (a ≤ (tn.length : Int))))) .nil ?turn ?fin
  case turn =>
    intro j ys hj hys v I' oI' C' oC' D' m' h' tk' E' hP hC' hx' F' N' off' ne'
    rw [List.getElem?_toArray] at hP
    obtain ⟨a, ta, rfl, ha⟩ := ints_get hve j v hP
    have hfs := filt_step (p := fun a => decide (a ≤ (tn.length : Int))) ha
    k_extra "mine steps"
    · exact ⟨h', _, _, rfl, F', N', off', .inr ⟨_, by k_mem, rfl, _, rfl⟩, rfl, by rw [hfs, if_pos (decide_eq_true (by assumption))]; exact ints_push hys⟩
    · exact ⟨h', _, _, rfl, F', N', off', .inr ⟨_, by k_mem, rfl, _, rfl⟩, rfl, by rw [hfs, if_neg (by rw [decide_eq_true_iff]; assumption), List.append_nil]; exact hys⟩
  case fin =>
    intro ys hys
    have hel : (endsI S.check S.bl recs).length = ve1.length := hve.length.symm
    rw [List.take_of_length_le (by k_extra "o")] at hys
    have hfl : ((endsI S.check S.bl recs).filter fun a => decide (a ≤ (tn.length : Int))).length ≤ 100 := Nat.le_trans (List.length_filter_le _ _) (by k_extra "o")
    generalize hcn : ((endsI S.check S.bl recs).filter fun a => decide (a ≤ (tn.length : Int))) = fe at hys hfl
    unfold LCg.FinE
    intro Dc hhc tkc Fc Nc oc
    clear oc
    k_extra "mine steps"
    try dsimp only
    rename News _ _ _ _ => N8
    replace N8 := newsTail N8
    refine g_cons_any ?_
    k_extra "mine steps"
    try dsimp only
    refine g_cons_any ?_
    k_extra "mine steps"
    try dsimp only
    refine g_cons_any ?_
    k_extra "mine steps"
    try dsimp only
    rename (_ : Int) ∈ _ => hM1
    rename ∀ (a : Int), a ∈ _ → a ≤ _ => hM2
    refine g_cons (g_if (g_isTrue_compare ?_))
    refine g_call_name ?_
    k_extra "mine steps"
    refine g_callWith_K (K := hd.heap_39 w.params) (by k_is) rfl ?_
    refine g_args_any ?_
    k_extra "mine steps"
    refine g_args_any ?_
    k_extra "mine steps"
    refine g_args_any ?_
    k_extra "mine steps"
    refine g_args_nil ?_
    refine ⟨by k_in, ?_⟩
    try dsimp only
    refine wpG_call ?_
    refine' read_prefix_C (b := tn) (recs := recs) ?C ?F ?N ?D rfl h8 h41 hc (by rw [htl]; k_extra "o") htn (fun r hr => Nat.le_trans (hrl r hr) (by decide)) (by k_extra "o") ?hk
    case C => k_extra "mine cx"
    case F => k_asm
    case N => k_asm
    case D => k_extra "mine D"
    case hk =>
      intro h' tk' tpx lsx vsx zzx tgx pre suf hrec hple hpsf hvs F' N' Df
      replace N' := N'.get (by k_extra "mine puts")
      dsimp only [List.cons_append, List.nil_append] at N'
      simp only [List.map_cons, List.map_nil] at Df
      have hfe := whole_count hrec hple hpsf
      rw [hcn] at hfe
      have hfl2 : fe.length = pre.length := by rw [hfe, endsI_len]
      have hrt : (endsI S.check S.bl recs).take fe.length = endsI S.check S.bl pre := by rw [hfl2, hrec, endsI_take]
      rw [Int.toNat_natCast, hrt] at hM1 hM2
      have hMe := whole_max hM1 hM2
      rename IntsAre _ (List.take _ _) => hIs
      rw [Int.toNat_natCast, hrt] at hIs
      rename Obj.data _ = Data.cell (some _) => hcl9
      have hlm : (Log S.check S.bl 0 pre).length ≤ (Log S.check S.bl 0 recs).length := by rw [hrec, log_append, List.length_append]; k_extra "o"
      have hprl : pre.length ≤ recs.length := by rw [hrec, List.length_append]; k_extra "o"
      subst hMe
      have hv2 : BytesAre (vr1.take fe.length) pre := by
        have h1 := hvr.take fe.length
        rw [hfl2, hrec, List.take_left'] at h1
        · rw [hfl2]; exact h1
        · rfl
      try dsimp only
      k_extra "mine steps"
      refine g_nil ?_
      try dsimp only
      have hdt := log_cut hrec hple htn
      refine g_cons_any ?_
      k_extra "mine steps"
      try dsimp only
      rename Fr _ _ _ _ => F9
      rw [Int.toNat_natCast, hdt] at F9
      have hdl : (Log S.check S.bl 0 pre).length ≤ 1000000 := by k_extra "o"
      refine g_cons_any ?_
      k_extra "mine steps"
      try dsimp only
      refine g_cons (g_assign_name (g_call_attr ?_))
      k_extra "mine steps"
      refine g_callWith_K (K := hd.heap_39 w.params) (by k_is) rfl ?_
      refine g_args_any ?_
      k_extra "mine steps"
      refine g_args_nil ?_
      refine ⟨by k_in, ?_⟩
      try dsimp only
      refine wpG_call ?_
      refine' create_over_C (pkv := [("j", .int 1 tpr)]) (nkv := [(1, .ref nn)]) (σ := σ2) ?C1 ?F1 ?N1 ?Tk1 ?D1 pr2' (by show 1 ≤ 16777216; k_extra "o") nd2 (by show 1 ≤ 16777216; k_extra "o") al2 (by k_extra "o") ?hk1
      case C1 => k_extra "mine cx"
      case F1 => k_asm
      case N1 => k_asm
      case Tk1 => k_extra "mine takes"
      case D1 => k_extra "mine D"
      case hk1 =>
        intro h' tk' q' pro' ndo' f' fx' n' nx' ba' st' sx' left' u0' u1' u2' ut' a0 a1 a2' a3 a4' b0 b1 b2 b3 b4 c0 c1 c2 c3 c4 c5 c6 c7 F' N' Df hl' hp' hn'
        replace N' := N'.get (by k_extra "mine puts")
        dsimp only [List.cons_append, List.nil_append] at N'
        simp only [List.map_cons, List.map_nil] at Df
        try dsimp only
        k_extra "mine steps"
        rename News _ _ _ _ => N9
        rw [md2] at hp' hn' N9
        have hp3 : pro'.IsDictOf (strKind Challenge.rw_xm0852_01.row.prog w) [("j", .int (1 + 1) ut')] := hp'
        refine g_cons (g_expr (g_call_attr ?_))
        k_extra "mine steps"
        refine g_callWith_K (K := hd.heap_39 w.params) (by k_is) rfl ?_
        refine g_args_any ?_
        k_extra "mine steps"
        refine g_args_nil ?_
        refine ⟨by k_in, ?_⟩
        try dsimp only
        refine wpG_call ?_
        refine' append_C (b := #[]) (c := (Log S.check S.bl 0 pre).toArray) ?C2 ?F2 ?N2 ?Tk2 ?D2 ?ha2 ?hc2 ?hl2 ?hz2 ?hk2
        case C2 => k_extra "mine cx"
        case F2 => k_asm
        case N2 => k_asm
        case Tk2 => k_extra "mine takes"
        case D2 => k_extra "mine D"
        case ha2 => exact al2
        case hc2 => rfl
        case hl2 => left; dsimp only; k_extra "o"
        case hz2 => exact Nat.le_trans (show ([] : Bs).length + (Log S.check S.bl 0 pre).length ≤ 1000000 by rw [List.length_nil, Nat.zero_add]; exact hdl) (by decide)
        case hk2 =>
          intro h' tk' left2 u02 u12 hl21 hl22 F' N'
          replace N' := N'.get (by k_extra "mine puts")
          dsimp only at hl21 hl22 N'
          rw [Array.empty_append] at N'
          have hle2 : left2 < 0 := by k_extra "o"
          have hds : (List.toArray (Log S.check S.bl 0 pre)).size ≤ 16777216 := by rw [List.size_toArray]; k_extra "o"
          try dsimp only
          refine g_cons_any ?_
          k_extra "mine steps"
          have nv3 : valueAt (stored [((1 : Int), Value.ref nn)] (1 + 1) (.ref n')) (1 + 1) = some (.ref n') := rfl
          try dsimp only
          refine g_cons_any ?_
          k_extra "mine steps"
          try dsimp only
          refine g_cons_any ?_
          k_extra "mine steps"
          try dsimp only
          refine g_nil ?_
          rename Obj.IsDictOf _ _ (stored [(_, Value.int 1 tkn)] _ _) => hkno9
          rename (_ : Int) = DiskS.left _ => hlf9
          dsimp only at hlf9
          have hww : S.wv = 0 ∨ S.wv = 1 := by k_extra "o"
          rcases hww with hw0 | hw0
          · refine' LPost.next (S' := { S with oc := _, d := dd, dx := ddx, σ := { σ2 with left := _, spent := _, made := _, u0 := _, u1 := _, u2 := _, jn := _ }, q := _, kno := _, pro := _, ndo := _, k := 1 + 1, kt := c7, kt2 := ut', nkv := stored [((1 : Int), Value.ref nn)] (1 + 1) (.ref n'), n := n', nx := nx', ν := ⟨1 + 1, ba', _, b0, b1, b2, b3, _⟩, wl := _, wz := _, wv := 0, wa := _, wax := _, fa := _, fax := _, xa := (((Log S.check S.bl 0 pre).length : Nat) : Int), wat := ⟨_, _, _, _, _, _, _⟩, fat := ⟨_, _, _, _, _⟩, wb := _, wbx := _, fb := _, fbx := _, xb := (((Log S.check S.bl 0 pre).length : Nat) : Int), wbt := ⟨_, _, _, _, _, _, _⟩, fbt := ⟨_, _, _, _, _⟩, al := _, az := _, xat := _, xbt := _, rl := _, vr := vr1.take fe.length, rz := _, recs := pre, el := _, ve := _, ez := _, data := Log S.check S.bl 0 pre, safe := (Log S.check S.bl 0 pre).length, td := _, ts := _ }) ?Fa ?Na ?Da ?Ta ?Ha ?ea ?oka
            case Fa => assumption
            case Na => assumption
            case Ha => k_extra "mine has"
            case Da => k_extra "mine D"
            case Ta => (dsimp only [LS.led, List.cons_append, List.nil_append]; rw [hcx]; k_extra "mine takes")
            case ea => show (0, S.cx) = (S.wv, S.cx); rw [hw0]
            case oka =>
              exact { ok with
                al := al2
                lf := by dsimp only; k_extra "o"
                kn := hkno9
                pr := hp3
                nd := hn'
                nv := nv3
                lkn := lkn2
                lpr := lpr2
                lnd := lnd2
                kept := by dsimp only; rw [List.size_toArray]
                wv2 := by dsimp only; k_extra "o"
                xa0 := by dsimp only; k_extra "o"
                xb0 := by dsimp only; k_extra "o"
                dat := rfl
                rl := fun r hr => hrl r (by rw [hrec]; exact List.mem_append_left _ hr)
                rn := Nat.le_trans hprl hrn
                dl := Nat.le_trans hlm hlog
                vr := hv2
                ve := hIs
                sf := Nat.le_refl _
                i9 := hi9
                cell := ⟨_, hcl9⟩ }
          · refine' LPost.next (S' := { S with oc := _, d := dd, dx := ddx, σ := { σ2 with left := _, spent := _, made := _, u0 := _, u1 := _, u2 := _, jn := _ }, q := _, kno := _, pro := _, ndo := _, k := 1 + 1, kt := c7, kt2 := ut', nkv := stored [((1 : Int), Value.ref nn)] (1 + 1) (.ref n'), n := n', nx := nx', ν := ⟨1 + 1, ba', _, b0, b1, b2, b3, _⟩, wl := _, wz := _, wv := 1, wa := _, wax := _, fa := _, fax := _, xa := (((Log S.check S.bl 0 pre).length : Nat) : Int), wat := ⟨_, _, _, _, _, _, _⟩, fat := ⟨_, _, _, _, _⟩, wb := _, wbx := _, fb := _, fbx := _, xb := (((Log S.check S.bl 0 pre).length : Nat) : Int), wbt := ⟨_, _, _, _, _, _, _⟩, fbt := ⟨_, _, _, _, _⟩, al := _, az := _, xat := _, xbt := _, rl := _, vr := vr1.take fe.length, rz := _, recs := pre, el := _, ve := _, ez := _, data := Log S.check S.bl 0 pre, safe := (Log S.check S.bl 0 pre).length, td := _, ts := _ }) ?Fb ?Nb ?Db ?Tb ?Hb ?eb ?okb
            case Fb => assumption
            case Nb => assumption
            case Hb => k_extra "mine has"
            case Db => k_extra "mine D"
            case Tb => (dsimp only [LS.led, List.cons_append, List.nil_append]; rw [hcx]; k_extra "mine takes")
            case eb => show (1, S.cx) = (S.wv, S.cx); rw [hw0]
            case okb =>
              exact { ok with
                al := al2
                lf := by dsimp only; k_extra "o"
                kn := hkno9
                pr := hp3
                nd := hn'
                nv := nv3
                lkn := lkn2
                lpr := lpr2
                lnd := lnd2
                kept := by dsimp only; rw [List.size_toArray]
                wv2 := by dsimp only; k_extra "o"
                xa0 := by dsimp only; k_extra "o"
                xb0 := by dsimp only; k_extra "o"
                dat := rfl
                rl := fun r hr => hrl r (by rw [hrec]; exact List.mem_append_left _ hr)
                rn := Nat.le_trans hprl hrn
                dl := Nat.le_trans hlm hlog
                vr := hv2
                ve := hIs
                sf := Nat.le_refl _
                i9 := hi9
                cell := ⟨_, hcl9⟩ }
  run_tac Mine.Sh.shrink
end
end Mine
end
section
example : True := by (k_with "cr" => first | (((show wpAny _ _ (call (Value.ref 451) _ _) _ _ _); (refine wpAny_call ?_); (k_dflt refine' Mine.set_budget_C ?Cₖ83 ?Fₖ83 ?Nₖ83 ?Tkₖ83 ?Dₖ83 ?haₖ83 ?hvₖ83 ?_; (case Fₖ83 => k_asm); (case Nₖ83 => k_asm); (case Cₖ83 => k_extra "mine cx"); (case Tkₖ83 => k_extra "mine takes"); (case Dₖ83 => k_extra "mine D"); (case haₖ83 => (first | assumption | rfl)); (case hvₖ83 => (first | assumption | k_extra "o")); skip); intro h'ₖ tk'ₖ u0'ₖ F'ₖ N'ₖ ; (replace N'ₖ := N'ₖ.get (by k_extra "mine puts")); (try dsimp only [List.cons_append, List.nil_append] at N'ₖ); (try dsimp only); (try k_sweep))) | fail "no"); trivial
example : True := by (k_with "cr" => first | (((show wpAny _ _ (call (Value.ref 584) _ _) _ _ _); (refine wpAny_call ?_); (k_dflt refine' Mine.row_C ?Cₖ82 ?Fₖ82 ?Nₖ82 ?Tkₖ82 ?Dₖ82 ?hprₖ82 ?hndₖ82 ?hnvₖ82 ?lopₖ82 ?lonₖ82 ?hzₖ82 ?_; (case Fₖ82 => k_asm); (case Nₖ82 => k_asm); (case Cₖ82 => k_extra "mine cx"); (case Tkₖ82 => k_extra "mine takes"); (case Dₖ82 => k_extra "mine D"); (case hprₖ82 => assumption); (case hndₖ82 => assumption); (case hnvₖ82 => assumption); (case lopₖ82 => assumption); (case lonₖ82 => assumption); (case hzₖ82 => assumption); skip); intro h'ₖ tk'ₖ r'ₖ r1'ₖ t1'ₖ bt'ₖ F'ₖ N'ₖ Df0ₖ ; (replace N'ₖ := N'ₖ.get (by k_extra "mine puts")); (try dsimp only [List.cons_append, List.nil_append] at N'ₖ); (try simp only [List.map_cons, List.map_nil] at Df0ₖ); (try dsimp only); (try k_sweep))) | fail "no"); trivial
namespace Mine
section
variable {w : World} {A₀ A : Around} {s : Shared} {base h₀ : Heap} {L : Addr} {m : Str → Option Value} {own : List (Addr × Obj)} {E : Value → Shared → Prop} {Q : Flow → Shared → Prop}
  {p : Program} {loose : List Str} {mean : ExcName → Option Value} {mg mb : Str → Option Value} {S : LS} {i : Nat} {I fl : Addr} {oI : Obj}
  {name qual : Str} {params : Arguments} {body : List Stmt} {scope : Scope} {dV kV doc pm cdv cd ct oc : Value} {an od : Option Addr} {osl : Array (Option Value)}
set_option maxRecDepth 100000
set_option maxHeartbeats 4000000
theorem law_power {u v t tr tl : Tok} {y act : Int} {rec : Bs} {vr1 ve1 : List Value} {rz1 ez1 : Nat} (ho : (hd.heap_39 w.params).lookup 636 = some ⟨oc, od, .func (fnOf name qual params body scope dV kV doc pm an cdv ct), osl⟩)
    (C : Cx (hd.heap_39 w.params) A₀ A base h₀ [] (envOfC qual scope L fl cd) L p loose mean mg mb 20) (XB0 : (hd.heap_39 w.params).In base) (TB0 : Top p loose mean mg mb base) (F : Fr h₀ L s.heap m) (ok : S.Ok w i)
    (N : News h₀ L s.heap (({ S with vr := vr1, rz := rz1, ve := ve1, ez := ez1 } : LS).led w ++ [(I, oI)])) (D : ((({ S with vr := vr1, rz := rz1, ve := ve1, ez := ez1 } : LS).led w ++ [(I, oI)]).map (·.1)).Nodup)
    (hvr : BytesAre vr1 (S.recs ++ [rec])) (hve : IntsAre ve1 (endsI S.check S.bl (S.recs ++ [rec])))
    (hi9 : i + 1 ≤ 20) (hcx : S.cx = L + 1) (hx : S.xa = (S.data.length : Int)) (hy : 0 ≤ y) (hr : rec.length ≤ 30)
    (H : Has m (S.names ++ [(Str.ofString "who", .int (S.wv : Int) u), (Str.ofString "y", .int y v), (Str.ofString "act", .int act t), (Str.ofString "record", .bytes rec.toArray tr), (Str.ofString "laid", .bytes (laid S.check S.bl S.data.length rec).toArray tl)]))
    (hE : PassesOwn (model Challenge.rw_xm0852_01.row.prog w) A (envOfC qual scope L fl cd) E) :
    wpG (model Challenge.rw_xm0852_01.row.prog w) A (execs (asIf1 (nth (brE body) 6)) (envOfC qual scope L fl cd)) (JNext h₀ L (LPost w S (i + 1) [(I, oI)] [(Str.ofString "who", .int (S.wv : Int) u)]) s Q) E s := by
  refine ?whole
  refine' lawLit ho ?h2 ?_
  case h2 => k_is
  intro e1 e2
  subst e1
  subst e2
  have XB := C.B
  have XX := C.X
  have XT := C.T
  obtain ⟨a1, a2, a3, a4, a5⟩ := A
  obtain rfl : a3 = some [_] := C.hA
  obtain rfl : a1 = none := C.hh
  have hu9 := C.units
  dsimp only at hu9
  dsimp only [brE, turnB, nth, asFor, asIf1, asIf2]
  dsimp only [LS.led, List.cons_append, List.nil_append] at N D
  replace F := fr_hasL H F
  dsimp only [frL, LS.names, List.cons_append, List.nil_append] at F
  simp only [List.map_cons, List.map_nil] at D
  have hsz : (List.toArray S.data).size ≤ 16777216 := by have h1 := ok.dl; have h2 := ok.i9; rw [List.size_toArray]; k_extra "o"
  have hsl : S.data.length ≤ 400000 := by have h1 := ok.dl; have h2 := ok.i9; k_extra "o"
  have hw2 := ok.wv2
  have hc := ok.hc
  have h8 := ok.h8
  have h41 := ok.h41
  have hal := ok.al
  have hlf := ok.lf
  have hkn := ok.kn
  have hpr := ok.pr
  have hnd := ok.nd
  have hnv := ok.nv
  have lpr := ok.lpr
  have lnd := ok.lnd
  have hll := laid_len (check := S.check) (ln := S.data.length) (rec := rec) h8 (by k_extra "o")
  have hll0 := laid_pos (check := S.check) (bl := S.bl) (ln := S.data.length) (rec := rec)
  generalize hlaid : laid S.check S.bl S.data.length rec = ld at F hll hll0
  have hb0 : 0 ≤ (y.fdiv 64).fmod ((ld.length : Int) + 1) := by rw [Int.fmod_eq_emod_of_nonneg _ (by k_extra "o")]; exact Int.emod_nonneg _ (by k_extra "o")
  have hb1 : (y.fdiv 64).fmod ((ld.length : Int) + 1) < (ld.length : Int) + 1 := by rw [Int.fmod_eq_emod_of_nonneg _ (by k_extra "o")]; exact Int.emod_lt_of_pos _ (by k_extra "o")
  have hne : (ld.length : Int) + 1 ≠ 0 := by k_extra "o"
  refine g_cons_any ?_
  k_extra "mine steps"
  obtain ⟨bg, hbg⟩ : ∃ bg : Nat, (y.fdiv 64).fmod ((ld.length : Int) + 1) = (bg : Int) := ⟨((y.fdiv 64).fmod ((ld.length : Int) + 1)).toNat, by k_extra "o"⟩
  rename Fr _ _ _ _ => F9
  rw [hbg] at F9 hb0 hb1
  refine g_cons_any ?_
  k_extra "mine steps"
  try dsimp only
  have hw3 := C
  refine g_cons (g_if (g_isTrue_compare ?_))
  refine g_call_name ?_
  k_extra "mine steps"
  refine g_callWith_K (K := hd.heap_39 w.params) (by k_is) rfl ?_
  refine g_args_any ?_
  k_extra "mine steps"
  refine g_args_any ?_
  k_extra "mine steps"
  refine g_args_nil ?_
  refine ⟨by k_in, ?_⟩
  try dsimp only
  refine wpG_call ?_
  refine' dies_C (ln := S.data.length) (bl := S.bl) (b := S.data) (rec := rec) ?C ?XB ?TB ?F ?N ?Tk ?D ?ha ?hcl ?hb0 ?hb1 ?hc ?hln ?hbl ok.h8 ok.h41 ?hr ?hz ?hk
  case C => k_extra "mine cx"
  case XB => exact XB0
  case TB => exact TB0
  case F => k_asm
  case N => k_asm
  case Tk => k_extra "mine takes"
  case D => k_extra "mine D"
  case ha => exact hal
  case hcl => rfl
  case hb0 => dsimp only; k_extra "o"
  case hb1 => dsimp only; rw [hlaid]; k_extra "o"
  case hc => exact ok.hc
  case hln => exact hx
  case hbl => rfl
  case hr => k_extra "o"
  case hz => have h1 := ok.dl; have h2 := ok.i9; k_extra "o"
  case hk =>
    intro h' tk' len' left' sp' u0' u1' u3' F' N'
    replace N' := N'.get (by k_extra "mine puts")
    dsimp only at N'
    rw [hlaid, Int.toNat_natCast] at N'
    rw [hlaid]
    try dsimp only
    k_extra "mine steps"
    · exact (decF (by assumption)).elim
    refine g_nil ?_
    try dsimp only
    refine g_cons_any ?_
    k_extra "mine steps"
    try dsimp only
    rename Fr _ _ _ _ => F9
    rename News _ _ _ _ => N9
    rw [Int.toNat_natCast] at F9
    have hpl : (S.data ++ ld.take bg).length ≤ 1000000 := by
      have h1 := ok.dl
      have h2 := ok.i9
      rw [List.length_append, List.length_take]; k_extra "o"
    have hbgl : bg ≤ ld.length := by k_extra "o"
    have hpd0 : (S.data ++ ld.take bg) = (S.data ++ ld).take (S.data.length + bg) := by
      rw [List.take_append, List.take_of_length_le (l := S.data) (by k_extra "o"), Nat.add_sub_cancel_left]
    have hpl2 : (S.data ++ ld.take bg).length = S.data.length + bg := by rw [List.length_append, List.length_take]; k_extra "o"
    generalize hpd : S.data ++ ld.take bg = pd at F9 N9 hpl hpd0 hpl2
    have hpz : (List.toArray pd).size ≤ 16777216 := by rw [List.size_toArray]; k_extra "o"
    refine g_cons_any ?_
    k_extra "mine steps"
    try dsimp only
    have hlkn := ok.lkn
    have hkp := ok.kept
    have hsf := ok.sf
    have hy7 : 0 ≤ y.fdiv 7 := by rw [Int.fdiv_eq_ediv_of_nonneg _ (by decide)]; k_extra "o"
    refine g_cons (g_assign_name (g_call_attr ?_))
    k_extra "mine steps"
    refine g_callWith_K (K := hd.heap_39 w.params) (by k_is) rfl ?_
    refine g_args_any ?_
    k_extra "mine steps"
    refine g_args_nil ?_
    refine ⟨by k_in, ?_⟩
    try dsimp only
    refine wpG_call ?_
    refine' cut_C (b := pd) (rr := y.fdiv 7) ?C ?F ?N ?Tk ?D ?hkn ?hnd ?hnv ?lok ?lon ?hz ?hkept (.inr ?hpv) hy7 ?hk
    case C => k_extra "mine cx"
    case F => k_asm
    case N => k_asm
    case Tk => k_extra "mine takes"
    case D => k_extra "mine D"
    case hkn => exact hkn
    case hnd => exact hnd
    case hnv => exact hnv
    case lok => exact hlkn
    case lon => exact lnd
    case hz => exact hpl
    case hkept => k_extra "o"
    case hpv => rfl
    case hk =>
      intro h' tk' dd ddx nn nnx σ2 ν2 ndo2 kno2 pro2 cl CF F' N' Df
      replace N' := N'.get (by k_extra "mine puts")
      dsimp only [List.cons_append, List.nil_append] at N'
      simp only [List.map_cons, List.map_nil] at Df
      try dsimp only
      k_extra "mine steps"
      rw [hkp] at CF
      rename News _ _ _ _ => N9
      obtain ⟨N2, D2⟩ := closeS (led' := [(dd, instObj 587 ddx), (ddx, diskO w σ2), (σ2.jn, listOf #[] 0), (σ2.kn, kno2), (σ2.pr, pro2), (σ2.nd, ndo2), (nn, instObj 342 nnx), (nnx, nodeO w ν2), (ν2.ba, baO (pd.take cl).toArray), (S.nl, listOf S.vsn.toArray S.zn), (S.cx, S.oc), (S.rl, listOf vr1.toArray rz1), (S.el, listOf ve1.toArray ez1), (I, oI)]) N9 (by k_extra "mine D") (by k_extra "mine takes")
      have hlg : Log S.check S.bl 0 (S.recs ++ [rec]) = S.data ++ ld := by rw [log_snoc, ← ok.dat, hlaid]
      refine' wpG_J (law_power2 (recs := S.recs ++ [rec]) ho C (by assumption) ok hi9 hcx N2 D2 CF hvr hve ?p1 hpl ?p2 ?p3 ?p4 ?p5 hE)
      case p1 => rw [hlg, hpd0]; exact List.take_prefix _ _
      case p2 =>
        intro r hr'
        rcases List.mem_append.mp hr' with h | h
        · exact ok.rl r h
        · rw [List.mem_singleton.mp h]; exact hr
      case p3 => rw [List.length_append, List.length_singleton]; have := ok.rn; k_extra "o"
      case p4 => rw [hlg, List.length_append]; have := ok.dl; k_extra "o"
      case p5 => repeat' (first | exact Mine.Has.nil | refine Mine.Has.cons (by rfl) ?_)
  run_tac Mine.Sh.shrink
end
end Mine
end
section
example : True := by (k_with "cr" => first | (((show wpAny _ _ (call (Value.ref 612) _ _) _ _ _); (refine wpAny_call ?_); (k_dflt refine' Mine.law_laid_C ?Cₖ64 ?Fₖ64 ?Nₖ64 ?hcₖ64 ?hlnₖ64 ?hblₖ64 ?h8ₖ64 ?h41ₖ64 ?hrₖ64 ?_; (case Fₖ64 => k_asm); (case Nₖ64 => k_asm); (case Cₖ64 => k_extra "mine cx"); (case hcₖ64 => assumption); (case hlnₖ64 => (first | rfl | assumption)); (case hblₖ64 => (first | rfl | assumption)); (case h8ₖ64 => assumption); (case h41ₖ64 => assumption); (case hrₖ64 => k_extra "mine size"); skip); intro h'ₖ tk'ₖ t'ₖ F'ₖ N'ₖ; (try dsimp only); (try k_sweep))) | fail "no"); trivial
namespace Mine
section
variable {w : World} {A₀ A : Around} {s : Shared} {base h₀ : Heap} {L : Addr} {m : Str → Option Value} {own : List (Addr × Obj)} {E : Value → Shared → Prop} {Q : Flow → Shared → Prop}
  {p : Program} {loose : List Str} {mean : ExcName → Option Value} {mg mb : Str → Option Value} {S : LS} {i : Nat} {I fl : Addr} {oI : Obj}
  {name qual : Str} {params : Arguments} {body : List Stmt} {scope : Scope} {dV kV doc pm cdv cd ct oc : Value} {an od : Option Addr} {osl : Array (Option Value)}
set_option maxRecDepth 100000
set_option maxHeartbeats 4000000
theorem law_E {u v t : Tok} {y act : Int} (ho : (hd.heap_39 w.params).lookup 636 = some ⟨oc, od, .func (fnOf name qual params body scope dV kV doc pm an cdv ct), osl⟩)
    (C : Cx (hd.heap_39 w.params) A₀ A base h₀ [] (envOfC qual scope L fl cd) L p loose mean mg mb 20) (XB0 : (hd.heap_39 w.params).In base) (TB0 : Top p loose mean mg mb base) (F : Fr h₀ L s.heap m) (ok : S.Ok w i) (hi9 : i + 1 ≤ 20) (hcx : S.cx = L + 1) (N : News h₀ L s.heap (S.led w ++ [(I, oI)])) (D : ((S.led w ++ [(I, oI)]).map (·.1)).Nodup)
    (H : Has m (S.names ++ [(Str.ofString "who", .int (S.wv : Int) u), (Str.ofString "y", .int y v), (Str.ofString "act", .int act t)])) (hy : 0 ≤ y)
    (hE : PassesOwn (model Challenge.rw_xm0852_01.row.prog w) A (envOfC qual scope L fl cd) E) :
    wpG (model Challenge.rw_xm0852_01.row.prog w) A (execs (brE body) (envOfC qual scope L fl cd)) (JNext h₀ L (LPost w S (i + 1) [(I, oI)] [(Str.ofString "who", .int (S.wv : Int) u)]) s Q) E s := by
  refine ?whole
  refine' lawLit ho ?h2 ?_
  case h2 => k_is
  intro e1 e2
  subst e1
  subst e2
  have XB := C.B
  have XX := C.X
  have XT := C.T
  obtain ⟨a1, a2, a3, a4, a5⟩ := A
  obtain rfl : a3 = some [_] := C.hA
  obtain rfl : a1 = none := C.hh
  dsimp only [brE, turnB, nth, asFor, asIf1, asIf2]
  refine g_cons ?_
  refine join_JG F (LPostP w S i [(I, oI)] fun S' ex => S'.xa = (S'.data.length : Int) ∧ ex = [(Str.ofString "who", .int (S.wv : Int) u), (Str.ofString "y", .int y v), (Str.ofString "act", .int act t)]) (law_len (u := u) (v := v) (t := t) (y := y) (act := act) ho C F ok N D H hy) ?_
  rintro m1 l1 h1 tk1 ⟨S1, ex, ok1, hf1, ⟨hx1, rfl⟩, rfl, D1, H1⟩ F1 N1
  have hw1 : S1.wv = S.wv := congrArg Prod.fst hf1
  rw [← hw1] at H1
  replace F1 := fr_hasL H1 F1
  dsimp only [frL, LS.names, List.cons_append, List.nil_append] at F1
  try dsimp only
  have hsl : S1.data.length ≤ 400000 := by have h1 := ok1.dl; have h2 := ok1.i9; k_extra "o"
  have m0 := ok1.m0
  have m30 := ok1.m30
  clear N F H1
  refine g_cons_any ?_
  k_extra "mine steps"
  try dsimp only
  have hrl0 := recB_len (y := y) (most := S1.most) (length := (S1.data.length : Int)) m0
  rename Fr _ _ _ _ => F2
  refine g_cons ?_
  refine' join_JG F2 (LPostP w S1 i [(I, oI)] fun S' ex => S'.xa = (S'.data.length : Int) ∧ ∃ (rec : Bs) (tr : Tok), rec.length ≤ 30 ∧ ex = [(Str.ofString "who", .int (S1.wv : Int) u), (Str.ofString "y", .int y v), (Str.ofString "act", .int act t), (Str.ofString "record", .bytes rec.toArray tr)])
    (law_refuse (u := u) (v := v) (t := t) (y := y) (act := act) (rec := recB y S1.most (S1.data.length : Int)) ho C XB0 TB0 F2 ok1 (by assumption) D1 hx1 hy (by k_extra "o") ?H2 hE) ?_
  case H2 => k_extra "mine has"
  rintro m2 l2 h2 tk2 ⟨S2, ex, ok2, hf2, ⟨hx2, rec, tr, hr, rfl⟩, rfl, D2, H2⟩ F2 N2
  have hw2 : S2.wv = S1.wv := congrArg Prod.fst hf2
  have hwS : S2.fix = S.fix := hf2.trans hf1
  have hcx2 : S2.cx = L + 1 := (congrArg Prod.snd hwS).trans hcx
  rw [← hw2] at H2
  have H3 := H2
  replace F2 := fr_hasL H2 F2
  dsimp only [frL, LS.names, List.cons_append, List.nil_append] at F2
  dsimp only [LS.led, List.cons_append, List.nil_append] at N2 D2
  simp only [List.map_cons, List.map_nil] at D2
  try dsimp only
  clear D1 hsl m0 m30 hrl0 hx1
  have hsl : S2.data.length ≤ 400000 := by have h1 := ok2.dl; have h2 := ok2.i9; k_extra "o"
  have hwv2 := ok2.wv2
  have hc := ok2.hc
  have h8 := ok2.h8
  have h41 := ok2.h41
  have hal := ok2.al
  have hlf := ok2.lf
  have hvl : S2.vr.length ≤ 1000 := by have h1 := ok2.vr.len; have h2 := ok2.rn; have h3 := ok2.i9; k_extra "o"
  have hvl2 : S2.ve.length ≤ 1000 := by
    have h1 := ok2.ve.length
    rw [endsI_len] at h1
    have h2 := ok2.rn
    have h3 := ok2.i9
    k_extra "o"
  refine g_cons_any ?_
  k_extra "mine steps"
  try dsimp only
  have hll := laid_len (check := S2.check) (ln := S2.data.length) (rec := rec) h8 (by k_extra "o")
  refine g_cons_any ?_
  k_extra "mine steps"
  try dsimp only
  refine g_cons_any ?_
  k_extra "mine steps"
  try dsimp only
  have hwvS : S2.wv = S.wv := congrArg Prod.fst hwS
  rw [← hwvS]
  have hlg : Log S2.check S2.bl 0 (S2.recs ++ [rec]) = S2.data ++ laid S2.check S2.bl S2.data.length rec := by rw [log_snoc, ← ok2.dat]
  have hve9 : ∀ t : Tok, IntsAre (S2.ve ++ [.int ((S2.data.length : Int) + ((laid S2.check S2.bl S2.data.length rec).length : Int)) t]) (endsI S2.check S2.bl (S2.recs ++ [rec])) := by
    intro t
    rw [endsI_snoc, hlg, List.length_append, Int.natCast_add]
    exact ints_push ok2.ve
  refine g_cons (g_if_any ?_)
  k_extra "mine steps"
  · refine' wpG_mono (wpG_fix hwS (wpG_J (law_power (S := S2) (rec := rec) (vr1 := S2.vr ++ [.bytes rec.toArray tr]) (ve1 := S2.ve ++ [.int ((S2.data.length : Int) + ((laid S2.check S2.bl S2.data.length rec).length : Int)) _]) ho C XB0 TB0 ?F6 ok2 ?N6 ?D6 ?vr6 ?ve6 hi9 hcx2 hx2 hy hr ?H6 hE))) (fun f s₂ x => ?k6) fun _ _ x => x
    case F6 => assumption
    case N6 =>
      dsimp only [LS.led, List.cons_append, List.nil_append]
      assumption
    case D6 =>
      dsimp only [LS.led, List.cons_append, List.nil_append]
      k_extra "mine D"
    case H6 => k_extra "mine has"
    case vr6 => exact ok2.vr.push
    case ve6 => exact hve9 _
    case k6 =>
      cases f with
      | next => exact g_nil x
      | brk => exact x
      | cont => exact x
      | ret v => exact x
  · refine g_cons ?_
    refine g_expr (g_call_attr ?_)
    k_extra "mine steps"
    refine g_callWith_K (K := hd.heap_39 w.params) (by k_is) rfl ?_
    refine g_args_any ?_
    k_extra "mine steps"
    refine g_args_nil ?_
    refine ⟨by k_in, ?_⟩
    try dsimp only
    refine wpG_call ?_
    refine' add_C (ln := S2.data.length) (bl := S2.bl) (b := S2.data) (rec := rec) ?C7 ?F7 ?N7 ?Tk7 ?D7 ?ha7 ?hc7 ?hln7 ?hbl7 h8 h41 ?hr7 ?hz7 ?hk7 ?hB7 ?hS7
    case C7 => k_extra "mine cx"
    case F7 => k_asm
    case N7 => k_asm
    case Tk7 => k_extra "mine takes"
    case D7 => k_extra "mine D"
    case ha7 => exact hal
    case hc7 => exact hc
    case hln7 => exact hx2
    case hbl7 => rfl
    case hr7 => k_extra "o"
    case hz7 => k_extra "o"
    case hB7 => intro q; cases q
    case hS7 => intro _ q; exfalso; k_extra "o"
    case hk7 =>
      intro _ _ h' tk' left' sp' u0' u1' u3' hl1 hl2 F' N'
      replace N' := N'.get (by k_extra "mine puts")
      dsimp only at N'
      try dsimp only
      refine g_cons_any ?_
      k_extra "mine steps"
      try dsimp only
      refine g_cons_any ?_
      k_extra "mine steps"
      try dsimp only
      repeat (first | refine g_nil ?_ | dsimp only)
      rename News _ _ _ _ => N9
      have e9 : ((S2.data ++ laid S2.check S2.bl S2.data.length rec).length : Int) = S2.xa + ((laid S2.check S2.bl S2.data.length rec).length : Int) := by rw [List.length_append, hx2, Int.natCast_add]
      rw [e9] at N9
      refine' LPost.next (S' := { S2 with σ := { S2.σ with left := _, spent := _, u0 := _, u1 := _ }, vr := S2.vr ++ [.bytes rec.toArray tr], rz := _, recs := S2.recs ++ [rec], ve := S2.ve ++ [.int ((S2.data.length : Int) + ((laid S2.check S2.bl S2.data.length rec).length : Int)) _], ez := _, data := S2.data ++ laid S2.check S2.bl S2.data.length rec, xa := S2.xa + ((laid S2.check S2.bl S2.data.length rec).length : Int), wat := { S2.wat with u3 := _ }, xat := _, td := _ }) ?F8 ?N8 ?D8 ?T8 ?H8 ?e8 ?ok8
      case F8 => assumption
      case N8 => exact N9
      case H8 => k_extra "mine has"
      case D8 => k_extra "mine D"
      case T8 => k_extra "mine led"
      case e8 => exact hwS
      case ok8 =>
        exact { ok2 with
          lf := by dsimp only; k_extra "o"
          xa0 := by dsimp only; k_extra "o"
          dat := hlg.symm
          rl := by
            intro r hr'
            rcases List.mem_append.mp hr' with h | h
            · exact ok2.rl r h
            · rw [List.mem_singleton.mp h]; exact hr
          rn := by dsimp only; rw [List.length_append, List.length_singleton]; have := ok2.rn; k_extra "o"
          dl := by dsimp only; rw [List.length_append]; have := ok2.dl; k_extra "o"
          vr := ok2.vr.push
          ve := hve9 _
          sf := by dsimp only; rw [List.length_append]; have := ok2.sf; k_extra "o"
          i9 := hi9 }
  run_tac Mine.Sh.shrink
end
end Mine
end
section
example : True := by (k_with "cr" => first | (((show wpAny _ _ (call (Value.ref 598) _ _) _ _ _); (refine wpAny_call ?_); (k_dflt refine' Mine.draw_C ?Cₖ57 ?Fₖ57 ?Nₖ57 ?Tkₖ57 ?Dₖ57 ?hiₖ57 ?h1ₖ57 ?h2ₖ57 ?hnₖ57 ?_; (case Fₖ57 => k_asm); (case Nₖ57 => k_asm); (case Cₖ57 => k_extra "mine cx"); (case Tkₖ57 => k_extra "mine takes"); (case Dₖ57 => k_extra "mine D"); (case hiₖ57 => assumption); (case h1ₖ57 => assumption); (case h2ₖ57 => assumption); (case hnₖ57 => (first | rfl | assumption)); skip); intro h'ₖ tk'ₖ t'ₖ F'ₖ N'ₖ ; (replace N'ₖ := N'ₖ.get (by k_extra "mine puts")); (try dsimp only [List.cons_append, List.nil_append] at N'ₖ); (try dsimp only); (try k_sweep))) | fail "no"); trivial
namespace Mine
set_option maxRecDepth 100000 in
theorem swapTo {w : World} {S : LS} {i wv' : Nat} {I : Addr} {oI : Obj} (ok : S.Ok w i) (h : wv' < 2) : ∃ S0 : LS, S0.wv = wv' ∧ S0.cx = S.cx ∧ S0.Ok w i ∧ S0.names = S.names ∧ ∃ rest, Takes (S0.led w ++ [(I, oI)]) (S.led w ++ [(I, oI)]) rest := by
  refine ?whole
  by_cases e : S.wv = wv'
  · exact ⟨S, e, rfl, ok, rfl, _, by dsimp only [LS.led, List.cons_append, List.nil_append]; k_extra "mine takes"⟩
  · refine ⟨{ S with wv := wv', wa := S.wb, wax := S.wbx, fa := S.fb, fax := S.fbx, xa := S.xb, wat := S.wbt, fat := S.fbt, wb := S.wa, wbx := S.wax, fb := S.fa, fbx := S.fax, xb := S.xa, wbt := S.wat, fbt := S.fat, xat := S.xbt, xbt := S.xat }, rfl, rfl, { ok with wv2 := h, xa0 := ok.xb0, xb0 := ok.xa0 }, rfl, [], ?_⟩
    dsimp only [LS.led, List.cons_append, List.nil_append]
    rw [pr2_swap ok.wv2 h e, pr2_swap ok.wv2 h e]
    k_extra "mine takes"
  run_tac Mine.Sh.shrink
end Mine
namespace Mine
section
variable {w : World} {A₀ A : Around} {s : Shared} {base h₀ : Heap} {L : Addr} {m : Str → Option Value} {own : List (Addr × Obj)} {E : Value → Shared → Prop} {Q : Flow → Shared → Prop}
  {p : Program} {loose : List Str} {mean : ExcName → Option Value} {mg mb : Str → Option Value} {S : LS} {i : Nat} {I fl : Addr} {oI : Obj}
  {name qual : Str} {params : Arguments} {body : List Stmt} {scope : Scope} {dV kV doc pm cdv cd ct oc : Value} {an od : Option Addr} {osl : Array (Option Value)}
set_option maxRecDepth 100000
set_option maxHeartbeats 4000000
theorem law_turn {ti : Tok} (ho : (hd.heap_39 w.params).lookup 636 = some ⟨oc, od, .func (fnOf name qual params body scope dV kV doc pm an cdv ct), osl⟩)
    (C : Cx (hd.heap_39 w.params) A₀ A base h₀ [] (envOfC qual scope L fl cd) L p loose mean mg mb 20) (XB0 : (hd.heap_39 w.params).In base) (TB0 : Top p loose mean mg mb base) (F : Fr h₀ L s.heap (fun y => if y = Str.ofString "i" then some (.int ((0 : Int) + (i : Nat) * 1) ti) else m y)) (ok : S.Ok w i) (hi9 : i + 1 ≤ 20) (hcx : S.cx = L + 1) (N : News h₀ L s.heap (S.led w ++ [(I, oI)])) (D : ((S.led w ++ [(I, oI)]).map (·.1)).Nodup)
    (H : Has m S.names) (hE : PassesOwn (model Challenge.rw_xm0852_01.row.prog w) A (envOfC qual scope L fl cd) E) :
    wpG (model Challenge.rw_xm0852_01.row.prog w) A (execs (turnB body) (envOfC qual scope L fl cd)) (JNext h₀ L (fun m' l' => ∃ S' : LS, S'.Ok w (i + 1) ∧ S'.cx = S.cx ∧ l' = S'.led w ++ [(I, oI)] ∧ ((S'.led w ++ [(I, oI)]).map (·.1)).Nodup ∧ Has m' S'.names) s Q) E s := by
  refine ?whole
  refine' lawLit ho ?h2 ?_
  case h2 => k_is
  intro e1 e2
  subst e1
  subst e2
  have XB := C.B
  have XX := C.X
  have XT := C.T
  obtain ⟨a1, a2, a3, a4, a5⟩ := A
  obtain rfl : a3 = some [_] := C.hA
  obtain rfl : a1 = none := C.hh
  dsimp only [turnB, nth, asFor]
  replace F := fr_hasX H F
  rw [show (0 : Int) + (i : Nat) * 1 = (i : Int) by k_extra "o"] at F
  dsimp only [frL, LS.names, List.cons_append, List.nil_append] at F
  dsimp only [LS.led, List.cons_append, List.nil_append] at N D
  simp only [List.map_cons, List.map_nil] at D
  have hns := ok.hns
  have ns1 := ok.ns1
  have ns2 := ok.ns2
  have hi1 : (1 : Int) + (i : Int) = ((1 + i : Nat) : Int) := by k_extra "o"
  refine g_cons_any ?_
  k_extra "mine steps"
  have hx0 := draw_nonneg ok.ns0 (1 + i)
  rename Fr _ _ _ _ => F2
  generalize draw S.ns (1 + i) = xx at F2 hx0
  refine g_cons_any ?_
  k_extra "mine steps"
  try dsimp only
  rename Fr _ _ _ _ => F3
  refine g_cons_any ?_
  refine' join_J F3 (fun m l => l = S.led w ++ [(I, oI)] ∧ ∃ (act : Int) (ta tx : Tok), Has m (S.names ++ [(Str.ofString "x", .int xx tx), (Str.ofString "act", .int act ta)])) ?j1 ?j2
  case j1 =>
    k_extra "mine steps"
    · refine' JNext.next (by assumption) (by assumption) ⟨rfl, _, _, _, ?hh1⟩
      case hh1 => k_extra "mine has"
    · refine' JNext.next (by assumption) (by assumption) ⟨rfl, _, _, _, ?hh2⟩
      case hh2 => k_extra "mine has"
  case j2 =>
    clear F3
    rintro m1 l1 h1 tk1 ⟨rfl, act, ta, tx, H1⟩ F1 N1
    replace F1 := fr_hasL H1 F1
    dsimp only [frL, LS.names, List.cons_append, List.nil_append] at F1
    try dsimp only
    refine g_cons_any ?_
    k_extra "mine steps"
    try dsimp only
    refine g_cons_any ?_
    k_extra "mine steps"
    try dsimp only
    rename Fr _ _ _ _ => F2
    have hb0 : 0 ≤ (xx.fdiv 8).fmod 2 := by rw [Int.fmod_eq_emod_of_nonneg _ (by decide)]; exact Int.emod_nonneg _ (by decide)
    have hb1 : (xx.fdiv 8).fmod 2 < 2 := by rw [Int.fmod_eq_emod_of_nonneg _ (by decide)]; exact Int.emod_lt_of_pos _ (by decide)
    obtain ⟨wv', hwv⟩ : ∃ n : Nat, (xx.fdiv 8).fmod 2 = (n : Int) := ⟨((xx.fdiv 8).fmod 2).toNat, by k_extra "o"⟩
    rw [hwv] at F2
    have hy0 : 0 ≤ xx.fdiv 16 := by rw [Int.fdiv_eq_ediv_of_nonneg _ (by decide)]; k_extra "o"
    generalize xx.fdiv 16 = yy at F2 hy0
    obtain ⟨S0, hw0, hcx0, ok0, hn0, rest0, T0⟩ := swapTo (I := I) (oI := oI) ok (show wv' < 2 by k_extra "o")
    subst hw0
    rename News _ _ _ _ => N2
    have N3 := T0.left N2
    have D3 := T0.nodupL (show ((S.led w ++ [(I, oI)]).map (·.1)).Nodup by dsimp only [LS.led, List.cons_append, List.nil_append]; k_extra "mine D")
    refine g_cons ?_
    refine' join_JG F2 (fun m l => ∃ tw, LPost w S0 (i + 1) [(I, oI)] [(Str.ofString "who", .int (S0.wv : Int) tw)] m l) ?k1 ?k2
    case k1 =>
      refine g_if_any ?_
      k_extra "mine steps"
      · refine' wpG_K (fun _ _ x => ⟨_, x⟩) (wpG_succ hi9 (wpG_J (law_new (S := S0) (y := yy) ho C ?F6 ok0 ?N6 D3 ?H6)))
        case F6 => assumption
        case N6 => assumption
        case H6 => rw [hn0]; k_extra "mine has"
      · refine g_cons (g_if_any ?_)
        k_extra "mine steps"
        · refine' wpG_last (wpG_K (fun _ _ x => ⟨_, x⟩) (wpG_succ hi9 (wpG_J (law_sync (S := S0) ho C ?F4 ok0 ?N4 D3 ?H4))))
          case F4 => assumption
          case N4 => assumption
          case H4 => rw [hn0]; k_extra "mine has"
        · refine' wpG_last (wpG_K (fun _ _ x => ⟨_, x⟩) (wpG_J (law_E (S := S0) (y := yy) ho C XB0 TB0 ?F5 ok0 hi9 (hcx0.trans hcx) ?N5 D3 ?H5 hy0 hE)))
          case F5 => assumption
          case N5 => assumption
          case H5 => rw [hn0]; k_extra "mine has"
    case k2 =>
      rintro m2 l2 h2 tk2 ⟨tw, S1, ok1, hf1, rfl, D1, H1⟩ F1 N1
      have hw1 : S1.wv = S0.wv := congrArg Prod.fst hf1
      have hcx1 : S1.cx = S.cx := (congrArg Prod.snd hf1).trans hcx0
      rw [← hw1] at H1
      replace F1 := fr_hasL H1 F1
      dsimp only [frL, LS.names, List.cons_append, List.nil_append] at F1
      dsimp only [LS.led, List.cons_append, List.nil_append] at N1 D1
      simp only [List.map_cons, List.map_nil] at D1
      clear N3 D3 F2 H1
      try dsimp only
      have hsl : S1.data.length ≤ 400000 := by have h1 := ok1.dl; have h2 := ok1.i9; k_extra "o"
      have hsz : (List.toArray S1.data).size ≤ 16777216 := by rw [List.size_toArray]; k_extra "o"
      have hwv2 := ok1.wv2
      have hal := ok1.al
      have hkn := ok1.kn
      have hpr := ok1.pr
      have hnd := ok1.nd
      have hnv := ok1.nv
      have lkn := ok1.lkn
      have lpr := ok1.lpr
      have lnd := ok1.lnd
      have hkp := ok1.kept
      have hsf := ok1.sf
      refine g_cons_any ?_
      k_extra "mine steps"
      · exact (bneF (by assumption)).elim
      · rename (_ : Int) ≠ _ => hne
        exact absurd rfl hne
      try dsimp only
      refine g_cons (g_if (g_isTrue_compare ?_))
      refine g_call_attr_on ?_
      refine g_call_attr ?_
      k_extra "mine steps"
      refine g_callWith_K (K := hd.heap_39 w.params) (by k_is) rfl ?_
      refine g_args_any ?_
      k_extra "mine steps"
      refine g_args_nil ?_
      refine ⟨by k_in, ?_⟩
      try dsimp only
      refine wpG_call ?_
      refine' cut_C (pv := #[]) (rt := 0) (b := S1.data) (rr := 0) ?C8 ?F8 ?N8 ?Tk8 ?D8 hkn hnd hnv ?lok8 ?lon8 ?hz8 ?hkept8 (.inl ⟨rfl, rfl⟩) (Int.le_refl 0) ?hk8
      case C8 => k_extra "mine cx"
      case F8 => k_asm
      case N8 => k_asm
      case Tk8 => k_extra "mine takes"
      case D8 => k_extra "mine D"
      case lok8 => exact lkn
      case lon8 => exact lnd
      case hz8 => k_extra "o"
      case hkept8 => k_extra "o"
      case hk8 =>
        intro h' tk' dd ddx nn nnx σ2 ν2 ndo2 kno2 pro2 cl CF F' N' Df
        replace N' := N'.get (by k_extra "mine puts")
        dsimp only [List.cons_append, List.nil_append] at N'
        simp only [List.map_cons, List.map_nil] at Df
        obtain ⟨lf2, al2, md2, nu2, kp2, lo2, hi2, zr2, nd2, ⟨tkn, kn2⟩, ⟨tpr, pr2'⟩, lnd2, lkn2, lpr2⟩ := CF
        have nv2 : valueAt [((1 : Int), Value.ref nn)] 1 = some (.ref nn) := rfl
        have hcs : cl = S1.safe := by have := zr2 rfl; k_extra "o"
        subst hcs
        have hts : (List.toArray (S1.data.take S1.safe)).size ≤ 16777216 := by rw [List.size_toArray, List.length_take]; k_extra "o"
        try dsimp only
        k_extra "mine steps"
        · rename ((_ : List UInt8) != _) = true => hb
          rw [Int.toNat_natCast] at hb
          exact (bneF hb).elim
        repeat (first | refine g_nil ?_ | dsimp only)
        rename News _ _ _ _ => N9
        obtain ⟨N10, D10⟩ := closeS (led' := S1.led w ++ [(I, oI)]) N9 (by k_extra "mine D") (by k_extra "mine led")
        refine' JNext.next (by assumption) N10 ⟨S1, ok1, hcx1, rfl, D10, ?h10⟩
        case h10 => dsimp only [LS.names]; (repeat' (first | exact Mine.Has.nil | refine Mine.Has.cons (by rfl) ?_))
  run_tac Mine.Sh.shrink
end
end Mine
end
section
namespace Mine
section
variable {w : World} {A₀ A : Around} {s : Shared} {base h₀ : Heap} {L : Addr} {m : Str → Option Value} {own : List (Addr × Obj)} {E : Value → Shared → Prop} {Q : Flow → Shared → Prop}
  {p : Program} {loose : List Str} {mean : ExcName → Option Value} {mg mb : Str → Option Value} {S : LS} {i : Nat} {I fl : Addr} {oI : Obj}
  {name qual : Str} {params : Arguments} {body : List Stmt} {scope : Scope} {dV kV doc pm cdv cd ct oc : Value} {an od : Option Addr} {osl : Array (Option Value)}
set_option maxRecDepth 100000
set_option maxHeartbeats 4000000
theorem start_S {w : World} {S : LS} {h₀ h : Heap} {L : Addr} {m : Str → Option Value} {big rest : List (Addr × Obj)} {G : Prop} (_ : Fr h₀ L h m) (N : News h₀ L h big) (H : Has m S.names) (T : Takes (S.led w) big rest) (D : (big.map (·.1)).Nodup) (ok : S.Ok w 0) (e : S.cx = L + 1)
    (k : ∀ S' : LS, S'.Ok w 0 → S'.cx = L + 1 → News h₀ L h (S'.led w) → ((S'.led w).map (·.1)).Nodup → Has m S'.names → G) : G :=
  k S ok e (T.left N) (T.nodupL D) H
theorem turn_up {c : Addr} {s0 : Shared} {h : Heap} {tk : Nat} {M : Model} {t : Sem Flow} (e : c = L + 1)
    (j : wpG M A t (JNext h₀ L (fun m' l' => ∃ S' : LS, S'.Ok w (i + 1) ∧ S'.cx = c ∧ l' = S'.led w ++ own ∧ ((S'.led w ++ own).map (·.1)).Nodup ∧ Has m' S'.names) { s0 with heap := h, toks := tk } (FEnd h₀ L (fun m l => ∃ S : LS, S.Ok w (i + 1) ∧ S.cx = L + 1 ∧ l = S.led w ∧ Has m S.names) own s0 Q)) E { s0 with heap := h, toks := tk }) :
    wpG M A t (FEnd h₀ L (fun m l => ∃ S : LS, S.Ok w (i + 1) ∧ S.cx = L + 1 ∧ l = S.led w ∧ Has m S.names) own s0 Q) E { s0 with heap := h, toks := tk } :=
  wpG_mono j (fun f s₂ x => by
    cases f with
    | next =>
      obtain ⟨h', tk', m', l', e', F, N, S', ok, hc, rfl, D, H⟩ := x
      exact ⟨h', tk', m', S'.led w, e', F, N, D, S', ok, hc.trans e, rfl, H⟩
    | brk => exact x
    | cont => exact x
    | ret v => exact x) fun _ _ x => x
theorem law_all {sl : Addr} {vs : List Value} {ws : List Int} {oc0 : Obj} (ho : (hd.heap_39 w.params).lookup 636 = some ⟨oc, od, .func (fnOf name qual params body scope dV kV doc pm an cdv ct), osl⟩)
    (C : Cx (hd.heap_39 w.params) A₀ A base h₀ [] (envOfC qual scope L fl cd) L p loose mean mg mb 20) (XB0 : (hd.heap_39 w.params).In base) (TB0 : Top p loose mean mg mb base) (F : Fr h₀ L s.heap m) (N : News h₀ L s.heap [(L + 1, oc0)])
    (hcell : ∃ v, oc0.data = .cell v) (H : Has m [(Str.ofString "script", .ref sl)]) (hL : h₀.IsList sl vs.toArray) (hI : IntsAre vs ws) (hws : ws.length ≤ 63)
    (hE : PassesOwn (model Challenge.rw_xm0852_01.row.prog w) A (envOfC qual scope L fl cd) E)
    (hk : ∀ h' tk m', Fr h₀ L h' m' → Q (.ret (.bool true)) { s with heap := h', toks := tk }) :
    wpG (model Challenge.rw_xm0852_01.row.prog w) A (execs body (envOfC qual scope L fl cd)) Q E s := by
  refine ?whole
  refine' lawLit ho ?h2 ?_
  case h2 => k_is
  intro e1 e2
  subst e1
  subst e2
  have XB := C.B
  have XX := C.X
  have XT := C.T
  obtain ⟨a1, a2, a3, a4, a5⟩ := A
  obtain rfl : a3 = some [_] := C.hA
  obtain rfl : a1 = none := C.hh
  have hu9 := C.units
  have hr9 := C.room
  dsimp only at hu9 hr9
  replace F := fr_hasL H F
  dsimp only [frL] at F
  refine g_cons_any ?_
  k_extra "mine steps"
  rename IntsAre _ (List.map _ (List.take 10 ws)) => hI8
  have hl8 := hI8.length
  rw [List.length_map] at hl8
  have hl10 : (List.take 10 ws).length ≤ 10 := by rw [List.length_take]; k_extra "o"
  have hn8 : ∀ x ∈ List.map (fun (k' : Int) => k'.fmod 999983) (List.take 10 ws), 0 ≤ x := by
    intro x hx
    obtain ⟨a, _, rfl⟩ := List.mem_map.mp hx
    rw [Int.fmod_eq_emod_of_nonneg _ (by decide)]; exact Int.emod_nonneg _ (by decide)
  rename Fr _ _ _ _ => F2
  refine g_cons_any ?_
  refine' join_J F2 (fun m l => ∃ (nl : Addr) (vsn : List Value) (zn : Nat) (ns : List Int), l = [(nl, listOf vsn.toArray zn), (L + 1, oc0)] ∧ ([nl, L + 1] : List Addr).Nodup ∧ IntsAre vsn ns ∧ 1 ≤ ns.length ∧ ns.length ≤ 10 ∧ (∀ x ∈ ns, 0 ≤ x) ∧ Has m [(Str.ofString "nums", .ref nl)]) ?j1 ?j2
  case j1 =>
    k_extra "mine steps"
    · refine' JNext.next (l' := [(_, listOf (List.toArray [.int 0 _]) _), (L + 1, oc0)]) (by assumption) ?n1 ⟨_, [.int 0 _], _, [0], rfl, ?d1, .cons 0 _ .nil, by decide, by decide, by simp, ?h1⟩
      case h1 => repeat' (first | exact Mine.Has.nil | refine Mine.Has.cons (by rfl) ?_)
      case n1 => exact newsSub (by assumption) (by k_extra "mine takes")
      case d1 => k_extra "mine D1"
    · refine' JNext.next (l' := [(_, listOf (List.toArray _) _), (L + 1, oc0)]) (by assumption) ?n2 ⟨_, _, _, _, rfl, ?d2, hI8, ?e2, ?f2, hn8, ?h2⟩
      case h2 => repeat' (first | exact Mine.Has.nil | refine Mine.Has.cons (by rfl) ?_)
      case n2 => exact newsSub (by assumption) (by k_extra "mine takes")
      case d2 => k_extra "mine D1"
      case e2 => k_extra "o"
      case f2 => rw [List.length_map]; k_extra "o"
  case j2 =>
    clear F2
    rintro m1 l1 h1 tk1 ⟨nl, vsn, zn, ns, rfl, D0, hns, ns1, ns2, ns0, H1⟩ F1 N1
    replace F1 := fr_hasL H1 F1
    dsimp only [frL] at F1
    try dsimp only
    have h00 : (0 : Int) = ((0 : Nat) : Int) := rfl
    have hs0 := draw_nonneg ns0 0
    refine g_cons_any ?_
    k_extra "mine steps"
    try dsimp only
    rename Fr _ _ _ _ => F2
    generalize draw ns 0 = sx at F2 hs0
    refine g_cons_any ?_
    k_extra "mine steps"
    try dsimp only
    have hb0 : 0 ≤ (sx + 9).fmod 33 := by rw [Int.fmod_eq_emod_of_nonneg _ (by decide)]; exact Int.emod_nonneg _ (by decide)
    have hb1 : (sx + 9).fmod 33 < 33 := by rw [Int.fmod_eq_emod_of_nonneg _ (by decide)]; exact Int.emod_lt_of_pos _ (by decide)
    obtain ⟨bl, hbl⟩ : ∃ bl : Nat, 8 + (sx + 9).fmod 33 = (bl : Int) := ⟨(8 + (sx + 9).fmod 33).toNat, by k_extra "o"⟩
    rename Fr _ _ _ _ => F2
    rw [hbl] at F2
    have h8 : 8 ≤ bl := by k_extra "o"
    have h41 : bl ≤ 41 := by k_extra "o"
    refine g_cons_any ?_
    k_extra "mine steps"
    try dsimp only
    have hk0 : 0 ≤ (sx.fdiv 33).fmod 2 := by rw [Int.fmod_eq_emod_of_nonneg _ (by decide)]; exact Int.emod_nonneg _ (by decide)
    have hk1 : (sx.fdiv 33).fmod 2 < 2 := by rw [Int.fmod_eq_emod_of_nonneg _ (by decide)]; exact Int.emod_lt_of_pos _ (by decide)
    have hc : 2 - (sx.fdiv 33).fmod 2 = 1 ∨ 2 - (sx.fdiv 33).fmod 2 = 2 := by k_extra "o"
    rename Fr _ _ _ _ => F2
    generalize 2 - (sx.fdiv 33).fmod 2 = check at F2 hc
    clear hb0 hb1 hk0 hk1
    rename Fr _ _ _ _ => F3
    refine g_cons_any ?_
    refine' join_J F3 (fun m l => ∃ (most : Int) (tb tc tm : Tok), l = [(nl, listOf vsn.toArray zn), (L + 1, oc0)] ∧ 0 ≤ most ∧ most ≤ 30 ∧ Has m [(Str.ofString "nums", .ref nl), (Str.ofString "block", .int (bl : Int) tb), (Str.ofString "check", .int check tc), (Str.ofString "most", .int most tm)]) ?j3 ?j4
    case j3 =>
      k_extra "mine steps"
      refine' JNext.next (by assumption) (by assumption) ⟨_, _, _, _, rfl, ?m0, ?m30, ?h3⟩
      case h3 => repeat' (first | exact Mine.Has.nil | refine Mine.Has.cons (by rfl) ?_)
      case m0 => split <;> k_extra "o"
      case m30 => split <;> k_extra "o"
    case j4 =>
      clear F3
      rintro m2 l2 h2 tk2 ⟨most, tb, tc, tm, rfl, m0, m30, H2⟩ F1 N1
      replace F1 := fr_hasL H2 F1
      dsimp only [frL] at F1
      try dsimp only
      refine g_cons_any ?_
      k_extra "mine steps"
      try dsimp only
      refine g_cons (g_assign_name (g_call_attr ?_))
      k_extra "mine steps"
      refine g_callWith_K (K := hd.heap_39 w.params) (by k_is) rfl ?_
      refine g_args_any ?_
      k_extra "mine steps"
      refine g_args_nil ?_
      refine ⟨by k_in, ?_⟩
      try dsimp only
      refine wpG_call ?_
      refine' create_C (nkv := []) (σ := ⟨-1, 0, true, _, 0, _, _, _, _, _, _, _, _, _, _, _, _, _, _⟩) ?C1 ?F1 ?N1 ?Tk1 ?D1 ?hpr1 ?hnd1 ?hnz1 ?ha1 ?hl1 ?lop1 ?hk1
      case C1 => k_extra "mine cx"
      case F1 => k_asm
      case N1 => k_asm
      case Tk1 => k_extra "mine takes"
      case D1 => k_extra "mine D"
      case hpr1 => assumption
      case hnd1 => assumption
      case hnz1 => decide
      case ha1 => rfl
      case hl1 => show (-1 : Int) < 0; decide
      case lop1 => assumption
      case hk1 =>
        intro h' tk' q' pro' ndo' f' fx' n' nx' ba' st' sx' left' u0' u1' u2' ut' a0 a1 a2' a3 a4' b0 b1 b2 b3 b4 c0 c1 c2 c3 c4 c5 c6 c7 F' N' Df hl' hp' hn'
        replace N' := N'.get (by k_extra "mine puts")
        dsimp only [List.cons_append, List.nil_append] at N'
        simp only [List.map_cons, List.map_nil] at Df
        try dsimp only
        k_extra "mine steps"
        dsimp only at hl'
        have hl2 : left' < 0 := by k_extra "o"
        have hp3 : pro'.IsDictOf (strKind Challenge.rw_xm0852_01.row.prog w) [("j", .int (0 + 1) ut')] := hp'
        have nv3 : valueAt (stored ([] : List (Int × Value)) (0 + 1) (.ref n')) (0 + 1) = some (.ref n') := rfl
        have hz0 : (#[] : Array UInt8).size ≤ 16777216 := by decide
        refine g_cons_any ?_
        k_extra "mine steps"
        rename Obj.IsDictOf _ _ (stored [] _ _) => hkno9
        rename (_ : Int) = DiskS.left _ => hlf9
        dsimp only at hlf9
        refine g_cons_any ?_
        k_extra "mine steps"
        try dsimp only
        refine g_cons_any ?_
        k_extra "mine steps"
        try dsimp only
        refine g_cons_any ?_
        k_extra "mine steps"
        try dsimp only
        refine g_cons_any ?_
        k_extra "mine steps"
        try dsimp only
        refine g_cons_any ?_
        k_extra "mine steps"
        try dsimp only
        refine g_cons_any ?_
        k_extra "mine steps"
        try dsimp only
        refine g_cons (g_For ?_)
        k_extra "mine iter"
        rename IsRange _ _ _ _ _ _ _ _ => rgX
        rename Fr _ _ _ _ => lF
        rename News _ _ _ _ => lN
        refine' start_S (w := w) (S := ⟨nl, vsn, zn, ns, L + 1, oc0, _, _, ⟨_, _, true, _, 0 + 1, _, _, _, _, _, _, _, _, _, _, _, _, _, _⟩, _, _, _, _, 0 + 1, c7, ut', stored [] (0 + 1) (.ref n'), n', nx', ⟨0 + 1, ba', _, _, _, _, _, _⟩, _, _, 0, _, _, _, _, 0, ⟨_, _, _, _, _, _, _⟩, ⟨_, _, _, _, _⟩, _, _, _, _, 0, ⟨_, _, _, _, _, _, _⟩, ⟨_, _, _, _, _⟩, _, _, _, _, _, [], _, [], _, [], _, [], 0, bl, check, most, tb, tc, tm, _, _⟩) lF lN ?H9 ?T9 ?D9 ?ok9 rfl ?go9
        case H9 => dsimp only [LS.names]; (repeat' (first | exact Mine.Has.nil | refine Mine.Has.cons (by rfl) ?_))
        case T9 => k_extra "mine led"
        case D9 => k_extra "mine D"
        case ok9 =>
          exact {
            hns := hns
            ns1 := ns1
            ns2 := ns2
            ns0 := ns0
            hc := hc
            h8 := h8
            h41 := h41
            m0 := m0
            m30 := m30
            al := rfl
            lf := by dsimp only; k_extra "o"
            kn := hkno9
            pr := hp3
            nd := hn'
            nv := nv3
            lkn := by dsimp only; assumption
            lpr := by dsimp only; assumption
            lnd := by dsimp only; assumption
            kept := rfl
            wv2 := Nat.zero_lt_succ _
            xa0 := Int.le_refl _
            xb0 := Int.le_refl _
            dat := rfl
            rl := fun r hr => nomatch hr
            rn := Nat.le_refl _
            dl := Nat.zero_le _
            vr := .nil
            ve := .nil
            sf := Nat.le_refl _
            i9 := Nat.zero_le _
            cell := hcell }
        case go9 =>
          clear lN
          intro S0 ok0 hcx0 lN D0 H0
          refine' range_JG (n := 9) (fun i m l => ∃ S : LS, S.Ok w i ∧ S.cx = L + 1 ∧ l = S.led w ∧ Has m S.names) (by rfl) (by rfl) (by rfl) rgX (by decide) (by rfl) lF lN D0 ⟨S0, ok0, hcx0, rfl, H0⟩ ?turn ?done hE
          case turn =>
            clear lF lN rgX
            rintro i m1 l1 tt h tk I2 oI2 hi ⟨S1, ok1, hcx1, rfl, H1⟩ D1 F' N'
            exact turn_up hcx1 (law_turn ho C XB0 TB0 F' ok1 (by k_extra "o") hcx1 N' D1 H1 hE)
          case done =>
            clear lF lN rgX
            rintro m1 l1 h tk ⟨S1, ok1, hcx1, rfl, H1⟩ D1 F' N'
            replace F' := fr_hasL H1 F'
            dsimp only [LS.led, List.cons_append, List.nil_append] at N' D1
            dsimp only [frL, LS.names, List.cons_append, List.nil_append] at F'
            simp only [List.map_cons, List.map_nil] at D1
            try dsimp only
            have hdl := ok1.dl
            have hsl : S1.data.length ≤ 1000000 := by k_extra "o"
            have hsz : (List.toArray S1.data).size ≤ 16777216 := by rw [List.size_toArray]; k_extra "o"
            have hal := ok1.al
            have hpr := ok1.pr
            have hnd := ok1.nd
            have hnv := ok1.nv
            have lpr := ok1.lpr
            have lnd := ok1.lnd
            have hrl := ok1.rl
            have hrn := ok1.rn
            have hc1 := ok1.hc
            refine g_cons (g_assign ?_)
            refine g_call_name ?_
            k_extra "mine steps"
            refine g_callWith_K (K := hd.heap_39 w.params) (by k_is) rfl ?_
            refine g_args_any ?_
            k_extra "mine steps"
            refine g_args_any ?_
            k_extra "mine steps"
            refine g_args_any ?_
            k_extra "mine steps"
            refine g_args_nil ?_
            refine ⟨by k_in, ?_⟩
            try dsimp only
            refine wpG_call ?_
            refine' read_all_C (b := S1.data) (recs := S1.recs) ?C7 ?F7 ?N7 ?D7 rfl ok1.h8 ok1.h41 hc1 hsl ok1.dat (fun r hr => Nat.le_trans (hrl r hr) (by decide)) (by k_extra "o") ?hk7
            case C7 => k_extra "mine cx"
            case F7 => k_asm
            case N7 => k_asm
            case D7 => k_extra "mine D"
            case hk7 =>
              rintro h' tk' tpx lsx vsx zzx rx rdx ⟨ra, rb, rc, rd, re, rs, r0, r1, r2, r3, r4, r5, r6, r7⟩ hvs hgd htn F' N' Df
              dsimp only at hgd htn
              subst hgd
              subst htn
              replace N' := N'.get (by k_extra "mine puts")
              dsimp only [List.cons_append, List.nil_append] at N'
              simp only [List.map_cons, List.map_nil] at Df
              have hvr1 := ok1.vr
              try dsimp only
              k_extra "mine steps"
              refine g_cons_any ?_
              k_extra "mine steps"
              · rename (_ : Int) ≠ _ => hne
                exact absurd rfl hne
              try dsimp only
              refine g_cons_any ?_
              k_extra "mine steps"
              all_goals try dsimp only
              all_goals exact hk _ _ _ (by assumption)
  run_tac Mine.Sh.shrink
end
end Mine
end
section
set_option maxRecDepth 100000
set_option maxHeartbeats 4000000
theorem PySem.Challenge.cw_xm0852_01_holds : PySem.Challenge.rw_xm0852_01.Holds := by
  refine ?whole
  refine Mine.hd ?_
  k_fill
  intro w s₀ s₁ mg mb G Y fa o pm cd doc dV kV ho hd hcd hD hmg hg args vals as hpre hlay hrd hwl hlo
  have KX := kIn_of Y
  have X := (Ground.X G).1
  have V := (Ground.X G).2
  refine Ground.open G ?_
  intro T B D TE TW
  clear hmg
  wrow_args hpre hlay hrd hwl hlo
  refine Mine.enter_callG ?_
  refine Mine.codeG_mono ?_ (fun _ _ g => GoodW.toG g)
  have K0 := below_caller (Top.heap T)
  have he := Dflts.none hD rfl
  subst he
  have he := Dflts.noKw hD
  subst he
  refine Mine.callG_cellsN (by decide) ho (fd_plain hd) (Top.nolimit T) hcd rfl (kinds_of (by kinds_ok)) (by decide) fun h₁ tk₁ cells F N0 X0 => ?_
  have hY := PyProof.Rows.CellsAre.one X0
  obtain ⟨oc0, he0, hd0⟩ := hY
  subst he0
  clear hd
  refine' Mine.law_all (fl := fa) (cd := cd) (A₀ := callerA) (base := s₁.heap) (h₀ := s₁.heap) (L := s₁.heap.objs.size) ?ho ?C KX T F N0 ⟨_, hd0⟩ ?H ?hL ?hI ?hws ?hE ?hk
  case ho => k_is
  case C => exact ⟨K0, KX, T, rfl, rfl, rfl, rfl, by (simp only [depth_deeper, depth_caller]; decide), by (simp only [units_deeper]; first | decide | exact Nat.le_of_ble_eq_true rfl)⟩
  case H => exact .cons rfl .nil
  case hL => assumption
  case hI => assumption
  case hws => k_extra "o"
  case hE => passes_own
  case hk =>
    intro h' tk m' F'
    dsimp only
    wrow_close
  run_tac Mine.Sh.shrink
end
end
